import PyProof.Rows.All
import Wide.All
import OpenK.AllK
import Wide.FinOn
import KE.GoesRaise
import HandS.ForMost
import HandS.Exc
import HandS.TryOnly
import HandS.ExcInit
import HandS.ExcCtx
import HandS.SuiteRaise
import HandS.RaiseFrom
import HandS.ExcInitHot
import HandS.ExcField
import KE.KOpsOwn
import HandS.ClsMeth
import HandS.Defaults
import KE.GoesEnum
import HandS.Zip
import HandS.IsInst
import KE.SortUse
import HandS.Lambda
import HandS.SortKw
import HandS.StrMore
import HandS.ExcOwn
import HandS.ExcIs
import HandS.Style
import HandS.Codes
import HandS.MakeKwOnly
import HandS.SetKeys
import HandS.TupAny
import HandS.Wide
import HandS.WordsExc
import HandS.HeadHook4
import HandS.HeadWalk
import HandS.Head0
import HandS.Head1
import HandS.Head2
import KE.KExcIs
import HandS.Walk
import HandS.More
import KE.DataEq
import PySem.Challenge.RW_keysthroughtext_k85_whole_nothing_is_con
set_option Elab.async false
set_option linter.all false
set_option maxRecDepth 100000
set_option maxHeartbeats 4000000
/-! a list comprehension whose element may let an error out -/
namespace Rn
open PySem PySem.Spec PyProof.Rows L2 HandSPX
abbrev Cx.bx (X : Cx) (s : Shared) (H : Hp) (sc : Scope) (ce : Env) (fp : List Addr) (xe : Value → Shared → Prop) : Cx := { X.blk s H sc ce fp with xe := xe }
/-- an error that a callee let out, over a state of ours: flying -/
theorem fly_of {X : Cx} {pins : List (Addr × Obj)} {σ : L2.St} {H : Hp} {s s' : Shared} {E : XK} {u : Value} (I : Inv X pins σ H s) (c : L2N.CX X.prog X.w X.stack H s E u s') :
    ∃ (a : Addr) (B : Heap) (t : Shared) (H' : Hp) (cls : Value) (d : Option Addr), u = .ref a ∧ (∃ pins' σ', Inv X pins' σ' H' t) ∧ (∀ b o, t.heap.get? b = some o → b ∉ frs X.stack → B.get? b = some o) ∧
      t.heap.UpToSlots s'.heap ∧ FlyingZ B X.stack a (L2N.Zn cls d) s'.heap ∧ H' a = none ∧ s'.os = t.os ∧ AllBare s'.gens ∧ E cls d H' := by
  obtain ⟨a1, _, _, _, _, ea, fl1, _⟩ := id c
  obtain ⟨a, B, t, pins', σ', H', cls, d, eb, J, nb, up, sky, na, os, ag, hE⟩ := L2N.XE.of_call (W := fun cls d _ H' => E cls d H') I (fun _ _ _ h => h) c
  have e1 : a1 = a := by rw [ea] at eb; cases eb; rfl
  subst e1
  obtain ⟨_, _, _, o1, v1, T1, oT1, t1, g1, _, d1, p1, _, _, gT1, dT1, q1⟩ := fl1
  refine ⟨a1, B, t, H', cls, d, eb, ⟨pins', σ', J⟩, nb, up, ?_, na, os, ag, hE⟩
  rcases sky with ⟨_, _, _, o2, v2, g2, _, d2, p2⟩ | fl | ⟨_, _, _, o2, v2, T2, oT2, t2, g2, _, d2, p2, _, _, gT2, dT2, q2⟩
  · rw [g1] at g2; cases g2
    rw [d1] at d2; cases d2
    rw [p1] at p2; cases p2
  · exact fl
  · rw [g1] at g2; cases g2
    rw [d1] at d2; cases d2
    rw [p1] at p2; cases p2
    rw [gT1] at gT2; cases gT2
    rw [dT1] at dT2; cases dT2
    rw [q1] at q2
    exact absurd q2 (by simp [rawInt])
section
variable {X : Cx} {pins : List (Addr × Obj)} {σ : L2.St} {H3 : Hp} {s3 : Shared} {E : XK} {W : WX} {scope : Scope} {ce : Env} {fp : List Addr}
/-- what a callee lets out within the block is taken by the def around -/
theorem passes_bx (hs : X.stack = X.env :: X.outer) (hf : X.env.frame = some X.env.locals) (tk : L2N.Takes X W) (hW : ∀ c d H, E c d H → W c d σ H) (I3 : Inv X pins σ H3 s3) (hfp : ∀ b ∈ fp, FpOk X pins H3 b)
    (hL : ce.locals = s3.heap.objs.size) (hcf : ce.frame = X.env.frame) :
    Passes (L2N.CX X.prog X.w) (Cx.bx X s3 H3 scope ce fp (notedBy (model X.prog X.w) X.A ce (CompFails (model X.prog X.w) X.A X.xe ce))) E := by
  intro pb σb Hb sb e s' Ib c
  have hfr : X.A.frames = some (X.env :: X.outer) := by rw [I3.ok.frames, hs]
  obtain ⟨a, B, t, H', cls, d, rfl, ⟨p', σ', J⟩, nb, up, fl, na, os, ag, hE⟩ := fly_of (X := Cx.bx X s3 H3 scope ce fp (notedBy (model X.prog X.w) X.A ce (CompFails (model X.prog X.w) X.A X.xe ce))) Ib c
  have fl : FlyingZ B X.stack a (L2N.Zn cls d) s'.heap := fl
  have nb : ∀ b o, t.heap.get? b = some o → b ∉ frs X.stack → B.get? b = some o := nb
  rw [hs] at fl
  show wpAny _ _ (noteFrame (.ref a) ce) _ _ s'
  rw [noteFrame_env _ hcf]
  refine PXN.looks_onZ L2N.Zn.steady hfr hf fl fun h1 hh up1 => ?_
  obtain ⟨m, hn, _⟩ := J.loc
  have hn : t.heap.Ns ce.locals m := hn
  have n1 : h1.Ns ce.locals m := Heap.Ns.upToSlots (Heap.Ns.upToSlots hn up) up1
  refine ⟨m, n1, fun h2 m2 hn2 sb2 => ?_⟩
  obtain ⟨b1, b0, f1, oe, vs, T, oT, ts, he, hz, hd, hv1, hnT, hTe, hT, hdT, h3⟩ := hh
  obtain ⟨oL, esL, epL, goL, gdL, _⟩ := n1
  have aC : a ≠ ce.locals := fun z => by
    rw [← z, he] at goL; cases goL
    rw [hd] at gdL; cases gdL
  have TC : T ≠ ce.locals := fun z => by
    rw [← z, hT] at goL; cases goL
    rw [hdT] at gdL; cases gdL
  have f2 : h2.FunFrames B (X.env :: X.outer) := Heap.FunFrames.sameBut sb2 hn2 f1
  let B' := PySem.W.hideAll B [ce.locals]
  have ofB : ∀ b o, B'.get? b = some o → B.get? b = some o ∧ b ≠ ce.locals := fun b o e => ⟨PySem.W.of_hideAll _ e, fun z => by
    rw [z, PySem.W.hideAll_none _ (List.mem_singleton.mpr rfl)] at e; cases e⟩
  have noB : ∀ b, B.get? b = none → B'.get? b = none := fun b e => by
    cases q : B'.get? b with
    | none => rfl
    | some o => rw [(ofB b o q).1] at e; cases e
  have held : HeldZ B' (X.env :: X.outer) a (L2N.Zn cls d) X.env.locals h2 :=
    ⟨fun b o e => (sb2.2 b (ofB b o e).2).trans (b1 b o (ofB b o e).1), noB a b0, funFrames_none f2 fun L hL => noB L (f2.mem hL).1,
      oe, vs, T, oT, ts, (sb2.2 a aC).trans he, hz, hd, hv1, noB T hnT, hTe, (sb2.2 T TC).trans hT, hdT, h3⟩
  unfold PySem.passOn
  refine wpAny_bind (wpAny_field ((sb2.2 a aC).trans he) hd hv1 ?_)
  rw [if_neg (show ¬ ((Value.ref T == Value.none) = true) from by simp)]
  have fin : wpAny (model X.prog X.w) X.A (setFlight (.ref a) ce.frame) (fun _ s4 => wpAny (model X.prog X.w) X.A (throw (.ref a) : Sem Value) (fun _ _ => False) X.xe s4) X.xe { s' with heap := h2 } := by
    rw [hcf, hf]
    refine setFlight_onZ held fun h4 hh4 up4 => wpAny_throw (tk _ _ ?_)
    have base : Un (frs X.stack) fp H3 H' s3.heap t.heap := J.base
    have old : ∀ b o, s3.heap.get? b = some o → b ≠ ce.locals := fun b o e => by rw [hL]; exact Nat.ne_of_lt (Heap.lt_size e)
    have hid : ∀ b o, t.heap.get? b = some o → b ≠ ce.locals → (PySem.W.hideAll t.heap [ce.locals]).get? b = some o := fun b o e n => PySem.W.hideAll_get _ e fun z => n (List.mem_singleton.mp z)
    have nC : H' ce.locals = none := J.free
    have It : Inv X pins σ H' { t with heap := PySem.W.hideAll t.heap [ce.locals] } := by
      refine I3.call' (ch := fp) J.os ⟨fun b o e n hb hx => hid b o (base.keep b o e n hb hx) (old b o e), fun b o e n hb hx => ?_, base.free, fun b o e hx => ?_, base.tups, base.frzs, base.tbls⟩ (fun b o q => ?_) J.bare
        fun b hb => ⟨(hfp b hb).2.2.2.1, (hfp b hb).2.1, (hfp b hb).2.2.2.2.1, (hfp b hb).2.2.2.2.2⟩
      · obtain ⟨sl, z⟩ := base.slot b o e n hb hx
        exact ⟨sl, hid b _ z (old b o e)⟩
      · obtain ⟨o', z⟩ := base.there b o e hx
        exact ⟨o', hid b o' z (old b o e)⟩
      · refine (J.hok b o q).stay (fun c u hc z => hid c u z fun y => ?_) (fun _ z => z) fun _ _ z => z
        rcases hc with rfl | hc
        · rw [y, nC] at q; cases q
        · rw [y, nC] at hc; cases hc
    refine ⟨a, B', _, pins, σ, H', cls, d, rfl, It, fun b o e hb => ?_, fun b o e hnf => ?_, .inr (.inr (by rw [hs]; exact hh4)), na, os, ag, hW _ _ _ hE⟩
    · have e1 := PySem.W.of_hideAll _ e
      refine PySem.W.hideAll_get _ (nb b o e1 hb) fun z => ?_
      rw [PySem.W.hideAll_none _ z] at e; cases e
    · have e1 := PySem.W.of_hideAll _ e
      have nb1 : b ≠ ce.locals := fun z => by rw [z, PySem.W.hideAll_none _ (List.mem_singleton.mpr rfl)] at e; cases e
      obtain ⟨l1, g1⟩ := up b o e1 hnf
      obtain ⟨l2, g2⟩ := up1 b _ g1 hnf
      obtain ⟨l3, g3⟩ := up4 b _ ((sb2.2 b nb1).trans g2) hnf
      exact ⟨l3, g3⟩
  first
    | exact wpAny_bind (wpAny_pure (wpAny_bind fin))
    | exact wpAny_bind fin
/-- the list comprehension over what PI serves, its element letting errors out as E says -/
theorem pe_lcX {elt tg iter : Expr} {ifs : List Expr} {own : List (Str × Nat)} {pos : Pos} {wi : TI} {g : TG} {tt : TT} {te : TE} (hs : X.stack = X.env :: X.outer) (hf : X.env.frame = some X.env.locals) (tk : L2N.Takes X W) (hW : ∀ c d H, E c d H → W c d σ H)
    (hc : X.calm = true) (hN : X.N.Nodup) (hi : PI X tg iter wi) (ok : BlkOk X.N X.env.scope scope own)
    (hg : ∀ s H C cl fp xe, PG (Cx.bx X s H scope (compEnvC scope cl C X.env) fp xe) tg g) (ht : ∀ s H C cl fp xe, PTs (Cx.bx X s H scope (compEnvC scope cl C X.env) fp xe) ifs tt)
    (he : ∀ s H C cl fp xe, Passes (L2N.CX X.prog X.w) (Cx.bx X s H scope (compEnvC scope cl C X.env) fp xe) E → PE (Cx.bx X s H scope (compEnvC scope cl C X.env) fp xe) elt te)
    (I : Inv X pins σ H3 s3) {Q : VK} (h : tLc wi g tt te (own.map (·.2)) σ H3 Q) (hz : ∀ x, foldedSetIterable iter X.env x = pure x := by intro _; rfl) :
    wpAny (model X.prog X.w) X.A (eval (.ListComp elt [⟨tg, iter, ifs, 0⟩] scope pos) X.env) (EP X pins σ Q) X.xe s3 := by
  have hfree : ∀ y ∈ scope.names, y.2 = .free → ∃ c, X.env.cells.lookup y.1 = some c := fun y hy e => I.ok.has _ (ok.free y hy e)
  rw [eval_ListComp]
  refine comprehension_at (use := none) rfl hz (closure_ok hfree) ok.kind (fun y hy e => by rw [ok.uniq y hy, e])
    (thn (hi.run pins s3 σ H3 _ I h) fun v0 s1 h1 => thn h1 fun itv s2 ⟨it, fp, tn, J, H2, e, I2, T, st2, f2, q⟩ => ?_)
  subst e
  refine wpAny_newObj_type (newEnv_comp ?_) (by show 0 ≤ sizeLine; decide)
  obtain ⟨D, hD⟩ : ∃ D, s2.heap.objs.size = D := ⟨_, rfl⟩
  rw [hD]
  obtain ⟨Wn, ⟨m0, w0⟩, turn⟩ := q D (I2.hok.fresh (Nat.le_of_eq hD))
  obtain ⟨Hd, hHd⟩ : ∃ Hd, upd H2 D (.lst []) = Hd := ⟨_, rfl⟩
  rw [hHd] at w0
  generalize hsd : ({ s2 with heap := s2.heap.push { cls := .type "list", data := .seq ([] : List Value).toArray } } : Shared) = sd
  have hpd : sd.heap = s2.heap.push { cls := .type "list", data := .seq ([] : List Value).toArray } := by rw [← hsd]
  have Id : Inv X pins σ Hd sd := by
    rw [← hHd, ← hsd]
    exact I2.laid (t' := s2.toks) (fun b o z => Heap.get?_push_of_some _ z) (Nat.le_of_eq hD) ⟨Nat.zero_le _, [], 0, .nil, by rw [← hD]; exact Heap.get?_push_size _ rfl⟩
  have fd : ∀ b ∈ fp, FpOk X pins Hd b ∧ b < sd.heap.objs.size := fun b hb => by
    obtain ⟨o, z, _⟩ := T.obj _ _ st2 b hb
    have lt := Heap.lt_size z
    refine ⟨⟨?_, (f2 b hb).2⟩, by rw [hpd, Heap.size_push]; exact Nat.lt_succ_of_lt lt⟩
    rw [← hHd, upd_ne (by rw [← hD]; exact Nat.ne_of_lt lt)]
    exact (f2 b hb).1
  have std : tn 0 sd.heap := T.keep _ _ _ st2 fun b _ o z => by rw [hpd]; exact Heap.get?_push_of_some _ z
  have Ib := block_start Id ok hN fd
  let Cd := sd.heap.objs.size
  let Lc := cellsFrom (sd.heap.objs.size + 1) scope.names (cloFrom X.env.cells scope.names [])
  show codeAny _ _ (.compStart _ 0 (.ref it) (.ref D) (compEnvC scope Lc Cd X.env)) (compEnds (model X.prog X.w) X.A X.xe none (EP X pins σ Q) (.ref D) (compEnvC scope Lc Cd X.env)) { sd with heap := pushCells (sd.heap.push { cls := .type "dict", data := .dict #[] }) scope.names }
  have pa := passes_bx (E := E) (scope := scope) (ce := compEnvC scope Lc Cd X.env) (fp := fp) hs hf tk hW Id (fun b hb => (fd b hb).1) rfl rfl
  obtain ⟨xe, hxe⟩ : ∃ xe, notedBy (model X.prog X.w) X.A (compEnvC scope Lc Cd X.env) (CompFails (model X.prog X.w) X.A X.xe (compEnvC scope Lc Cd X.env)) = xe := ⟨_, rfl⟩
  rw [hxe] at pa
  have rg := hg sd Hd Cd Lc fp xe
  have rt := ht sd Hd Cd Lc fp xe
  have re := he sd Hd Cd Lc fp xe pa
  have nfp : ∀ b ∈ fp, Hd b = none := fun b hb => (fd b hb).1.1
  have Ix : Inv (Cx.bx X sd Hd scope (compEnvC scope Lc Cd X.env) fp xe) [] (wipe σ (own.map (·.2))) Hd { sd with heap := pushCells (sd.heap.push { cls := .type "dict", data := .dict #[] }) scope.names } := by
    obtain ⟨k, a1, a2, a3, a4, a5, a6, a7, a8, a9, a10⟩ := Ib
    exact ⟨⟨k.mod, k.kind, k.glob, k.blt, k.above, k.inj, k.has, k.cab, k.hd, k.frames, k.stk, k.exf, k.bs, k.bsz, k.noex, k.exfs, k.funs, k.frf⟩, a1, a2, a3, a4, a5, a6, a7, a8, a9, a10⟩
  have hce : (compEnvC scope Lc Cd X.env).locals = sd.heap.objs.size := rfl
  generalize compEnvC scope Lc Cd X.env = ce at rg rt re Ix hxe hce ⊢
  have stx : tn 0 ({ sd with heap := pushCells (sd.heap.push { cls := .type "dict", data := .dict #[] }) scope.names } : Shared).heap := T.keep _ _ _ std fun b _ o z => pushCells_keeps _ _ _ _ (Heap.get?_push_of_some _ z)
  generalize ({ sd with heap := pushCells (sd.heap.push { cls := .type "dict", data := .dict #[] }) scope.names } : Shared) = sx at Ix stx ⊢
  have stat : ∀ {σ' : L2.St} {H' : Hp} {s' : Shared}, Inv (Cx.bx X sd Hd scope ce fp xe) [] σ' H' s' → (∀ b ∈ fp, H' b = none) → ∀ b ∈ fp, FpOk (Cx.bx X sd Hd scope ce fp xe) [] H' b := fun {σ' H' s'} I' hn b hb =>
    ⟨hn b hb, (I'.ok.exf b hb).1, I'.ok.exfs b hb, .inl hb, fun x c z => (I'.ok.exf b hb).2 x c z, fun p hp => absurd (show p ∈ ([] : List (Addr × Obj)) ++ [] from hp) (by simp)⟩
  have wk : ∀ {α : Type} {t : Sem α} {Q1 Q2 : α → Shared → Prop} {s : Shared}, wpAny (model X.prog X.w) X.A t Q1 xe s → (∀ a s, Q1 a s → Q2 a s) →
      wpAny (model X.prog X.w) X.A t Q2 (notedBy (model X.prog X.w) X.A ce fun e s' => compEnds (model X.prog X.w) X.A X.xe none (EP X pins σ Q) (.ref D) ce (.error e) s') s := fun {α t Q1 Q2 s} h k =>
    wpAny_mono h k fun _ _ z => by rw [← hxe] at z; exact z
  have loop : codeAny (model X.prog X.w) X.A (.compLoop (.ListComp elt [⟨tg, iter, ifs, 0⟩] scope pos) 0 (.ref it) (.ref D) ce) (compEnds (model X.prog X.w) X.A X.xe none (EP X pins σ Q) (.ref D) ce) sx := by
    refine compLoop_any (fun n s' => ∃ i H', Inv (Cx.bx X sd Hd scope ce fp xe) [] (wipe σ (own.map (·.2))) H' s' ∧ tn i s'.heap ∧ (∀ b ∈ fp, H' b = none) ∧ Wn i n H') ?_ m0 ⟨0, Hd, Ix, stx, nfp, w0⟩
    rintro n s5 ⟨i, H5, I5, st5, n5, w5⟩
    rcases turn i n H5 w5 with ⟨stop, qq⟩ | ⟨go, Nx, hNx, step⟩
    · refine wk (T.done (Cx.bx X sd Hd scope ce fp xe) rfl rfl rfl hc i [] s5 _ H5 xe I5 (stat I5 n5) st5 stop) fun r s6 ⟨hr, I6⟩ => ?_
      subst hr
      have I7 : Inv X pins σ H5 s6 := Id.call' (ch := fp) I6.os I6.base I6.hok I6.bare fun b hb => ⟨(fd b hb).1.2.2.2.1, (fd b hb).1.2.1, (fd b hb).1.2.2.2.2.1, (fd b hb).1.2.2.2.2.2⟩
      have nC : H5 sd.heap.objs.size = none := by
        have z : H5 ce.locals = none := I6.free
        rw [hce] at z
        exact z
      obtain ⟨f0, f1, _, f3, f4, f5⟩ := Id.fpOk (Nat.le_refl _) nC
      obtain ⟨m, hn, _⟩ := I6.loc
      refine ⟨m, hn, fun h2 sb => ⟨.ref D, H5, I7.turned (t' := s6.toks) (it := sd.heap.objs.size) (fun b o hb z => (sb.2 b (by rw [hce]; exact hb)).trans z) f0 f1 f3 f4 f5, rfl, qq⟩⟩
    · refine wk (T.item (Cx.bx X sd Hd scope ce fp xe) rfl rfl rfl hc i [] s5 _ H5 xe I5 (stat I5 n5) st5 go) fun r s6 ⟨u, hr, h6⟩ => ?_
      subst hr
      refine wk h6 fun _ s7 ⟨x, H7, I7, r7, y7, st7, n7⟩ => ?_
      have I8 := I7.pinned (stat I7 n7) (T.obj _ _ st7)
      refine wk (rg.run _ s7 _ H7 x u _ I8 r7 (step x H7 y7)) fun _ s8 ⟨σ8, H8, I9, hw8, q8⟩ => ?_
      refine wk (rt.run _ s8 σ8 H8 _ I9 q8) fun b s9 ⟨H9, I10, q9⟩ => ?_
      have next : ∀ {s' : Shared} {H' : Hp}, Inv (Cx.bx X sd Hd scope ce fp xe) ([] ++ pinsAt fp s7.heap) σ8 H' s' → Nx H' → ∃ m, m < n ∧ ∃ i H', Inv (Cx.bx X sd Hd scope ce fp xe) [] (wipe σ (own.map (·.2))) H' s' ∧ tn i s'.heap ∧ (∀ b ∈ fp, H' b = none) ∧ Wn i m H' := fun {s' H'} I' nx => by
        obtain ⟨m', hm, w'⟩ := hNx H' nx
        have pp : ∀ b ∈ fp, ∀ o, s7.heap.get? b = some o → s'.heap.get? b = some o ∧ H' b = none := fun b hb o z =>
          let k := I'.pin (b, o) (List.mem_append_right _ (List.mem_append_right _ (mem_pinsAt hb z)))
          ⟨k.1, k.2.1⟩
        refine ⟨m', hm, i + 1, H', (I'.unpinned (pins := [])).weak (by rw [← hw8, wipe_length]) (fun j v z => ?_), T.keep _ _ _ st7 fun b hb o z => (pp b hb o z).1, fun b hb => ?_, w'⟩
        · rw [← hw8] at z
          exact (wipe_some z).1
        · obtain ⟨o, z, _⟩ := T.obj _ _ st7 b hb
          exact (pp b hb o z).2
      cases b with
      | false =>
        simp only [Bool.false_eq_true, if_false] at q9 ⊢
        exact next I10 q9
      | true =>
        simp only [if_true] at q9 ⊢
        refine wk (re.run _ s9 σ8 H9 _ I10 q9) fun z s10 ⟨yv, H10, I11, r10, acc, hD10, hz10, nx⟩ => ?_
        exact wk (app_ok (E := xe) (X := Cx.bx X sd Hd scope ce fp xe) (Q := fun _ s' => Inv (Cx.bx X sd Hd scope ce fp xe) ([] ++ pinsAt fp s7.heap) σ8 (upd H10 D (.lst (acc ++ [yv]))) s') I11 hD10 hz10 r10 fun s11 I12 => I12) fun _ s11 I12 => next I12 nx
  exact codeAny_compStart_list loop (T.self X.A 0 _ _ _ stx loop)
end
end Rn
namespace Rn
open PySem PySem.Spec PyProof.Rows L2 HandSPX
/-- as a rule of expressions -/
theorem pe_lcx {X : Cx} {E : XK} {scope : Scope} {elt tg iter : Expr} {ifs : List Expr} {own : List (Str × Nat)} {pos : Pos} {wi : TI} {g : TG} {tt : TT} {te : TE} (hs : X.stack = X.env :: X.outer) (hf : X.env.frame = some X.env.locals) (tk : L2N.Takes X fun c d _ H => E c d H)
    (hc : X.calm = true) (hN : X.N.Nodup) (hi : PI X tg iter wi) (ok : BlkOk X.N X.env.scope scope own)
    (hg : ∀ s H C cl fp xe, PG (Cx.bx X s H scope (compEnvC scope cl C X.env) fp xe) tg g) (ht : ∀ s H C cl fp xe, PTs (Cx.bx X s H scope (compEnvC scope cl C X.env) fp xe) ifs tt)
    (he : ∀ s H C cl fp xe, Passes (L2N.CX X.prog X.w) (Cx.bx X s H scope (compEnvC scope cl C X.env) fp xe) E → PE (Cx.bx X s H scope (compEnvC scope cl C X.env) fp xe) elt te)
    (hz : ∀ x, foldedSetIterable iter X.env x = pure x := by intro _; rfl) : PE X (.ListComp elt [⟨tg, iter, ifs, 0⟩] scope pos) (tLc wi g tt te (own.map (·.2))) :=
  ⟨fun _ _ _ _ _ I h => pe_lcX (W := fun c d _ H => E c d H) hs hf tk (fun _ _ _ q => q) hc hN hi ok hg ht he I h hz⟩
end Rn
set_option Elab.async false
set_option linter.all false
set_option maxRecDepth 100000
set_option maxHeartbeats 4000000
/-! errors whose context is told: made where nothing is handled; caught by name, another one raised from it -/
namespace Rn
open PySem PySem.Spec PyProof.Rows L2 HotX L2H
section
variable {X : Cx} {e : Expr} {es : List Expr} {ta : TA} {p pos : Pos}
/-- C(e, ..) with an own start, made to be raised where nothing is handled -/
theorem pmkN {CX : CXT} {x : Str} {C fI : Addr} {k : Nat} {fd : FuncData} {ps : List Str} {sp : Sp} (T : OexC X.K C)
    (iC : PySem.W.findIn X.K (.ref C) "__init__" = some (some (.ref fI))) (tI : PySem.W.typeIn X.K (.ref fI) = some (.type "function"))
    (F1 : FnOk X.prog X.w X.K X.mg X.base CX k fI fd ps sp) (hr : Room (k + 1) X.A) (hb : Binds X.K fd ps []) (hx : Passes CX X (fun _ _ _ => False))
    (hg : Gl X x) (hm : X.mg x = some (.ref C)) (ha : PA X (e :: es) ta) (hdb : (x == ("__debug__" : Str)) = false := by decide)
    (he : starEach (e :: es) X.env = (false, eval e X.env) :: starEach es X.env := by rfl) (hpl : (backTo pos (starEach es X.env)).any (·.1) = false := by rfl) :
    L2N.PMk X (.Call (.Name x p) (e :: es) [] pos) (tMkO C sp [] ta) := by
  intro pins s σ H Q I h
  have ⟨nm, q, N, bs, bm, sn, sub, ab, col, dd, k0, k1, k2, k3, k5, hC, hbm⟩ := T.cls
  refine wpAny_Call_Name_kw (ld_glob I hg hm ?_ hdb)
  refine PySem.W.callWith_K (h₀ := X.base) I.ok.mod.kin T.kC (thn (ha.run pos pins s σ H _ I h)
    fun us s1 ⟨vs, H1, I1, r1, hz, q1⟩ => ⟨I1.kIn, ?_⟩) he hpl
  show wpAny _ _ (call (.ref C) us) _ _ _
  obtain ⟨hp, g, dr, tk, os⟩ := s1
  have hsz := Nat.le_succ hp.objs.size
  have hq := q1 (hp.objs.size + 1) (I1.hok.fresh hsz)
  rw [List.append_nil] at hq
  have kk : ∀ b o, hp.get? b = some o → ((hp.push (PySem.W.kdv_tup us)).push (PySem.HandSPX.excO C hp.objs.size)).get? b = some o :=
    fun b o e => Heap.get?_push_of_some _ (Heap.get?_push_of_some _ e)
  have hget : ((hp.push (PySem.W.kdv_tup us)).push (PySem.HandSPX.excO C hp.objs.size)).get? (hp.objs.size + 1) = some (PySem.HandSPX.excO C hp.objs.size) := by
    heap_get
  have I2 : Inv X pins σ (upd H1 (hp.objs.size + 1) (exo (hp.objs.size + 1) C none))
      ⟨(hp.push (PySem.W.kdv_tup us)).push (PySem.HandSPX.excO C hp.objs.size), g, dr, tk, os⟩ :=
    I1.laid (t' := tk) (a := hp.objs.size + 1) (o := exo (hp.objs.size + 1) C none)
      (h' := (hp.push (PySem.W.kdv_tup us)).push (PySem.HandSPX.excO C hp.objs.size)) kk hsz (exo_ok hget)
  have r2 : Vals (V.ref (hp.objs.size + 1) :: vs) (Value.ref (hp.objs.size + 1) :: us) := .cons rfl r1
  have hl : (Value.ref (hp.objs.size + 1) :: us).length = ps.length := by
    rw [← r2.length]
    exact F1.len _ _ _ _ hq
  have hus : us.length ≤ sizeLine := by
    rw [← Paired.length r1, sizeLine_eq]
    omega
  have hbb := hb ⟨(hp.push (PySem.W.kdv_tup us)).push (PySem.HandSPX.excO C hp.objs.size), g, dr, tk, os⟩ (Value.ref (hp.objs.size + 1) :: us) I2.kIn
    (by rw [List.append_nil]; exact hl)
  rw [List.append_nil] at hbb
  refine wpAny_call (PySem.HandSPX.call_own F.excBase_ValueError (fun Y => PySem.HandSPX.refsVE_contains Y bm hbm) (I1.kIn _ _ hC)
    (PySem.W.looks_findIn I1.kIn iC) (fun self => PySem.W.bind_fn I1.kIn self tI) hus
    (codeAny_mono (F1.run _ X.stack _ _ ⟨Value.ref (hp.objs.size + 1) :: us, []⟩ (Value.ref (hp.objs.size + 1) :: us) _ _ (fun _ _ _ => False)
      (hr.make C us []) (I2.env0.make C us []) hbb r2 hq) fun r s' hq' => ?_))
  cases r with
  | error er => exact hx pins σ _ _ er s' I2 hq'
  | ok fl =>
    cases fl with
    | ret u =>
      obtain ⟨v, H2, os2, bare2, un2, hok2, rv, ev, d, fs, ea, ed, hd1, q2⟩ := hq'
      subst ev
      obtain ⟨h2, g2, d2, t2, os'⟩ := s'
      obtain ⟨t0, G, J, kG, ge, hoe, na⟩ := mk_end0 (d2 := d2) (t2 := t2) I1 hsz kk un2 hok2 os2 bare2 ea ed hd1
      exact ⟨rv, hp.objs.size + 1, _, _, ⟨G, g2, d2, t2, os'⟩, _, .ref C, some d, rfl, J, kG, ge, hoe, ⟨rfl, rfl, fun vs hv => by cases hv; rfl⟩, rfl, rfl, na, rfl, bare2, raises_own T.exC T.tyC, q2⟩
    | next => exact False.elim hq'
    | brk => exact False.elim hq'
    | cont => exact False.elim hq'
end
/-- the clause's name is gone: the state whose dict of names alone is another one -/
theorem inv_gone {X : Cx} {pins : List (Addr × Obj)} {σ : L2.St} {H : Hp} {s : Shared} {g : Heap} {i : Nat} {n : Str} {m : Str → Option Value} {v : Option Value} (I : Inv X pins σ H s) (hN : X.N.Nodup) (hi : X.N[i]? = some n)
    (hlk : ∀ (j : Nat) (x : Str) (v : V), X.N[j]? = some x → σ[j]? = some (some v) → Vis X.env.scope x → ∃ u, RelV v u ∧ Look X.env s.heap m x u)
    (hn : g.Ns X.env.locals (fun x => if x = n then v else m x)) (sb : Heap.SameBut X.env.locals s.heap g) : Inv X pins (σ.set i none) H { s with heap := g } := by
  have apart : ∀ b o, X.s_0.heap.get? b = some o → b ≠ X.env.locals := fun b o e z => by
    have h1 := Heap.lt_size e
    rw [z] at h1
    exact Nat.lt_irrefl _ (Nat.lt_of_lt_of_le h1 I.ok.above)
  have move : ∀ {b : Addr} {o : Obj}, b ≠ X.env.locals → s.heap.get? b = some o → g.get? b = some o := fun nb e => (sb.2 _ nb).trans e
  constructor
  case ok => exact I.ok
  case os => exact I.os
  case bare => exact I.bare
  case free => exact I.free
  case freeC => exact I.freeC
  case len => rw [List.length_set]; exact I.len
  case base =>
    refine ⟨fun b o e1 e2 e3 e4 => move (apart b o e1) (I.base.keep b o e1 e2 e3 e4), fun b o e1 e2 e3 e4 => ?_, I.base.free, fun b o e1 e2 => ?_, I.base.tups, I.base.frzs, I.base.tbls⟩
    · obtain ⟨sl, q⟩ := I.base.slot b o e1 e2 e3 e4
      exact ⟨sl, move (apart b o e1) q⟩
    · obtain ⟨o', q⟩ := I.base.there b o e1 e2
      exact ⟨o', move (apart b o e1) q⟩
  case loc =>
    refine ⟨_, hn, fun j y w e1 e2 e3 => ?_⟩
    have hj : j ≠ i := fun z => by
      rw [z] at e2
      by_cases hlt : i < σ.length
      · rw [List.getElem?_set_self hlt] at e2; cases e2
      · rw [List.getElem?_eq_none (by rw [List.length_set]; omega)] at e2; cases e2
    rw [List.getElem?_set_ne hj.symm] at e2
    obtain ⟨u, ru, q⟩ := hlk j y w e1 e2 e3
    refine ⟨u, ru, ?_⟩
    rcases q with ⟨k, e⟩ | ⟨k, c, e, z⟩
    · have ny : y ≠ n := fun z => hj (nodup_ix hN e1 (by rw [z]; exact hi))
      exact .inl ⟨k, by show (if y = n then v else m y) = _; rw [if_neg ny]; exact e⟩
    · exact .inr ⟨k, c, e, z.sameBut sb (I.cne y c e)⟩
  case cell =>
    intro y c e
    obtain ⟨w, z⟩ := I.cell y c e
    exact ⟨w, z.sameBut sb (I.cne y c e)⟩
  case pin =>
    intro p hp
    obtain ⟨e, h1, h2, h3⟩ := I.pin p hp
    exact ⟨move h2 e, h1, h2, h3⟩
  case hok =>
    intro b ob e
    refine (I.hok b ob e).stay (fun c w hc q => move (fun z => ?_) q) (fun _ q => q) fun _ _ q => q
    rcases hc with hc | hc
    · rw [← hc, z, I.free] at e; cases e
    · rw [z, I.free] at hc; cases hc
section
variable {X : Cx} {x n : Str} {c : Value} {i : Nat} {body suite : List Stmt} {b₀ : Stmt} {np pos pos' : Pos} {tb : WX → TS} {ts : Addr → Value → Option Addr → TS} {Wout : WX}
/-- try: .. except X as n: .., the suite may raise; what the body lets out has no context -/
theorem ps_try_asX (hs : X.stack = X.env :: X.outer) (hf : X.env.frame = some X.env.locals) (hN : X.N.Nodup) (hi : X.N[i]? = some n) (hln : X.env.kindOf n = some .local) (hc : Names X x c)
    (hpa : ∀ hd : Option Value, PassesOwnAt (model X.prog X.w) (X.A.mark hd) X.A X.env X.xe) (tk : L2.Takes X Wout)
    (hb : ∀ (W : WX) (pn : List (Addr × Obj)) (xe : Value → Shared → Prop), L2N.Takes (X.tr pn xe) W → PassesOwn (model X.prog X.w) X.A X.env xe → PSs (X.tr pn xe) body (tb W))
    (hsu : ∀ (a : Addr) (oe : Obj) (cls : Value) (d : Option Addr) (pn : List (Addr × Obj)) (xe : Value → Shared → Prop), L2N.Zn cls d oe → (∃ vs, oe.data = .fields vs) → L2.Takes ((X.suite a ((a, oe) :: pn)).wish xe) (fun c d σ H => Wout c d (σ.set i none) H) →
      HotC ((X.suite a ((a, oe) :: pn)).wish xe) → PSs ((X.suite a ((a, oe) :: pn)).wish xe) (b₀ :: suite) (ts a cls d)) :
    PS X (.Try body [.ExceptHandler (some (.Name x np)) (some n) (b₀ :: suite) pos'] [] [] pos) (fun D σ H => tb (wAs X.K c i ts Wout D) D σ H) := by
  refine ⟨fun pins s σ H D I h => ?_⟩
  have ok := I.ok
  have hfr : X.A.frames = some (X.env :: X.outer) := by rw [ok.frames, hs]
  have hloc : Loc X.env.scope n := .inl hln
  have hLf : X.env.locals ∈ frs (X.env :: X.outer) := List.mem_filterMap.mpr ⟨X.env, List.mem_cons_self, hf⟩
  have notFr : ∀ {B h : Heap} {a : Addr} {o : Obj} {vs : Array Value}, h.FunFrames B (X.env :: X.outer) → h.get? a = some o → o.data = .fields vs → a ∉ frs (X.env :: X.outer) := fun {B h a o vs} ff e dd hm => by
    obtain ⟨_, o', e', hnf⟩ := ff.mem hm
    rw [e] at e'; cases e'
    exact hnf _ dd
  refine wpAny_Try_except ?_
  refine wpAny_mono ((hb (wAs X.K c i ts Wout D) (X.pn ++ pins) (fun e s₁ => wpAny (model X.prog X.w) X.A (noteFrame e X.env) (fun _ s₂ => wpAny (model X.prog X.w) X.A (setFlight e none) (fun _ s₃ =>
    wpAny (model X.prog X.w) X.A (handleBy e X.env [.ExceptHandler (some (.Name x np)) (some n) (b₀ :: suite) pos']) (SP X pins D) X.xe s₃) X.xe s₂) X.xe s₁) (fun u s' xx => ?_) PassesOwn.looking).run [] s σ H D (I.toTry _) h) (fun f s1 hsp => ?_) (fun e s1 he => he)
  · obtain ⟨a, B, sI, pins', σ', H', cls, d, rfl, J', nb, up, sky, na, os, ag, b, hb1, hyes, hno⟩ := xx
    have J : Inv X pins σ' H' sI := J'.ofTry ok
    have sky' : Sky B (X.env :: X.outer) a (L2N.Zn cls d) X.env.locals s'.heap := by rw [← hs]; exact sky
    show wpAny (model X.prog X.w) X.A (noteFrame (.ref a) X.env) _ _ _
    refine L2N.Sky.land L2N.Zn.steady hfr hf sky' fun h3 fl3 up3 => ?_
    have J3 : Inv X pins σ' H' { s' with heap := h3 } := J.landed nb fl3.1 (up.trans up3) os ag
    obtain ⟨oe3, vs3, he3, hz3, hd3⟩ := fl3.there
    have nfr : a ∉ frs (X.env :: X.outer) := notFr fl3.2.2.1 he3 hd3
    have nL : a ≠ X.env.locals := fun z => nfr (z ▸ hLf)
    have nF : a ∉ X.fs := fun hm => by
      obtain ⟨e, he, q⟩ := List.mem_filterMap.mp hm
      exact nfr (List.mem_filterMap.mpr ⟨e, List.mem_cons_of_mem _ he, q⟩)
    have S3 := J3.suite he3 hd3 na nL nF
    refine wpAny_handleBy_cons (codeAny_handlers_test ?_) (by intro q; cases q)
    have LT : PySem.W.Looks (model X.prog X.w) h3 (typeOf (.ref a)) cls := fun A Q E s k q => wpAny_typeOf_ref (k _ _ he3) (by rw [hz3.1]; exact q)
    have LM := PySem.W.exm_one (M := model X.prog X.w) (J3.kIn) LT hb1
    have test : ∀ {Q : Value → Shared → Prop} {E : Value → Shared → Prop}, Q c { s' with heap := h3 } → wpAny (model X.prog X.w) (X.A.mark (some (.ref a))) (eval (.Name x np) X.env) Q E { s' with heap := h3 } := fun {Q E} q => by
      obtain ⟨hg, hdbg, hm | ⟨hm, hv, hnn⟩⟩ := hc
      · exact ld_glob (X := X.suite a ((a, oe3) :: (X.pn ++ pins))) S3 hg hm q hdbg
      · exact ld_blt (X := X.suite a ((a, oe3) :: (X.pn ++ pins))) S3 hg hm hv q hnn hdbg
    refine test (LM.here ?_)
    cases b with
    | true =>
      refine codeAny_handlers_suite_as ?_
      refine HandSPX.lands_againZ fl3 fun h4 fl4 up4 => ?_
      have J4 : Inv X pins σ' H' { s' with heap := h4 } := J.landed nb fl4.1 ((up.trans up3).trans up4) os ag
      obtain ⟨oe4, vs4, he4, hz4, hd4⟩ := fl4.there
      have S4 := J4.suite he4 hd4 na nL nF
      refine store_ok (X := X.suite a ((a, oe4) :: (X.pn ++ pins))) (v := .ref a) S4 hN hi hloc rfl (fun s5 S5 => ?_) (.inr hln)
      -- what the suite lets out
      obtain ⟨xe5, hxe5⟩ : ∃ xe5 : Value → Shared → Prop, xe5 = fun y s₃ => wpAny (model X.prog X.w) (X.A.mark (some (.ref a))) (noteFrame y X.env) (fun _ s₃' =>
          wpAny (model X.prog X.w) (X.A.mark (some (.ref a))) (do bindName X.env n .none; unbindBehindTheSuite X.env n pos') (fun _ s₄ => wpAny (model X.prog X.w) (X.A.mark (some (.ref a))) (passOn "try.except-as" y X.env : Sem Flow) (fun _ _ => False)
            (notedBy (model X.prog X.w) (X.A.mark (some (.ref a))) X.env (cameBackBy (model X.prog X.w) X.A X.env X.xe)) s₄)
            (fun z s₄ => wpAny (model X.prog X.w) (X.A.mark (some (.ref a))) (setFlight y none) (fun _ s₅ => (notedBy (model X.prog X.w) (X.A.mark (some (.ref a))) X.env (cameBackBy (model X.prog X.w) X.A X.env X.xe)) z s₅)
              (notedBy (model X.prog X.w) (X.A.mark (some (.ref a))) X.env (cameBackBy (model X.prog X.w) X.A X.env X.xe)) s₄) s₃') (notedBy (model X.prog X.w) (X.A.mark (some (.ref a))) X.env (cameBackBy (model X.prog X.w) X.A X.env X.xe)) s₃ := ⟨_, rfl⟩
      have tkS : L2.Takes ((X.suite a ((a, oe4) :: (X.pn ++ pins))).wish xe5) (fun c d σ H => Wout c d (σ.set i none) H) := fun u2 s2 x2 => by
        obtain ⟨a2, B2, sI2, pn2, σ2, H2, cls2, d2, rfl, I2, nb2, up2, sky2, na2, os2, ag2, w2⟩ := x2
        have sky2' : Sky B2 (X.env :: X.outer) a2 (Zc cls2 d2) X.env.locals s2.heap := by rw [← hs]; exact sky2
        have I3 : Inv X pins σ2 H2 sI2 := Inv.unsuite (X := X) I2.unwish ok
        obtain ⟨m, hn, hlk⟩ := id I3.loc
        have hcls : (X.env.scope.kind == .class || (X.env.scope.kind == .module && X.env.locals != X.env.globals)) = false := by rw [ok.kind]; rfl
        have held : ∀ h1, HandSPX.HeldZ B2 (X.env :: X.outer) a2 (Zc cls2 d2) X.env.locals h1 → s2.heap.UpToSlots h1 → wpAny (model X.prog X.w) (X.A.mark (some (.ref a))) (do bindName X.env n .none; unbindBehindTheSuite X.env n pos')
            (fun _ s₄ => wpAny (model X.prog X.w) (X.A.mark (some (.ref a))) (passOn "try.except-as" (.ref a2) X.env : Sem Flow) (fun _ _ => False) (notedBy (model X.prog X.w) (X.A.mark (some (.ref a))) X.env (cameBackBy (model X.prog X.w) X.A X.env X.xe)) s₄)
            (fun z s₄ => wpAny (model X.prog X.w) (X.A.mark (some (.ref a))) (setFlight (.ref a2) none) (fun _ s₅ => (notedBy (model X.prog X.w) (X.A.mark (some (.ref a))) X.env (cameBackBy (model X.prog X.w) X.A X.env X.xe)) z s₅)
              (notedBy (model X.prog X.w) (X.A.mark (some (.ref a))) X.env (cameBackBy (model X.prog X.w) X.A X.env X.xe)) s₄) { s2 with heap := h1 } := by
          intro h1 hh up
          obtain ⟨b1, b0, f1, oe, vs, T, oT, ts, he, hz, hd, hv1, hnT, hTe, hT, hdT, hfl⟩ := hh
          have n1 : h1.Ns X.env.locals m := Heap.Ns.upToSlots (Heap.Ns.upToSlots hn up2) up
          obtain ⟨oL1, _, _, goL1, gdL1, _⟩ := id n1
          have aC : a2 ≠ X.env.locals := fun z => by
            rw [z, goL1] at he; cases he
            rw [gdL1] at hd; cases hd
          have TC : T ≠ X.env.locals := fun z => by
            rw [z, goL1] at hT; cases hT
            rw [gdL1] at hdT; cases hdT
          refine wpAny_nameGoes_keeps hln n1 hcls fun h2 v hn2 sb => ?_
          have f2 : h2.FunFrames B2 (X.env :: X.outer) := Heap.FunFrames.sameBut sb hn2 f1
          have bL : B2.get? X.env.locals = none := (f1.mem hLf).1
          have held2 : HandSPX.HeldZ B2 (X.env :: X.outer) a2 (Zc cls2 d2) X.env.locals h2 := ⟨fun b o e => (sb.2 b fun z => by rw [z, bL] at e; cases e).trans (b1 b o e), b0, f2, oe, vs, T, oT, ts, (sb.2 a2 aC).trans he, hz, hd, hv1, hnT, hTe, (sb.2 T TC).trans hT, hdT, hfl⟩
          unfold PySem.passOn
          refine wpAny_bind (wpAny_field ((sb.2 a2 aC).trans he) hd hv1 ?_)
          rw [if_neg (show ¬ ((Value.ref T == Value.none) = true) from by simp)]
          have fin : wpAny (model X.prog X.w) (X.A.mark (some (.ref a))) (setFlight (.ref a2) X.env.frame) (fun _ s4 => wpAny (model X.prog X.w) (X.A.mark (some (.ref a))) (throw (.ref a2) : Sem Flow) (fun _ _ => False)
              (notedBy (model X.prog X.w) (X.A.mark (some (.ref a))) X.env (cameBackBy (model X.prog X.w) X.A X.env X.xe)) s4) (notedBy (model X.prog X.w) (X.A.mark (some (.ref a))) X.env (cameBackBy (model X.prog X.w) X.A X.env X.xe)) { s2 with heap := h2, toks := s2.toks + 1 } := by
            rw [hf]
            refine HandSPX.setFlight_onZ held2 fun h5 hh5 up5 => wpAny_throw (hpa (some (.ref a)) _ _ (tk _ _ ?_))
            obtain ⟨oL, es, ep, goL, gdL, rL⟩ := id hn2
            obtain ⟨oL0, es0, ep0, goL0, gdL0, _⟩ := id hn
            have live : oL.isFreed = false := by
              obtain ⟨c0, d0, dt, sl⟩ := oL
              have gdL : dt = .dict es ep := gdL
              subst gdL
              rfl
            have gG : (sI2.heap.update X.env.locals (fun _ => oL)).get? X.env.locals = some oL := Heap.get?_update_self (fun _ => oL) goL0 live
            have sbG : Heap.SameBut X.env.locals sI2.heap (sI2.heap.update X.env.locals (fun _ => oL)) := Heap.SameBut.update sI2.heap X.env.locals (fun _ => oL)
            have IG := inv_gone (g := sI2.heap.update X.env.locals (fun _ => oL)) I3 hN hi hlk ⟨oL, es, ep, gG, gdL, rL⟩ sbG
            refine ⟨a2, B2, _, pins, σ2.set i none, H2, cls2, d2, rfl, IG, fun b o e hb => ?_, fun b o e hnf => ?_, .inr (.inr (by rw [hs]; exact hh5)), na2, os2, ag2, w2⟩
            · have nbL : b ≠ X.env.locals := fun z => hb (by rw [z, hs]; exact hLf)
              exact nb2 b o ((sbG.2 b nbL).symm.trans e) hb
            · by_cases z : b = X.env.locals
              · subst z
                have e : some oL = some o := gG.symm.trans e
                cases e
                exact up5 _ _ goL hnf
              · obtain ⟨l1, g1⟩ := up2 b o ((sbG.2 b z).symm.trans e) hnf
                obtain ⟨l2, g2⟩ := up b _ g1 hnf
                obtain ⟨l3, g3⟩ := up5 b _ ((sb.2 b z).trans g2) hnf
                exact ⟨l3, g3⟩
          first
            | exact wpAny_bind (wpAny_pure (wpAny_bind fin))
            | exact wpAny_bind fin
        show xe5 (.ref a2) s2
        rw [hxe5]
        rcases sky2' with ⟨hB, hn0, hl, oe, vs, he, hz, hd, h1⟩ | fl | hh
        · exact HandSPX.look_newZ Zc.steady hfr hl hf he hB hn0 hd h1 hz held
        · exact HandSPX.looks_onZ Zc.steady hfr hf fl held
        · exact HandSPX.againZ hf hh.2.2.2 (held s2.heap hh (Heap.UpToSlots.refl _))
      have hot : HotC ((X.suite a ((a, oe4) :: (X.pn ++ pins))).wish xe5) := ⟨(a, oe4), ⟨rfl, vs4, hd4, hz4.2.2 vs4 hd4⟩, List.mem_cons_self⟩
      refine wpAny_mono ((hsu a oe4 cls d (X.pn ++ pins) xe5 hz4 ⟨_, hd4⟩ tkS hot).run [] s5 _ H' _ (S5.wish xe5) (hyes rfl a na)) (fun f s6 hsp => ?_) (fun y s6 z => by rw [hxe5] at z; exact z)
      have end_ : ∀ {σ6 : L2.St} {H6 : Hp} {Q : Shared → Prop}, Inv ((X.suite a ((a, oe4) :: (X.pn ++ pins))).wish xe5) [] σ6 H6 s6 → (∀ s7, Inv X pins (σ6.set i none) H6 s7 → Q s7) →
          wpAny (model X.prog X.w) X.A (do bindName X.env n .none; unbindBehindTheSuite X.env n pos') (fun _ s7 => Q s7) X.xe s6 := fun {σ6 H6 Q} S6 hq => gone_ok (Inv.unsuite (X := X) S6.unwish ok) hN hi hln hq
      cases f with
      | next =>
        obtain ⟨σ6, H6, S6, q6⟩ := hsp
        exact end_ S6 fun s7 J7 => ⟨_, _, J7, q6⟩
      | brk =>
        obtain ⟨σ6, H6, S6, q6⟩ := hsp
        exact end_ S6 fun s7 J7 => ⟨_, _, J7, q6⟩
      | cont =>
        obtain ⟨σ6, H6, S6, q6⟩ := hsp
        exact end_ S6 fun s7 J7 => ⟨_, _, J7, q6⟩
      | ret u =>
        obtain ⟨v6, σ6, H6, S6, r6, q6⟩ := hsp
        exact end_ S6 fun s7 J7 => ⟨_, _, _, J7, r6, q6⟩
    | false =>
      show wpAny _ X.A (handleBy (.ref a) X.env []) _ _ _
      refine wpAny_handleBy_nil ?_
      obtain ⟨k1, k2, k3, oe, vs, T, oT, ts', he, hz, hd, h1, hr⟩ := id fl3
      unfold PySem.passOn
      refine wpAny_bind (wpAny_field he hd h1 ?_)
      rw [if_neg (show ¬ ((Value.ref T == Value.none) = true) from by simp)]
      have fin : wpAny (model X.prog X.w) X.A (setFlight (.ref a) X.env.frame) (fun _ s4 => wpAny (model X.prog X.w) X.A (throw (.ref a) : Sem Flow) (SP X pins D) X.xe s4) X.xe { s' with heap := h3 } := by
        rw [hf]
        refine HandSPX.setFlight_upZ (flyingZ_imp (fun o z => z.zc) fl3) fun h4 hh4 up4 => wpAny_throw (tk _ _ ?_)
        exact ⟨a, B, sI, pins, σ', H', cls, d, rfl, J, nb, (up.trans up3).trans up4, .inr (.inr (by rw [hs]; exact hh4)), na, os, ag, hno rfl⟩
      first
        | exact wpAny_bind (wpAny_pure (wpAny_bind fin))
        | exact wpAny_bind fin
  · cases f with
    | next =>
      obtain ⟨σ', H', J', q⟩ := hsp
      exact wpAny_execs_nil ⟨σ', H', J'.ofTry ok, q⟩
    | brk =>
      obtain ⟨σ', H', J', q⟩ := hsp
      exact ⟨σ', H', J'.ofTry ok, q⟩
    | cont =>
      obtain ⟨σ', H', J', q⟩ := hsp
      exact ⟨σ', H', J'.ofTry ok, q⟩
    | ret u =>
      obtain ⟨v, σ', H', J', r, q⟩ := hsp
      exact ⟨v, σ', H', J'.ofTry ok, r, q⟩
end
end Rn
set_option Elab.async false
set_option linter.all false
set_option maxRecDepth 100000
set_option maxHeartbeats 4000000
/-! raise X(..) from n, in the suite of a clause that names the caught error n -/
namespace Rn
open PySem PySem.Spec PyProof.Rows L2 HotX L2H
/-- the heap behind the two stores: the cause, and that the context is kept still -/
def caused (h : Heap) (a x : Addr) : Heap := (h.update a (Obj.mapFields (·.setIfInBounds 3 (.ref x)))).update a (Obj.mapFields (·.setIfInBounds 4 (.bool true)))
theorem caused_at {h : Heap} {a x : Addr} {oe : Obj} {vs : Array Value} (ha : h.get? a = some oe) (hd : oe.data = .fields vs) :
    (caused h a x).get? a = some ((oe.mapFields (·.setIfInBounds 3 (.ref x))).mapFields (·.setIfInBounds 4 (.bool true))) ∧ ((oe.mapFields (·.setIfInBounds 3 (.ref x))).mapFields (·.setIfInBounds 4 (.bool true))).data = .fields ((vs.setIfInBounds 3 (.ref x)).setIfInBounds 4 (.bool true)) := by
  have d1 := Obj.data_mapFields hd (·.setIfInBounds 3 (.ref x))
  have g1 := Heap.get?_update_self (Obj.mapFields (·.setIfInBounds 3 (.ref x))) ha (Obj.isFreed_of_fields d1)
  have d2 := Obj.data_mapFields d1 (·.setIfInBounds 4 (.bool true))
  exact ⟨Heap.get?_update_self (Obj.mapFields (·.setIfInBounds 4 (.bool true))) g1 (Obj.isFreed_of_fields d2), d2⟩
theorem caused_ne {h : Heap} {a b x : Addr} (n : a ≠ b) : (caused h a x).get? b = h.get? b :=
  (Heap.get?_update_other _ _ n).trans (Heap.get?_update_other _ _ n)
theorem raise_hotC {prog : Program} {w : World} {A : Around} {E : Value → Shared → Prop} {env : Env} {s : Shared} {x c : Sem Value} {Q : Flow → Shared → Prop} {x1 : Addr}
    (h : wpAny (model prog w) A x (fun v s₁ => ∃ a oe vs cls o1 vs1, v = .ref a ∧ s₁.heap.get? a = some oe ∧ oe.cls = cls ∧ oe.data = .fields vs ∧ vs[1]? = some .none ∧ 4 < vs.size ∧ x1 ≠ a ∧ A.handled = some (.ref x1) ∧
      s₁.heap.get? x1 = some o1 ∧ o1.data = .fields vs1 ∧ vs1[2]? = some .none ∧ PySem.W.Looks (model prog w) s₁.heap (isSubtype o1.cls (.type "BaseException")) true ∧
      (∀ Q' : Value → Shared → Prop, Q' (.ref x1) s₁ → wpAny (model prog w) A c Q' E s₁) ∧
      PySem.W.Looks (model prog w) s₁.heap (isSubtype cls (.type "BaseException")) true ∧ PySem.W.Looks (model prog w) (caused s₁.heap a x1) (typeOf cls) (.type "type") ∧
      E (.ref a) { s₁ with heap := (caused s₁.heap a x1).update a (Obj.mapFields (·.setIfInBounds 2 (.ref x1))) }) E s) :
    wpAny (model prog w) A (raiseStmt env (some x) (some c)) Q E s := by
  unfold raiseStmt
  dsimp only
  refine wpAny_bind (wpAny_mono h (fun v s₁ h₁ => ?_) fun _ _ x => x)
  obtain ⟨a, oe, vs, cls, o1, vs1, rfl, ha, hcls, hd, h1, hi, hne, hh, g1, d1, c1, LB, hcs, L1, L3, hE⟩ := h₁
  have LI : PySem.W.Looks (model prog w) s₁.heap (isInstance (.ref a) (.type "BaseException")) true :=
    PySem.W.Looks.andThen (fun A Q E s k q => wpAny_typeOf_ref (k _ _ ha) (by rw [hcls]; exact q)) L1
  have LC : PySem.W.Looks (model prog w) s₁.heap (isInstance (.ref x1) (.type "BaseException")) true :=
    PySem.W.Looks.andThen (fun A Q E s k q => wpAny_typeOf_ref (k _ _ g1) q) LB
  have noType : ∀ {b : Addr} {o : Obj} {us : Array Value} {hp : Heap} {Q' : Bool → Shared → Prop}, hp.get? b = some o → o.data = .fields us → Q' false { s₁ with heap := hp } → wpAny (model prog w) A (isType (.ref b)) Q' E { s₁ with heap := hp } := by
    intro b o us hp Q' e1 e2 q
    simp only [isType, loadHead]
    refine wpAny_bind (wpAny_loadPart e1 ?_)
    rw [e2]
    exact wpAny_pure q
  have d3 := Obj.data_mapFields hd (·.setIfInBounds 3 (.ref x1))
  have a3 := Heap.get?_update_self (Obj.mapFields (·.setIfInBounds 3 (.ref x1))) ha (Obj.isFreed_of_fields d3)
  obtain ⟨a4, d4⟩ := caused_at (x := x1) ha hd
  have z4 : 4 < (vs.setIfInBounds 3 (Value.ref x1)).size := by rw [set_size]; exact hi
  have z2 : 2 < ((vs.setIfInBounds 3 (Value.ref x1)).setIfInBounds 4 (Value.bool true)).size := by rw [set_size, set_size]; omega
  have h14 : ((vs.setIfInBounds 3 (Value.ref x1)).setIfInBounds 4 (Value.bool true))[1]? = some Value.none := set_other (by decide) (set_other (by decide) h1)
  have cls4 : ((oe.mapFields (·.setIfInBounds 3 (.ref x1))).mapFields (·.setIfInBounds 4 (.bool true))).cls = cls := by rw [Obj.cls_mapFields, Obj.cls_mapFields]; exact hcls
  have LT4 : PySem.W.Looks (model prog w) (caused s₁.heap a x1) (typeOf (.ref a)) cls := fun A Q E s k q => wpAny_typeOf_ref (k _ _ a4) (by rw [cls4]; exact q)
  have hot4 : HotAt A x1 (caused s₁.heap a x1) := ⟨hh, o1, vs1, by rw [caused_ne (Ne.symm hne)]; exact g1, d1, c1⟩
  have rest : wpAny (model prog w) A (do
      let b ← isType (.ref a)
      if b = true then do
        let e ← holding [.ref a] (raisedFor (.ref a) (.ref a))
        setFlight e none
        raiseNew e
      else do
        let e ← raisedInstance (.ref a)
        setFlight e none
        raiseNew e : Sem Flow) Q E { s₁ with heap := caused s₁.heap a x1 } := by
    refine wpAny_bind (noType a4 d4 ?_)
    simp only [Bool.false_eq_true, if_false]
    unfold raisedInstance
    refine wpAny_bind (wpAny_bind (LT4.here (wpAny_bind (L3.here ?_))))
    rw [if_pos (beq_self_eq_true _)]
    refine wpAny_pure ?_
    unfold setFlight
    refine wpAny_bind (wpAny_bind (wpAny_field a4 d4 h14 ?_))
    rw [if_neg (by decide)]
    refine wpAny_pure ?_
    exact raiseNew_hot hot4 hne a4 d4 z2 hE
  refine wpAny_bind (wpAny_holding (hcs _ (wpAny_bind (wpAny_pure ?_))))
  dsimp only
  refine wpAny_bind (wpAny_holding ?_)
  unfold excFromValue isExcClass
  refine wpAny_bind (wpAny_bind (noType (hp := s₁.heap) ha hd ?_))
  simp only [Bool.false_eq_true, if_false]
  refine wpAny_pure ?_
  simp only [Bool.false_eq_true, if_false]
  refine wpAny_bind (LI.here ?_)
  simp only [if_true]
  refine wpAny_pure ?_
  have hn : ¬ ((Value.ref x1 == Value.none) = true) := by simp
  first
    | rw [if_neg hn]
    | (show wpAny _ _ (if (Value.ref x1 == Value.none) = true then _ else _) _ _ _; rw [if_neg hn])
    | simp only [hn, if_false]
  refine wpAny_bind (wpAny_holding ?_)
  refine wpAny_bind (wpAny_bind (noType (hp := s₁.heap) g1 d1 ?_))
  simp only [Bool.false_eq_true, if_false]
  refine wpAny_pure ?_
  simp only [Bool.false_eq_true, if_false]
  refine wpAny_bind (LC.here ?_)
  simp only [if_true]
  refine wpAny_pure ?_
  first
    | refine wpAny_bind (wpAny_setField ha hd (by omega) (wpAny_bind (wpAny_setField a3 d3 z4 ?_)))
    | refine wpAny_bind (wpAny_bind (wpAny_setField ha hd (by omega) (wpAny_bind (wpAny_setField a3 d3 z4 ?_))))
    | refine wpAny_bind (wpAny_bind (wpAny_setField ha hd (by omega) (wpAny_setField a3 d3 z4 ?_)))
  first
    | exact rest
    | (dsimp only; exact rest)
    | (refine wpAny_pure ?_; exact rest)
    | (refine wpAny_bind (wpAny_pure ?_); exact rest)
theorem ps_raiseC {X : Cx} {W : WX} {a : Addr} {oe : Obj} {cls : Value} {d : Option Addr} {pn : List (Addr × Obj)} {xe : Value → Shared → Prop} {e : Expr} {t : L2.St → Hp → XK → Prop} {i : Nat} {n : Str} {cpos pos : Pos} (hz : L2N.Zn cls d oe) (hf : ∃ vs, oe.data = .fields vs)
    (tk : L2.Takes ((X.suite a ((a, oe) :: pn)).wish xe) W) (he : PMk5 ((X.suite a ((a, oe) :: pn)).wish xe) e t) (hN : X.N[i]? = some n) (hv : X.env.kindOf n = some .local) (hd : (n == ("__debug__" : Str)) = false := by decide) :
    PS ((X.suite a ((a, oe) :: pn)).wish xe) (.Raise (some e) (some (.Name n cpos)) pos) (fun _ σ H => t σ H fun cls' d' H' => σ[i]? = some (some (.ref a)) ∧ Raises X cls ∧ W cls' d' σ H') := by
  refine ⟨fun pins s σ H D I h => ?_⟩
  show wpAny _ _ (do standAt pos; raiseStmt X.env (some (do let v ← eval e X.env; standAt pos; pure v)) (some (do let v ← eval (.Name n cpos) X.env; standAt pos; pure v))) _ _ _
  refine wpAny_bind (wpAny_standAt (raise_hotC (x1 := a) (wpAny_bind (wpAny_mono (he pins s σ H _ I h) (fun u s1 hu => wpAny_bind (wpAny_standAt (wpAny_pure ?_))) fun _ _ x => x))))
  obtain ⟨⟨a2, oe2, vs, sI, H', cls2, d2, rfl, J, k, hne, ha, hz2, hd2, h1, na, os, ag, r, hσ, rc, q⟩, h5⟩ := hu
  obtain ⟨vs1, hv1⟩ := hf
  have P1 := (J.pin (a, oe) (List.mem_append_left _ List.mem_cons_self)).1
  have nap : a ≠ a2 := fun z => by
    rw [z, hne] at P1
    cases P1
  have k4 : ∀ b u, sI.heap.get? b = some u → (caused s1.heap a2 a).get? b = some u := fun b u z => by
    rw [caused_ne fun y => by rw [← y, hne] at z; cases z]
    exact k b u z
  obtain ⟨r1, _⟩ := r (model X.prog X.w) s1.heap (J.kIn.keeps k)
  obtain ⟨_, r2⟩ := r (model X.prog X.w) (caused s1.heap a2 a) (J.kIn.keeps k4)
  obtain ⟨r3, _⟩ := rc (model X.prog X.w) s1.heap (J.kIn.keeps k)
  obtain ⟨a4, d4⟩ := caused_at (x := a) ha hd2
  obtain ⟨m, hn, hl⟩ := id J.loc
  obtain ⟨u, ru, lk⟩ := hl i n (.ref a) hN hσ (.inl hv)
  cases (show u = Value.ref a from ru)
  have hn1 : s1.heap.Ns X.env.locals m := Heap.Ns.upToSlots hn fun b o e _ => ⟨o.slots, k b o e⟩
  have h12 : (((vs.setIfInBounds 3 (Value.ref a)).setIfInBounds 4 (Value.bool true)).setIfInBounds 2 (Value.ref a))[1]? = some Value.none := set_other (by decide) (set_other (by decide) (set_other (by decide) h1))
  refine ⟨a2, oe2, vs, cls2, oe, vs1, rfl, ha, hz2.1, hd2, h1, h5 a2 oe2 vs rfl ha hd2, nap, rfl, k _ _ P1, hv1, hz.2.2 vs1 hv1, by rw [hz.1]; exact r3, fun Q' q' => ?_, r1, r2, tk _ _ (XE.new J (fun b u z => ?_) hne (Heap.get?_update_self _ a4 (Obj.isFreed_of_fields (Obj.data_mapFields d4 _)))
    ⟨by rw [Obj.cls_mapFields, Obj.cls_mapFields, Obj.cls_mapFields]; exact hz2.1, by rw [HandSPX.dict_mapFields, HandSPX.dict_mapFields, HandSPX.dict_mapFields]; exact hz2.2.1⟩ (Obj.data_mapFields d4 _) h12 na os ag q)⟩
  · rcases lk with ⟨hk, hm⟩ | ⟨hk, _⟩
    · refine wpAny_bind (wpAny_Name (wpAny_loadName_local J.ok.kind hk hn1 hm ?_) hd)
      exact wpAny_bind (wpAny_standAt (wpAny_pure q'))
    · exfalso
      have hv' : X.env.scope.names.lookup n = some .local := hv
      rcases hk with hk | hk <;> · have hk' : X.env.scope.names.lookup n = _ := hk
                                   rw [hv'] at hk'
                                   cases hk'
  · have nab : a2 ≠ b := fun y => by
      rw [← y, hne] at z
      cases z
    show ((caused s1.heap a2 a).update a2 (Obj.mapFields (·.setIfInBounds 2 (.ref a)))).get? b = some u
    rw [Heap.get?_update_other _ _ nab]
    exact k4 b u z
end Rn
set_option Elab.async false
set_option linter.all false
set_option maxRecDepth 100000
set_option maxHeartbeats 4000000
/-! len(x) and x | y of instances of own classes -/
namespace Rn
open PySem PySem.Spec PyProof.Rows L2 PySem.W
/-- what the class must have for its operator by the def at f -/
structure BinOwn (K : PySem.W.Frag) (C f : Addr) (nm : String) : Prop where
  first : selfFirst K C = true
  at_ : findIn K (.ref C) (PySem.dunder nm) = some (some (.ref f))
  fn : isFn K (.ref f) = true
theorem bin_same {prog : Program} {w : World} {A : Around} {E : Value → Shared → Prop} {s : Shared} {K : PySem.W.Frag} {x y C f : Addr} {ox oy : Obj} {od oe : Option Obj} {op : Operator} {Q : Value → Shared → Prop} (X : K.In s.heap) (I : InstAt s.heap x ox C od) (J : InstAt s.heap y oy C oe)
    (B : BinOwn K C f op.info.2) (h : wpAny (model prog w) A (call (.ref f) [.ref x, .ref y]) (PySem.W.CmpBack Q) E s) : wpAny (model prog w) A (binaryOp op (.ref x) (.ref y)) Q E s := by
  obtain ⟨cd, rest, hcd, hm⟩ := ksp_first B.first
  rcases hi : op.info with ⟨sym, nm'⟩
  have hs := B.at_
  rw [hi] at hs
  dsimp only at hs
  have one := ksp_try X I hs B.fn h
  obtain ⟨hh, g, d, tt, os⟩ := s
  have L1 : Looks (model prog w) hh (typeOf (.ref x)) (.ref C) := I.type
  have L2 : Looks (model prog w) hh (typeOf (.ref y)) (.ref C) := J.type
  have L3 : Looks (model prog w) hh (fillsNumberSlot (.ref C) nm') true := fills_K X hcd hm hs
  simp only [binaryOp, hi]
  refine wpAny_holding (wpAny_bind ?_)
  unfold binaryOp1
  refine wpAny_bind (L1.at (wpAny_bind (L2.at (wpAny_bind (L3.at ?_)))))
  simp only [beq_self_eq_true, if_true]
  ksp_lk
  refine wpAny_mono one (fun r s' hr' => ?_) fun _ _ e => e
  obtain ⟨v, rfl, hq⟩ := hr'
  ksp_lk
  exact hq
section
variable {X : Cx} {CX : CXT} {k : Nat} {f C : Addr} {fd : FuncData} {ps : List Str} {sp : Sp} {E : XK} {a b : Expr} {ta tb : TE} {op : Operator} {pos : Pos}
def tBinO (C : Addr) (sp : Sp) (E : XK) (ta tb : TE) : TE := fun σ H Q => ta σ H fun x H1 => tb σ H1 fun y H2 => ∃ p q dx dy fs gs, x = .ref p ∧ y = .ref q ∧ H2 p = some (.ins C dx fs) ∧ H2 q = some (.ins C dy gs) ∧ sp [.ref p, .ref q] H2 Q E
theorem pe_binO (ha : PE X a ta) (hb : PE X b tb) (B : BinOwn X.K C f op.info.2) (F1 : FnOk X.prog X.w X.K X.mg X.base CX k f fd ps sp) (hr : Room k X.A) (hbn : Binds X.K fd ps []) (hx : Passes CX X E) : PE X (.BinOp a op b pos) (tBinO C sp E ta tb) := by
  refine ⟨fun pins s σ H Q I h => wpAny_BinOp (binT ha hb I (R := fun x y H2 => ∃ p q dx dy fs gs, x = .ref p ∧ y = .ref q ∧ H2 p = some (.ins C dx fs) ∧ H2 q = some (.ins C dy gs) ∧ sp [.ref p, .ref q] H2 Q E) h fun v u s2 x y H2 I2 rx ry hh => ?_)⟩
  obtain ⟨p, q, dx, dy, fs, gs, rfl, rfl, hp, hq, hs⟩ := hh
  cases rx
  cases ry
  obtain ⟨_, J, _⟩ := ins_get I2.hok hp
  obtain ⟨_, J, _⟩ := J.look
  obtain ⟨_, J2, _⟩ := ins_get I2.hok hq
  obtain ⟨_, J2, _⟩ := J2.look
  refine bin_same I2.kIn J J2 B (wpAny_mono (run_fn (us := [.ref p, .ref q]) (vs := [.ref p, .ref q]) F1 hr hbn .nil hx I2 (.cons rfl (.cons rfl .nil)) (by simpa using hs)) (fun v s' hv => ?_) fun _ _ e => e)
  obtain ⟨x, H', I', r, qq⟩ := id hv
  cases x with
  | non => cases r; exact hv
  | bl b => cases (show v = Value.bool b from r); exact hv
  | int i => obtain ⟨t, rfl⟩ := r; exact hv
  | str z => obtain ⟨t, rfl⟩ := r; exact hv
  | byt z => obtain ⟨t, rfl⟩ := r; exact hv
  | flt z => obtain ⟨t, rfl⟩ := r; exact hv
  | ref a => cases r; exact hv
  | ty n => cases r; exact hv
/-- len(x) by an own __len__ -/
def rLenO (C : Addr) (sp : Sp) (E : XK) : List V → Hp → VK → Prop := fun xs H Q => ∃ p dx fs, xs = [.ref p] ∧ H p = some (.ins C dx fs) ∧ sp [.ref p] H (fun v H' => ∃ n : Int, v = .int n ∧ 0 ≤ n ∧ n < 2 ^ 63 ∧ Q (.int n) H') E
theorem call_lenO (h1 : findIn X.K (.ref C) "__len__" = some (some (.ref f))) (h2 : isFn X.K (.ref f) = true) (F1 : FnOk X.prog X.w X.K X.mg X.base CX k f fd ps sp) (hr : Room (k + 1) X.A) (hbn : Binds X.K fd ps []) (hx : Passes CX X E) :
    CallR X (.builtin "len") (rLenO C sp E) := by
  intro pins s σ H xs us Q I r h
  obtain ⟨p, dx, fs, rfl, hp, hs⟩ := h
  obtain ⟨u, rfl, ru⟩ := vals1 r
  cases ru
  obtain ⟨_, J, _⟩ := ins_get I.hok hp
  obtain ⟨_, J, _⟩ := J.look
  obtain ⟨m, hF⟩ := I.fr
  have e0 : Env0 X.prog X.w X.K X.mg X.base X.A.in1 X.stack s H := by
    have e := I.env0
    exact ⟨e.frames, e.mod, e.bs, e.bsz, e.funs, e.frf, e.hok, e.bare⟩
  have hl := F1.len _ _ _ _ hs
  have r2 : Vals [V.ref p] [Value.ref p] := .cons rfl .nil
  have hbb := hbn s [.ref p] I.kIn (by simpa using hl)
  rw [List.append_nil] at hbb
  refine len_K hF I.ok.mod.kin J h1 h2 (wpAny_call (codeAny_mono (F1.run X.A.in1 X.stack s H ⟨[.ref p], []⟩ [.ref p] [.ref p] _ E hr.in1 e0 hbb r2 hs) fun r s' hq => ?_))
  cases r with
  | error e => exact hx pins σ H s e s' I hq
  | ok fl =>
    cases fl with
    | ret u =>
      obtain ⟨v, H2, I3, rv, n, ev, n0, n1, q2⟩ := I.after hq
      subst ev
      obtain ⟨t, rfl⟩ := rv
      exact ⟨⟨n0, n1⟩, .int n, H2, I3.tok _, ⟨_, rfl⟩, q2⟩
    | next => exact False.elim hq
    | brk => exact False.elim hq
    | cont => exact False.elim hq
end
end Rn
set_option Elab.async false
set_option linter.all false
set_option maxRecDepth 100000
set_option maxHeartbeats 4000000
/-! C.m(e, .., k = v, ..), m a def of the class at C -/
namespace Rn
open PySem PySem.Spec PyProof.Rows L2 PySem.W
section
variable {X : Cx} {CX : CXT} {k n : Nat} {f C : Addr} {mc : Value} {fd : FuncData} {ps ks : List Str} {sp : Sp} {E : XK} {m : Str} {pos apos : Pos} {o e : Expr} {es : List Expr} {kws : List Keyword} {ta : TE} {t tk : TA} {g : List Value → List Value → List Value} {gV : List V → List V → List V}
def tCInit (C : Addr) (n m : Nat) (sp : Sp) (gV : List V → List V → List V) (E : XK) (ta : TE) (t tk : TA) : TE := fun σ H Q => ta σ H fun x H1 => x = .ref C ∧ t σ H1 fun vs H2 => tk σ H2 fun zs H3 => vs.length = n ∧ zs.length = m ∧ sp (gV vs zs) H3 Q E
theorem pe_cinit {pl : Sem Bool} (he : PE X o ta) (r : ClX.CRead X.K C mc) (c : ClX.CVal X.K C mc m (.ref f) (.ref f)) (hk : PySem.W.keepIn X.K (.ref f) = true) (F : FnOk X.prog X.w X.K X.mg X.base CX k f fd ps sp) (hr : Room k X.A) (hb : KBn X.K fd ps n ks g gV) (hx : Passes CX X E) (ha : PA X (e :: es) t) (hkw : PK X kws tk)
    (hall : (backToKw pos (keywordEach kws X.env)).all (·.1.isSome) = true := by rfl) (hks : (backToKw pos (keywordEach kws X.env)).filterMap (·.1) = ks := by rfl)
    (hst : starEach (e :: es) X.env = (false, eval e X.env) :: starEach es X.env := by rfl) (hpl : ((backTo pos (starEach (e :: es) X.env)).any (·.1) || (backToKw pos (keywordEach kws X.env)).any (·.1.isNone)) = false := by rfl)
    (ht : eval (.Call (.Attribute o m apos) (e :: es) kws pos) X.env = (do
      let ov ← eval o X.env
      standAt apos.atName
      let (f, first) ← holding [ov] (getMethod ov m pl)
      callWith pos f first (backTo pos (starEach (e :: es) X.env)) (backToKw pos (keywordEach kws X.env))) := by rfl) :
    PE X (.Call (.Attribute o m apos) (e :: es) kws pos) (tCInit C n ks.length sp gV E ta t tk) := by
  refine ⟨fun pins s σ H Q I h => ?_⟩
  refine PySem.W.methodCall_KW (pl := pl) (thn (he.run pins s σ H _ I h) fun u s1 ⟨x, H1, I1, rx, ex, q⟩ => ?_) ht
  subst ex
  obtain rfl : u = Value.ref C := rx
  refine PySem.W.method_cls I1.kIn r.ga (ClX.getcval_ok I1 r c fun s2 I2 => ?_)
  refine PySem.W.callWith_KW (h₀ := X.base) I.ok.mod.kin hk hall (thn (ha.run pos pins s2 σ H1 _ I2 q) fun us s3 ⟨vs, H2, I3, r3, q3⟩ => ?_) hpl hst
  refine thn (hkw.run pos pins s3 σ H2 _ I3 q3) fun ws s4 ⟨zs, H3, I4, rz, l1, l2, q4⟩ => ⟨I4.kIn, ?_⟩
  rw [hks]
  exact run_fnN F hr hb hx I4 r3 rz l1 l2 q4
end
end Rn
set_option Elab.async false
set_option linter.all false
set_option maxRecDepth 100000
set_option maxHeartbeats 4000000
/-! name = [..] on one line, the element may let an error out -/
namespace Rn
open PySem PySem.Spec PyProof.Rows L2 HandSPX
section
variable {X : Cx} {pins : List (Addr × Obj)} {σ : L2.St} {H3 : Hp} {s3 : Shared} {E : XK} {W : WX} {scope : Scope} {ce : Env} {fp : List Addr}
theorem lcX_core {use : Option (Value → Sem Unit)} {Qf : Value → Shared → Prop} {pos' : Pos} {elt tg iter : Expr} {ifs : List Expr} {own : List (Str × Nat)} {pos : Pos} {wi : TI} {g : TG} {tt : TT} {te : TE} (hs : X.stack = X.env :: X.outer) (hf : X.env.frame = some X.env.locals) (tk : L2N.Takes X W) (hW : ∀ c d H, E c d H → W c d σ H)
    (hc : X.calm = true) (hN : X.N.Nodup) (hi : PI X tg iter wi) (ok : BlkOk X.N X.env.scope scope own)
    (hg : ∀ s H C cl fp xe, PG (Cx.bx X s H scope (compEnvC scope cl C X.env) fp xe) tg g) (ht : ∀ s H C cl fp xe, PTs (Cx.bx X s H scope (compEnvC scope cl C X.env) fp xe) ifs tt)
    (he : ∀ s H C cl fp xe, Passes (L2N.CX X.prog X.w) (Cx.bx X s H scope (compEnvC scope cl C X.env) fp xe) E → PE (Cx.bx X s H scope (compEnvC scope cl C X.env) fp xe) elt te)
    (I : Inv X pins σ H3 s3) {Q : VK} (h : tLc wi g tt te (own.map (·.2)) σ H3 Q) (hz : ∀ x, foldedSetIterable iter X.env x = pure x)
    (hRR : ∀ (D : Addr) (ce : Env) (s' : Shared) m (H' : Hp), Inv X pins σ H' s' → Q (.ref D) H' → s'.heap.Ns ce.locals m → FpOk X pins H' ce.locals → compEnds (model X.prog X.w) X.A X.xe use Qf (.ref D) ce (.ok .next) s') :
    wpAny (model X.prog X.w) X.A (comprehension (.ListComp elt [⟨tg, iter, ifs, 0⟩] scope pos) scope X.env pos' (newList []) false (eval iter X.env) use) Qf X.xe s3 := by
  have hfree : ∀ y ∈ scope.names, y.2 = .free → ∃ c, X.env.cells.lookup y.1 = some c := fun y hy e => I.ok.has _ (ok.free y hy e)
  refine comprehension_at (use := use) rfl hz (closure_ok hfree) ok.kind (fun y hy e => by rw [ok.uniq y hy, e])
    (thn (hi.run pins s3 σ H3 _ I h) fun v0 s1 h1 => thn h1 fun itv s2 ⟨it, fp, tn, J, H2, e, I2, T, st2, f2, q⟩ => ?_)
  subst e
  refine wpAny_newObj_type (newEnv_comp ?_) (by show 0 ≤ sizeLine; decide)
  obtain ⟨D, hD⟩ : ∃ D, s2.heap.objs.size = D := ⟨_, rfl⟩
  rw [hD]
  obtain ⟨Wn, ⟨m0, w0⟩, turn⟩ := q D (I2.hok.fresh (Nat.le_of_eq hD))
  obtain ⟨Hd, hHd⟩ : ∃ Hd, upd H2 D (.lst []) = Hd := ⟨_, rfl⟩
  rw [hHd] at w0
  generalize hsd : ({ s2 with heap := s2.heap.push { cls := .type "list", data := .seq ([] : List Value).toArray } } : Shared) = sd
  have hpd : sd.heap = s2.heap.push { cls := .type "list", data := .seq ([] : List Value).toArray } := by rw [← hsd]
  have Id : Inv X pins σ Hd sd := by
    rw [← hHd, ← hsd]
    exact I2.laid (t' := s2.toks) (fun b o z => Heap.get?_push_of_some _ z) (Nat.le_of_eq hD) ⟨Nat.zero_le _, [], 0, .nil, by rw [← hD]; exact Heap.get?_push_size _ rfl⟩
  have fd : ∀ b ∈ fp, FpOk X pins Hd b ∧ b < sd.heap.objs.size := fun b hb => by
    obtain ⟨o, z, _⟩ := T.obj _ _ st2 b hb
    have lt := Heap.lt_size z
    refine ⟨⟨?_, (f2 b hb).2⟩, by rw [hpd, Heap.size_push]; exact Nat.lt_succ_of_lt lt⟩
    rw [← hHd, upd_ne (by rw [← hD]; exact Nat.ne_of_lt lt)]
    exact (f2 b hb).1
  have std : tn 0 sd.heap := T.keep _ _ _ st2 fun b _ o z => by rw [hpd]; exact Heap.get?_push_of_some _ z
  have Ib := block_start Id ok hN fd
  let Cd := sd.heap.objs.size
  let Lc := cellsFrom (sd.heap.objs.size + 1) scope.names (cloFrom X.env.cells scope.names [])
  show codeAny _ _ (.compStart _ 0 (.ref it) (.ref D) (compEnvC scope Lc Cd X.env)) (compEnds (model X.prog X.w) X.A X.xe use Qf (.ref D) (compEnvC scope Lc Cd X.env)) { sd with heap := pushCells (sd.heap.push { cls := .type "dict", data := .dict #[] }) scope.names }
  have pa := passes_bx (E := E) (scope := scope) (ce := compEnvC scope Lc Cd X.env) (fp := fp) hs hf tk hW Id (fun b hb => (fd b hb).1) rfl rfl
  obtain ⟨xe, hxe⟩ : ∃ xe, notedBy (model X.prog X.w) X.A (compEnvC scope Lc Cd X.env) (CompFails (model X.prog X.w) X.A X.xe (compEnvC scope Lc Cd X.env)) = xe := ⟨_, rfl⟩
  rw [hxe] at pa
  have rg := hg sd Hd Cd Lc fp xe
  have rt := ht sd Hd Cd Lc fp xe
  have re := he sd Hd Cd Lc fp xe pa
  have nfp : ∀ b ∈ fp, Hd b = none := fun b hb => (fd b hb).1.1
  have Ix : Inv (Cx.bx X sd Hd scope (compEnvC scope Lc Cd X.env) fp xe) [] (wipe σ (own.map (·.2))) Hd { sd with heap := pushCells (sd.heap.push { cls := .type "dict", data := .dict #[] }) scope.names } := by
    obtain ⟨k, a1, a2, a3, a4, a5, a6, a7, a8, a9, a10⟩ := Ib
    exact ⟨⟨k.mod, k.kind, k.glob, k.blt, k.above, k.inj, k.has, k.cab, k.hd, k.frames, k.stk, k.exf, k.bs, k.bsz, k.noex, k.exfs, k.funs, k.frf⟩, a1, a2, a3, a4, a5, a6, a7, a8, a9, a10⟩
  have hce : (compEnvC scope Lc Cd X.env).locals = sd.heap.objs.size := rfl
  generalize compEnvC scope Lc Cd X.env = ce at rg rt re Ix hxe hce ⊢
  have stx : tn 0 ({ sd with heap := pushCells (sd.heap.push { cls := .type "dict", data := .dict #[] }) scope.names } : Shared).heap := T.keep _ _ _ std fun b _ o z => pushCells_keeps _ _ _ _ (Heap.get?_push_of_some _ z)
  generalize ({ sd with heap := pushCells (sd.heap.push { cls := .type "dict", data := .dict #[] }) scope.names } : Shared) = sx at Ix stx ⊢
  have stat : ∀ {σ' : L2.St} {H' : Hp} {s' : Shared}, Inv (Cx.bx X sd Hd scope ce fp xe) [] σ' H' s' → (∀ b ∈ fp, H' b = none) → ∀ b ∈ fp, FpOk (Cx.bx X sd Hd scope ce fp xe) [] H' b := fun {σ' H' s'} I' hn b hb =>
    ⟨hn b hb, (I'.ok.exf b hb).1, I'.ok.exfs b hb, .inl hb, fun x c z => (I'.ok.exf b hb).2 x c z, fun p hp => absurd (show p ∈ ([] : List (Addr × Obj)) ++ [] from hp) (by simp)⟩
  have wk : ∀ {α : Type} {t : Sem α} {Q1 Q2 : α → Shared → Prop} {s : Shared}, wpAny (model X.prog X.w) X.A t Q1 xe s → (∀ a s, Q1 a s → Q2 a s) →
      wpAny (model X.prog X.w) X.A t Q2 (notedBy (model X.prog X.w) X.A ce fun e s' => compEnds (model X.prog X.w) X.A X.xe use Qf (.ref D) ce (.error e) s') s := fun {α t Q1 Q2 s} h k =>
    wpAny_mono h k fun _ _ z => by rw [← hxe] at z; exact z
  have loop : codeAny (model X.prog X.w) X.A (.compLoop (.ListComp elt [⟨tg, iter, ifs, 0⟩] scope pos) 0 (.ref it) (.ref D) ce) (compEnds (model X.prog X.w) X.A X.xe use Qf (.ref D) ce) sx := by
    refine compLoop_any (fun n s' => ∃ i H', Inv (Cx.bx X sd Hd scope ce fp xe) [] (wipe σ (own.map (·.2))) H' s' ∧ tn i s'.heap ∧ (∀ b ∈ fp, H' b = none) ∧ Wn i n H') ?_ m0 ⟨0, Hd, Ix, stx, nfp, w0⟩
    rintro n s5 ⟨i, H5, I5, st5, n5, w5⟩
    rcases turn i n H5 w5 with ⟨stop, qq⟩ | ⟨go, Nx, hNx, step⟩
    · refine wk (T.done (Cx.bx X sd Hd scope ce fp xe) rfl rfl rfl hc i [] s5 _ H5 xe I5 (stat I5 n5) st5 stop) fun r s6 ⟨hr, I6⟩ => ?_
      subst hr
      have I7 : Inv X pins σ H5 s6 := Id.call' (ch := fp) I6.os I6.base I6.hok I6.bare fun b hb => ⟨(fd b hb).1.2.2.2.1, (fd b hb).1.2.1, (fd b hb).1.2.2.2.2.1, (fd b hb).1.2.2.2.2.2⟩
      have nC : H5 sd.heap.objs.size = none := by
        have z : H5 ce.locals = none := I6.free
        rw [hce] at z
        exact z
      obtain ⟨m, hn, _⟩ := I6.loc
      exact hRR D ce s6 m H5 I7 qq hn (by rw [hce]; exact Id.fpOk (Nat.le_refl _) nC)
    · refine wk (T.item (Cx.bx X sd Hd scope ce fp xe) rfl rfl rfl hc i [] s5 _ H5 xe I5 (stat I5 n5) st5 go) fun r s6 ⟨u, hr, h6⟩ => ?_
      subst hr
      refine wk h6 fun _ s7 ⟨x, H7, I7, r7, y7, st7, n7⟩ => ?_
      have I8 := I7.pinned (stat I7 n7) (T.obj _ _ st7)
      refine wk (rg.run _ s7 _ H7 x u _ I8 r7 (step x H7 y7)) fun _ s8 ⟨σ8, H8, I9, hw8, q8⟩ => ?_
      refine wk (rt.run _ s8 σ8 H8 _ I9 q8) fun b s9 ⟨H9, I10, q9⟩ => ?_
      have next : ∀ {s' : Shared} {H' : Hp}, Inv (Cx.bx X sd Hd scope ce fp xe) ([] ++ pinsAt fp s7.heap) σ8 H' s' → Nx H' → ∃ m, m < n ∧ ∃ i H', Inv (Cx.bx X sd Hd scope ce fp xe) [] (wipe σ (own.map (·.2))) H' s' ∧ tn i s'.heap ∧ (∀ b ∈ fp, H' b = none) ∧ Wn i m H' := fun {s' H'} I' nx => by
        obtain ⟨m', hm, w'⟩ := hNx H' nx
        have pp : ∀ b ∈ fp, ∀ o, s7.heap.get? b = some o → s'.heap.get? b = some o ∧ H' b = none := fun b hb o z =>
          let k := I'.pin (b, o) (List.mem_append_right _ (List.mem_append_right _ (mem_pinsAt hb z)))
          ⟨k.1, k.2.1⟩
        refine ⟨m', hm, i + 1, H', (I'.unpinned (pins := [])).weak (by rw [← hw8, wipe_length]) (fun j v z => ?_), T.keep _ _ _ st7 fun b hb o z => (pp b hb o z).1, fun b hb => ?_, w'⟩
        · rw [← hw8] at z
          exact (wipe_some z).1
        · obtain ⟨o, z, _⟩ := T.obj _ _ st7 b hb
          exact (pp b hb o z).2
      cases b with
      | false =>
        simp only [Bool.false_eq_true, if_false] at q9 ⊢
        exact next I10 q9
      | true =>
        simp only [if_true] at q9 ⊢
        refine wk (re.run _ s9 σ8 H9 _ I10 q9) fun z s10 ⟨yv, H10, I11, r10, acc, hD10, hz10, nx⟩ => ?_
        exact wk (app_ok (E := xe) (X := Cx.bx X sd Hd scope ce fp xe) (Q := fun _ s' => Inv (Cx.bx X sd Hd scope ce fp xe) ([] ++ pinsAt fp s7.heap) σ8 (upd H10 D (.lst (acc ++ [yv]))) s') I11 hD10 hz10 r10 fun s11 I12 => I12) fun _ s11 I12 => next I12 nx
  exact codeAny_compStart_list loop (T.self X.A 0 _ _ _ stx loop)
theorem ps_setLcx {X : Cx} {E : XK} {i : Nat} {y : Str} {py : Pos} {elt tg iter : Expr} {ifs : List Expr} {scope : Scope} {own : List (Str × Nat)} {pos spos : Pos} {wi : TI} {g : TG} {tt : TT} {te : TE} (hs : X.stack = X.env :: X.outer) (hf : X.env.frame = some X.env.locals) (tk : L2N.Takes X fun c d _ H => E c d H)
    (hc : X.calm = true) (hN : X.N.Nodup) (hy : X.N[i]? = some y) (hyl : X.env.scope.names.lookup y = some .local)
    (hsw : swapsWith (.ListComp elt [⟨tg, iter, ifs, 0⟩] scope pos) (some (.Name y py)) spos.line X.env = pure true) (hi : PI X tg iter wi) (ok : BlkOk X.N X.env.scope scope own)
    (hg : ∀ s H C cl fp xe, PG (Cx.bx X s H scope (compEnvC scope cl C X.env) fp xe) tg g) (ht : ∀ s H C cl fp xe, PTs (Cx.bx X s H scope (compEnvC scope cl C X.env) fp xe) ifs tt)
    (he : ∀ s H C cl fp xe, Passes (L2N.CX X.prog X.w) (Cx.bx X s H scope (compEnvC scope cl C X.env) fp xe) E → PE (Cx.bx X s H scope (compEnvC scope cl C X.env) fp xe) elt te)
    (hz : ∀ x, foldedSetIterable iter X.env x = pure x := by intro _; rfl) :
    PS X (.Assign [.Name y py] (.ListComp elt [⟨tg, iter, ifs, 0⟩] scope pos) spos) (tAsg (tLc wi g tt te (own.map (·.2))) (gName i)) := by
  refine ⟨fun pins s σ H D I h => ?_⟩
  rw [exec_Assign_Name_used _ _ _ _ hsw]
  refine wpAny_bind (wpAny_standAt (wpAny_bind ?_))
  show wpAny _ X.A (do let _ ← comprehension (.ListComp elt [⟨tg, iter, ifs, 0⟩] scope pos) scope X.env (firstIterPos [⟨tg, iter, ifs, 0⟩] pos) (newList []) false (eval iter X.env) (some (assign (.Name y py) X.env))) _ _ s
  have h : tLc wi g tt te (own.map (·.2)) σ H (fun x H1 => gName i x σ H1 D.nx) := h
  refine wpAny_bind (thn (lcX_core (W := fun c d _ H => E c d H) (Qf := fun _ s' => SP X pins D .next s') hs hf tk (fun _ _ _ q => q) hc hN hi ok hg ht he I h hz fun L ce s' m H' I' q hn f => ?_) fun _ s' hq => wpAny_pure (wpAny_pure hq))
  show wpAny _ _ (assign (.Name y py) X.env (.ref L)) _ _ _
  refine wpAny_assign_Name (store_ok2 (v := V.ref L) I' hN hy (.inl hyl) rfl (fun s2 I2 ⟨a, sb, ha⟩ => ?_) (.inr hyl))
  obtain ⟨f0, f1, f2, f3, f4, f5⟩ := f
  have haC : ce.locals ≠ a := by
    rcases ha with z | z
    · rw [z]; exact f1
    · exact fun e => f4 y a z e.symm
  refine ⟨m, hn.sameBut sb haC, fun h3 sb3 => ?_⟩
  exact ⟨_, H', I2.turned (t' := s2.toks) (fun b o hb e => (sb3.2 b hb).trans e) f0 f1 f3 f4 f5, q⟩
end
end Rn
set_option Elab.async false
set_option linter.all false
set_option maxRecDepth 100000
set_option maxHeartbeats 4000000
/-! a dict frozen for good; enumerate over a list or a tuple; a list or a tuple walked -/
namespace Rz
open PySem PySem.Spec PyProof.Rows L2 HandSPX
/-- behind the statement the thing at d is never written again -/
def tFrz (t : TS) : TS := fun D σ H => t { D with nx := fun σ' H' => ∃ d u, H' d = some u ∧ Mut (some u) ∧ ∀ od, D.nx σ' (upd H' d (.frz od u)) } σ H
theorem ps_frz {X : Cx} {st : Stmt} {t : TS} (h : PS X st t) : PS X st (tFrz t) := by
  refine ⟨fun pins s σ H D I hw => thn (h.run pins s σ H _ I hw) fun f s1 q => ?_⟩
  cases f with
  | next =>
    obtain ⟨σ', H', I2, d, u, hd, mu, q⟩ := q
    obtain ⟨od, I3⟩ := I2.lock hd mu
    exact ⟨σ', _, I3, q od⟩
  | brk => exact q
  | cont => exact q
  | ret v => exact q

theorem meets_enumB {v : Value} {o : Obj} {H : Heap → Prop} (B : Begins v o H) :
    Meets (Builtin.«enumerate.__new__» ⟨[.type "enumerate", v], []⟩) (fun _ R s => H s.heap ∧
      R (.ok (.ret (.ref (s.heap.push o).objs.size))) { s with heap := (s.heap.push o).push { cls := .type "enumerate", data := .fields #[.none, .bool false, .ref s.heap.objs.size, rawInt 0, .none, .none] } }) :=
  .of_wp fun prog w A R s h => by
    obtain ⟨hp, g, d, tk, os⟩ := s
    obtain ⟨h1, h⟩ := h
    have q0 := sub_enumerate
    have it : ∀ {A' : Around} {E : Value → Shared → Prop} {Q : Value → Shared → Prop}, Q (.ref hp.objs.size) ⟨hp.push o, g, d, tk, os⟩ → wpAny (model prog w) A' (pyIter v) Q E ⟨hp, g, d, tk, os⟩ := fun q => B.iter prog w _ _ ⟨hp, g, d, tk, os⟩ _ h1 q
    wp_walk using it
    refine wpAny_stack_any fun st => wpAny_pure ?_
    split
    · rename_i c _ _ _ _ _
      cases (c == Value.type "enumerate") <;> (wp_walk using it; exact ⟨_, rfl, h⟩)
    · wp_walk using it
      exact ⟨_, rfl, h⟩
theorem call_enumB {prog : Program} {w : World} {A : Around} {E : Value → Shared → Prop} {s : Shared} {v : Value} {o : Obj} {H : Heap → Prop} {Q : Value → Shared → Prop} (B : Begins v o H) (h1 : H s.heap)
    (h : ∀ h', IsEnum h' (s.heap.objs.size + 1) s.heap.objs.size 0 .none → h'.get? s.heap.objs.size = some o → (∀ b o, s.heap.get? b = some o → h'.get? b = some o) → Q (.ref (s.heap.objs.size + 1)) { s with heap := h' }) :
    wpAny (model prog w) A (call (.type "enumerate") [v]) Q E s := by
  refine callType_new F.called_enumerate (by decide) (F.typeCall_enumerate_1 _) (F.newCall_enumerate_1 _) (fun obj => F.args_object_init_2 obj _) F.entry_enumerate_new (meets_enumB B) ⟨h1, ?_⟩
  have hz : (s.heap.push o).objs.size = s.heap.objs.size + 1 := Heap.size_push ..
  have ha := Heap.get?_push_size (s.heap.push o) (o := { cls := .type "enumerate", data := .fields #[.none, .bool false, .ref s.heap.objs.size, rawInt 0, .none, .none] }) rfl
  show _ ∧ _
  rw [hz] at ha ⊢
  exact ⟨⟨_, ha, rfl⟩, h _ ha (Heap.get?_push_of_some _ (Heap.get?_push_size _ B.free)) fun b o x => Heap.get?_push_of_some _ (Heap.get?_push_of_some _ x)⟩
/-- the tuple at a, its items in new pairs with their places -/
def IteT (K : PySem.W.Frag) (a : Addr) : It :=
  ⟨fun i H => ∃ (xs : List V) (x : V), SqT K H a xs ∧ xs[i]? = some x, fun i H v H' => ∃ T x, v = .ref T ∧ H T = none ∧ H' = upd H T (.tup [.int (i : Nat), x]) ∧ ∀ xs, SqT K H a xs → xs[i]? = some x, fun i H => ∃ xs : List V, SqT K H a xs ∧ xs.length ≤ i⟩
theorem turn_enumT {P : Program} {w : World} {K : PySem.W.Frag} {elts : List Expr} {kk : Nat} {tpos : Pos} (a e it : Addr) (hae : a ≠ it) :
    Turn P w K (.Tuple elts kk tpos) (IteT K a) [e, it] e (fun i h => (∃ old, IsEnum h e it ((i : Nat) : Int) old) ∧ h.IsTupleIter it a i ∧ e ≠ it ∧ a ≠ e) where
  mem := by simp
  obj := fun i h st b hb => by
    obtain ⟨⟨old, he⟩, ⟨o, ho, hc, hd⟩, _⟩ := st
    rcases (show b = e ∨ b = it by simpa using hb) with z | z
    · rw [z]; exact ⟨_, he, fun v q => nomatch q⟩
    · rw [z]; exact ⟨o, ho, fun v q => by rw [hd] at q; cases q⟩
  keep := fun i h h' ⟨⟨old, he⟩, hi, hne⟩ k => ⟨⟨old, k e (by simp) _ he⟩, hi.at fun o q => k it (by simp) o q, hne⟩
  item := by
    intro X hP hw hK hc i pins s σ H E I hf st hg
    subst hP hw hK
    obtain ⟨⟨old, he⟩, hit, hne, hea⟩ := st
    obtain ⟨xs, x, hq, hx⟩ := hg
    obtain ⟨its, rv, p, hz⟩ := I.tuple hq
    obtain ⟨u, hu, ru⟩ := rv.get hx
    have hel : e < s.heap.objs.size := Heap.lt_size he
    have hil : it < s.heap.objs.size := by obtain ⟨_, q, _⟩ := hit; exact Heap.lt_size q
    have D := Draws.tuple (prog := X.prog) (w := X.w) (A := X.A.in1) (I.ok.hd hc) it a hae its.toArray
    have hlt : i < its.toArray.size := by
      rcases Nat.lt_or_ge i its.length with q | q
      · simpa using q
      · rw [List.getElem?_eq_none q] at hu; cases hu
    refine wpAny_pyNext_enum_itemC D he ⟨hit, p⟩ hlt hne (by simp; exact ⟨hne, fun z => hea z.symm⟩) fun x1 h' tk hp ho hit' hT hsz hk => ?_
    have hxu : x1 = u := by
      have q : its.toArray[i]? = some x1 := hp
      rw [List.getElem?_toArray, hu] at q
      exact (Option.some.inj q).symm
    subst hxu
    refine ⟨_, rfl, wpAny_letOwnedTupleGo_enum (s := { s with heap := h', toks := tk + 1 }) ho fun h2 he' sb => ?_⟩
    have hT2 : h2.get? s.heap.objs.size = some { cls := .type "tuple", data := .seq #[.int i tk, x1] } := (sb.2 _ (Nat.ne_of_gt hel)).trans hT
    have I1 : Inv X pins σ (upd H s.heap.objs.size (.tup [.int (i : Nat), x])) { s with heap := h2, toks := tk + 1 } :=
      I.turnedNew (ch := [e, it]) (fun b ob hb q => (sb.2 b fun z => hb (by simp [z])).trans (hk b ob (fun z => hb (by simp [z])) (fun z => hb (by simp [z])) q)) hf (Nat.le_refl _)
        ⟨by show 2 ≤ sizeLine; decide, [.int i tk, x1], .cons ⟨_, rfl⟩ (.cons ru .nil), ⟨_, hT2, rfl, _, rfl⟩⟩
    refine ⟨.ref s.heap.objs.size, _, I1, rfl, ⟨_, x, rfl, I.hok.fresh (Nat.le_refl _), rfl, fun ys hy => by rw [I.tuple_inj hy hq]; exact hx⟩, ⟨⟨x1, ?_⟩, hit'.1.at fun o q => (sb.2 it (Ne.symm hne)).trans q, hne, hea⟩, fun b hb => ?_⟩
    · rw [show ((i + 1 : Nat) : Int) = (i : Int) + 1 by omega]
      exact he'
    · have hb' : b < s.heap.objs.size := by
        rcases (show b = e ∨ b = it by simpa using hb) with z | z
        · rw [z]; exact hel
        · rw [z]; exact hil
      rw [upd_ne (Nat.ne_of_lt hb')]
      exact (hf b hb).1
  done := by
    intro X hP hw hK hc i pins s σ H E I hf st hg
    subst hP hw hK
    obtain ⟨⟨old, he⟩, hit, hne, hea⟩ := st
    obtain ⟨xs, hq, hx⟩ := hg
    obtain ⟨its, rv, p, hz⟩ := I.tuple hq
    obtain ⟨f0, f1, f2, f3, f4, f5⟩ := hf it (by simp)
    have hl := rv.length
    unfold pyNext
    have hT : s.TypeIs (.ref e) "enumerate" := ⟨_, he, rfl⟩
    refine wpAny_bind (wpAny_attempt (wpAny_callSpecial?_slot (name := Str.ofString "__next__") hT F.slot_enumerate_next (wpAny_call_entry F.slot_enumerate_next hT F.entry_enumerate_next ?_ (F.args_enumerate_next_1 _))))
    show wpAny _ _ (field (.ref e) 2 >>= _) _ _ _
    refine wpAny_bind (wpAny_field he rfl (x := .ref it) rfl ?_)
    refine wpAny_bind (wpAny_nextOf_tuple_end (I.ok.hd hc) hit p (by simp; omega) fun h' x eb ⟨o, ho, hcl⟩ => ?_)
    refine wpAny_bind (wpAny_isInstance (T := "StopIteration") (b := true) ⟨o, ho, hcl⟩ isSubtype_stop ?_)
    exact wpAny_pure ⟨rfl, I.turned (t' := s.toks) (fun b o hb q => eb b o hb q) f0 f1 f3 f4 f5⟩
  self := fun A i s Q E st h => let ⟨⟨_, he⟩, _⟩ := st; wpAny_pyIter_enum he h
/-- a list (b: true) or a tuple -/
def SqB (K : PySem.W.Frag) (b : Bool) (H : Hp) (a : Addr) (xs : List V) : Prop := if b then SqL K H a xs else SqT K H a xs
def IteB (K : PySem.W.Frag) (b : Bool) (a : Addr) : It := if b then Ite K a else IteT K a
def ItB (K : PySem.W.Frag) (b : Bool) (a : Addr) : It := if b then Itl K a else Itt K a
def iEnumB (K : PySem.W.Frag) (ta : TA) : TI := fun σ H R => ta σ H fun vs H1 => ∃ b a xs, vs = [.ref a] ∧ SqB K b H1 a xs ∧ R (IteB K b a) H1
theorem pi_enumB {X : Cx} {e : Expr} {ta : TA} {p pos tpos : Pos} {elts : List Expr} {kk : Nat} (hg : Gl X "enumerate") (hm : X.mg "enumerate" = none) (ha : PA X [e] ta) (hs : starEach [e] X.env = [(false, eval e X.env)] := by rfl) :
    PI X (.Tuple elts kk tpos) (.Call (.Name "enumerate" p) [e] [] pos) (iEnumB X.K ta) := by
  refine ⟨fun pins s σ H R I h => ?_⟩
  refine Call_ (ld_blt I hg hm boot_enumerate (PyProof.Rows.callWith_type1 (thn (ha.run pos pins s σ H _ I h) fun us s1 ⟨vs, H1, I1, r1, q1⟩ => ?_) hs rfl))
  obtain ⟨b, a, xs, ex, hq, q⟩ := q1
  subst ex
  have fr : ∀ c ∈ [s1.heap.objs.size + 1, s1.heap.objs.size], FpOk X pins H1 c := fun c hc => by
    have hle : s1.heap.objs.size ≤ c := by
      rcases (show c = s1.heap.objs.size + 1 ∨ c = s1.heap.objs.size by simpa using hc) with z | z
      · rw [z]; exact Nat.le_add_right _ _
      · rw [z]; exact Nat.le_refl _
    exact I1.fpOk hle (I1.hok.fresh hle)
  cases r1 with
  | cons r rr =>
    cases rr
    cases r
    cases b with
    | true =>
      obtain ⟨its, rv, p', hz⟩ := I1.list (show SqL X.K H1 a xs from hq)
      exact call_enumerate_list p'.isList fun h' he hit hsz hk => wpAny_pyIter_enum he
        ⟨s1.heap.objs.size + 1, [s1.heap.objs.size + 1, s1.heap.objs.size], _, _, H1, rfl, I1.kept (t' := s1.toks) hk, turn_enum a (s1.heap.objs.size + 1) s1.heap.objs.size, ⟨⟨.none, he⟩, hit, Nat.succ_ne_self _⟩, fr, q⟩
    | false =>
      obtain ⟨its, rv, p', hz⟩ := I1.tuple (show SqT X.K H1 a xs from hq)
      have hal : a < s1.heap.objs.size := by obtain ⟨_, g, _⟩ := p'; exact Heap.lt_size g
      exact call_enumB (begins_tuple a its.toArray) p' fun h' he hit hk => wpAny_pyIter_enum he
        ⟨s1.heap.objs.size + 1, [s1.heap.objs.size + 1, s1.heap.objs.size], _, _, H1, rfl, I1.kept (t' := s1.toks) hk, turn_enumT a (s1.heap.objs.size + 1) s1.heap.objs.size (Nat.ne_of_lt hal), ⟨⟨.none, he⟩, ⟨_, hit, rfl, rfl⟩, Nat.succ_ne_self _, Nat.ne_of_lt (Nat.lt_succ_of_lt hal)⟩, fr, q⟩
/-- for x in e, e a list or a tuple -/
def iSeqB (K : PySem.W.Frag) (tl : TE) : TI := fun σ H R => tl σ H fun x H1 => ∃ b a xs, x = .ref a ∧ SqB K b H1 a xs ∧ R (ItB K b a) H1
theorem pi_seqB {X : Cx} {tg l : Expr} {tl : TE} (hl : PE X l tl) : PI X tg l (iSeqB X.K tl) := by
  refine ⟨fun pins s σ H R I h => thn (hl.run pins s σ H _ I h) fun v s1 ⟨x, H1, I1, r1, b, a, xs, e, hq, q⟩ => ?_⟩
  subst e
  cases r1
  have fr : ∀ c ∈ [s1.heap.objs.size], FpOk X pins H1 c := fun c hc => by
    rw [List.mem_singleton.mp hc]
    exact I1.fpOk (Nat.le_refl _) (I1.hok.fresh (Nat.le_refl _))
  cases b with
  | true =>
    obtain ⟨its, rv, p, hz⟩ := I1.list (show SqL X.K H1 a xs from hq)
    exact wpAny_pyIter_list p.isList ⟨s1.heap.objs.size, [s1.heap.objs.size], _, _, H1, rfl, I1.kept (t' := s1.toks) fun b o e => Heap.get?_push_of_some _ e, turn_list a _, ⟨_, Heap.get?_push_size _ rfl, rfl, rfl⟩, fr, q⟩
  | false =>
    obtain ⟨its, rv, p, hz⟩ := I1.tuple (show SqT X.K H1 a xs from hq)
    exact wpAny_pyIter_tuple (show s1.heap.IsTuple a its.toArray from p) ⟨s1.heap.objs.size, [s1.heap.objs.size], _, _, H1, rfl, I1.kept (t' := s1.toks) fun b o e => Heap.get?_push_of_some _ e, turn_tuple a _, ⟨_, Heap.get?_push_size _ rfl, rfl, rfl⟩, fr, q⟩
end Rz
set_option Elab.async false
set_option linter.all false
set_option maxRecDepth 100000
set_option maxHeartbeats 4000000
/-! sorted(xs, key=lambda x: ..), the keys texts, the lambda walked as a def is -/
namespace Rz
open PySem PySem.Spec PyProof.Rows L2 HandSPX PySem.W
section
variable {prog : Program} {w : World} {A : Around} {E : Value → Shared → Prop} {s : Shared} {a kS : Addr} {b : Bool} {vs : List Value} {zs : List Str} {e1 : Nat} {P : PySem.Fin → Shared → Prop} {G : Shared → Prop}
/-- G bears changes of the two lists -/
def Bears (a kS : Addr) (G : Shared → Prop) : Prop := ∀ (t : Shared) (g : Heap) (tk : Nat), G t → (∀ c o, c ≠ a → c ≠ kS → t.heap.get? c = some o → g.get? c = some o) → G { t with heap := g, toks := tk }
theorem all_str (zs : List Str) : AllAlike (zs.map PyData.str) := AllAlike.of fun _ _ => by simp [alike]
theorem srt_str (zs : List Str) : Sortable (zs.map PyData.str) := Sortable.others fun _ => ⟨by simp, by simp⟩
theorem keyG_rest {f : Value} (hG : Bears a kS G) (g0 : G s) (nk : s.heap.get? kS = some (seqObj "list" #[] 0)) (na : s.heap.get? a = some (seqObj "list" #[] e1)) (hka : kS ≠ a)
    (hlen : zs.length = vs.length) (hZ : vs.length ≤ sizeLine) (hu : A.units + 1 < cLine)
    (turn : ∀ (i : Nat) (v : Value) (z : Str), vs[i]? = some v → zs[i]? = some z → ∀ t, G t →
      wpAny (model prog w) A (call f [v]) (fun u t' => G t' ∧ (∃ k, u = .str z k) ∧ ∀ c o, c = a ∨ c = kS → t.heap.get? c = some o → t'.heap.get? c = some o) (fun _ _ => False) t)
    (h : ∀ t out c, G t → t.heap.get? a = some (seqObj "list" (List.toArray out) c) → KeyedOut b (zs.map PyData.str) vs out → P (.done (.ret .none)) t) :
    wpAny (model prog w) A (ksk_rest a f b vs.toArray e1 (.ref kS)) P E s := by
  unfold ksk_rest
  refine wpAny_bind (wpAny_rule ?_)
  first
    | rw [List.forIn_toArray]
    | (rw [← Array.forIn_toList]; simp only [List.toList_toArray])
    | rw [← Array.forIn_toList]
  refine wpAny_bind (ksk_fold (fun i t => G t ∧ ∃ ks c, t.heap.get? kS = some (seqObj "list" ks c) ∧ t.heap.get? a = some (seqObj "list" #[] e1) ∧ EachIs (fun v z => ∃ k, v = Value.str z k) ks.toList (zs.take i)) vs 0 s
    ⟨g0, #[], 0, nk, na, by rw [List.take_zero]; exact EachIs.nil⟩ ?go ?fin)
  case go =>
    rintro j x t hx ⟨gt, ks, c, nk', na', hk⟩
    simp only [Nat.zero_add] at hk ⊢
    have hj : j < vs.length := (List.getElem?_eq_some_iff.mp hx).1
    obtain ⟨z, hz⟩ : ∃ z, zs[j]? = some z := ⟨_, List.getElem?_eq_getElem (by omega)⟩
    have hn : ks.size ≤ vs.length := by
      have q := hk.length
      rw [Array.length_toList, List.length_take] at q
      omega
    refine wpAny_bind (wpAny_attempt (wpAny_mono (turn j x z hx hz t gt) (fun v t' ⟨g', ⟨k, ev⟩, kp⟩ => ?_) fun _ _ q => q.elim))
    subst ev
    try dsimp only
    have nk2 := kp kS _ (.inr rfl) nk'
    have na2 := kp a _ (.inl rfl) na'
    have sb := Heap.SameBut.update t'.heap kS (Obj.mapSeq (·.push (Value.str z k)))
    refine wpAny_bind (listUpdate_at nk2 rfl ?_ (Nat.le_trans hn hZ) (Nat.le_trans (Nat.le_of_eq (Array.size_push ..)) (Nat.succ_le_succ (Nat.le_trans hn hZ))))
    have ek : zs.take (j + 1) = zs.take j ++ [z] := by rw [List.take_add_one, hz]; simp
    refine wpAny_pure ⟨rfl, hG t' _ t'.toks g' (fun c o h1 h2 q => (sb.2 c h2).trans q), ks.push (Value.str z k), _, get?_update_seq nk2 (·.push (Value.str z k)), (sb.2 a hka.symm).trans na2, ?_⟩
    rw [show (ks.push (Value.str z k)).toList = ks.toList ++ [Value.str z k] by simp, ek]
    exact each_snoc ⟨k, rfl⟩ hk
  case fin =>
    rintro t ⟨gt, ks, c, nk', na', hk⟩
    have hk' : EachIs (fun v d => ∃ as, Reads t.heap v d as) ks.toList (zs.map PyData.str) := by
      rw [show zs.take (0 + vs.length) = zs from List.take_of_length_le (by omega)] at hk
      exact each_map (R := fun v d => ∃ as, Reads t.heap v d as) PyData.str (hk.mono fun v z ⟨k, q⟩ => ⟨[], q ▸ Reads.str z k⟩)
    have hsz : ks.size = vs.length := by
      have q := hk'.length
      rw [Array.length_toList, List.length_map] at q
      omega
    try dsimp only
    refine wpAny_bind (listItems_at nk' rfl ?_)
    have hu' : ∀ d, d ∈ zs.map PyData.str → A.units + d.depth < cLine := fun d hd => by
      obtain ⟨z, _, rfl⟩ := List.mem_map.mp hd
      have : (PyData.str z).depth = 0 := by simp [PyData.depth]
      omega
    refine keyH_end (κ := dataKind t.heap (zs.map PyData.str)) (h₁ := PySem.W.hideAll t.heap [kS]) (fun c o _ q => PySem.W.of_hideAll _ q) (PySem.W.hideAll_none _ (List.mem_singleton.mpr rfl)) nk' na' hka
      (SortsAt.data (s := t) hk' (all_str zs) (srt_str zs) hu') hsz hZ fun g tk c' kp ng => ?_
    exact h _ _ c' (hG t g tk gt fun c o h1 h2 q => kp c o h1 (PySem.W.hideAll_get _ q fun z => h2 (List.mem_singleton.mp z))) ng ⟨t.heap, ks.toList, all_str zs, rfl, hk'⟩
end

theorem clo_nil {cells : List (Str × Addr)} : ∀ {names : List (Str × NameKind)} {acc : List (Str × Addr)}, (∀ y ∈ names, y.2 ≠ .free) → cloFrom cells names acc = acc
  | [], _, _ => rfl
  | (n, k) :: r, acc, h => by
    unfold cloFrom
    rw [if_neg (by simpa using h (n, k) List.mem_cons_self)]
    exact clo_nil fun y hy => h y (List.mem_cons_of_mem _ hy)
theorem each_vals : ∀ {us : List Value} {xs : List V}, EachIs (fun u x => RelV x u) us xs → Vals xs us
  | _, _, .nil => .nil
  | _, _, .cons h t => .cons h (each_vals t)
theorem vals_each : ∀ {us : List Value} {xs : List V}, Vals xs us → EachIs (fun u x => RelV x u) us xs
  | _, _, .nil => .nil
  | _, _, .cons h t => .cons h (vals_each t)
/-- items in the order of their keys -/
def leK (kf : V → Str) : V → V → Bool := dataLe false fun x => PyData.str (kf x)
/-- what stands untracked and is ours is tracked from now on -/
theorem Inv.tell {X : Cx} {pins : List (Addr × Obj)} {σ : L2.St} {H : Hp} {s : Shared} {a : Addr} {o : HO} (I : Inv X pins σ H s) (fp : FpOk X pins H a) (new : ObjOk X.prog X.w (upd H a o) s.heap a o) : Inv X pins σ (upd H a o) s := by
  obtain ⟨f0, f1, f2, f3, f4, f5⟩ := fp
  have sm : ∀ b u, H b = some u → b ≠ a := fun b u e z => by rw [z, f0] at e; cases e
  have J := I.step (h' := s.heap) (H' := upd H a o) (g' := s.gens) (d' := s.drawn) (t' := s.toks) (ch := [a]) (fun b hb => by rw [List.mem_singleton.mp hb]; exact ⟨f3, f1, f4, f5⟩) (fun _ _ _ _ _ e _ => e) (fun _ q _ _ _ e _ => ⟨q.slots, e⟩)
    (fun b _ hb _ n => by rw [upd_ne fun z => hb (by simp [z])]; exact n) (fun _ q _ e => ⟨q, e⟩) (fun b xs e => by rw [upd_ne (sm b _ e)]; exact e) (fun b q u e => by rw [upd_ne (sm b _ e)]; exact e) (fun b ps e => ⟨#[], by rw [upd_ne (sm b _ e), e]; simp⟩) (fun _ hm => hm)
    (fun b u e => by
      by_cases hb : b = a
      · subst hb; rw [upd_same] at e; cases e; exact new
      · rw [upd_ne hb] at e
        exact (I.hok b u e).stay (fun _ _ _ q => q) (fun c q => by rw [upd_ne (sm c _ q)]; exact q) fun c xs q => by rw [upd_ne (sm c _ q)]; exact q) I.bare
  exact J
def tSortLam (K : PySem.W.Frag) (T : List (Addr × Str)) (N : List Str) (tb : TE) (ta : TA) : TE := fun σ H Q => ta σ H fun vs H1 => ∃ l xs kf, vs = [.ref l] ∧ SqL K H1 l xs ∧ LamX.Tabs T H1 ∧ ∀ H2, LamX.ExtN H1 H2 → LamX.Tabs T H2 → SqL K H2 l xs ∧
  (∀ y ∈ xs, tb (L2.start N [y]) H2 fun v H' => v = .str (kf y) ∧ H' = H2) ∧ ∀ D, H2 D = none → Q (.ref D) (upd H2 D (.lst (xs.mergeSort (leK kf))))
theorem pe_sortLam {X : Cx} {T : List (Addr × Str)} {N : List Str} {a : Str} {c P : Addr} {k : Nat} {params : Arguments} {body e : Expr} {scope : Scope} {ta : TA} {tb : TE} {p lpos kpos pos : Pos} (hc : X.calm = true) (hg : Gl X "sorted") (hm : X.mg "sorted" = none) (ha : PA X [e] ta)
    (TB : LamX.TabB X.base X.mg c P) (hcode : X.env.code = .ref c) (hmT : (P, X.env.qual ++ "<lambda>") ∈ T) (hu : ∀ p ∈ T, p.1 = P → p.2 = X.env.qual ++ "<lambda>") (hr : Room (k + 3) X.A) (S : FnScope N [a] scope) (hdef : defaultsOf params X.env = ([], []))
    (hbind : ∀ (q : Str) (pm cv ctv v : Value), bindArgs (PySem.W.kla_fn "<lambda>" q params body scope [] pm cv ctv) ⟨[v], []⟩ = pure [(a, v)])
    (hbody : ∀ (A : Around) (outer : List Env) (s : Shared) (H : Hp) (E : XK) (f : Addr) (cv : Value), Room k (A.deeper (envOfC (X.env.qual ++ "<lambda>") scope s.heap.objs.size f cv)) → PE (cxOf CX0 X.prog X.w X.K X.mg X.base N (X.env.qual ++ "<lambda>") scope f cv A outer s H E) body tb)
    (he : backTo pos (starEach [e] X.env) = (false, eval e X.env) :: backTo pos (starEach [] X.env) := by rfl) (hpl : (backTo pos (starEach [e] X.env)).any (·.1) = false := by rfl) :
    PE X (.Call (.Name "sorted" p) [e] [⟨some "key", .Lambda params body scope lpos, kpos⟩] pos) (tSortLam X.K T N tb ta) := by
  refine ⟨fun pins s σ H Q I h => ?_⟩
  refine wpAny_Call_Name_kw (ld_blt I hg hm (by decide +kernel : bootBuiltins "sorted" = some (.builtin "sorted")) ?_)
  refine PyProof.Rows.callWith_kw (thn (ha.run pos pins s σ H _ I h) fun us s1 ⟨vs, H1, I1, r1, l, xs, kf, ev, hS, hT, hh⟩ => ?_) he hpl (by rfl) (by rfl)
  subst ev
  cases r1 with
  | cons rl rr =>
  cases rr
  obtain rfl := rl
  have hfree : ∀ y ∈ scope.names, y.2 = .free → ∃ c, X.env.cells.lookup y.1 = some c := fun y hy z => absurd z (S.nofree y hy)
  have hcl : cloFrom X.env.cells scope.names [] = [] := clo_nil S.nofree
  show wpAny _ _ (evalAll ((do let v ← eval (.Lambda params body scope lpos) X.env; standAt pos; pure v) :: [])) _ _ s1
  refine wpAny_evalAll_cons (wpAny_bind (LamX.lam_make2 I1 TB hcode hmT hu hT hdef hfree fun f c' pm ctv H2 s2 I2 eN T2 hf hfn hfr hco => wpAny_bind (wpAny_standAt (wpAny_pure ?_))))
  refine wpAny_evalAll_nil ?_
  show wpAny _ _ (call (.builtin "sorted") [.ref l] [(Str.ofString "key", .ref f)]) _ _ s2
  obtain ⟨hS2, hkey, hend⟩ := hh H2 eN T2
  obtain ⟨its, rv, pl, hz⟩ := I2.list hS2
  have hits : its.length ≤ sizeLine := by rw [← rv.length]; exact hz
  rw [hcl] at hf
  generalize hfo : PySem.W.kla_obj "<lambda>" (X.env.qual ++ "<lambda>") params body scope [] pm c' ctv = fo at hf
  refine sorted_of_sort pl.isList hits (ksk_s1 _ _) (fun _ => ksk_l1 _ _) fun E' => ?_
  rw [ksk_t1]
  generalize ha0 : s2.heap.objs.size + 1 = a0
  have fpa : FpOk X pins H2 a0 := I2.fpOk (by omega) (I2.hok.fresh (by omega))
  have I3 : Inv X pins σ H2 { s2 with heap := copyHeap s2.heap its } := I2.kept (t' := s2.toks) fun b o z => copyHeap_old z
  have hat : (copyHeap s2.heap its).get? a0 = some (seqObj "list" its.toArray 0) := by rw [← ha0]; exact copyHeap_at _ _
  obtain ⟨e1, ho1⟩ : ∃ e1, ((copyHeap s2.heap its).update a0 (Obj.mapSeq fun _ => (#[] : Array Value))).get? a0 = some (seqObj "list" #[] e1) := ⟨_, get?_update_seq hat fun _ => #[]⟩
  have hlt : a0 < (copyHeap s2.heap its).objs.size := Heap.lt_size hat
  have hkS : (((copyHeap s2.heap its).update a0 (Obj.mapSeq fun _ => (#[] : Array Value))).push (seqObj "tuple" its.toArray 0)).objs.size = (copyHeap s2.heap its).objs.size + 1 := by rw [size_push', Heap.size_update]
  unfold ksk_tree
  refine wpAny_bind (listItems_at hat rfl ?_)
  refine wpAny_bind (listUpdate_at hat rfl ?_ (by rw [List.size_toArray]; exact hits) (Nat.zero_le _))
  refine wpAny_bind (seqEpoch_at ho1 rfl ?_)
  refine wpAny_bind (wpAny_newTuple ?_ (by show its.length ≤ _; exact hits))
  refine wpAny_bind (wpAny_newList ?_ (Nat.zero_le _))
  refine wpAny_holding ?_
  generalize hk0 : (((copyHeap s2.heap its).update a0 (Obj.mapSeq fun _ => (#[] : Array Value))).push (seqObj "tuple" its.toArray 0)).objs.size = k0
  have hsza : s2.heap.objs.size ≤ a0 := by rw [← ha0]; exact Nat.le_succ _
  have hsz2 : s2.heap.objs.size ≤ k0 := by rw [← hk0, hkS]; exact Nat.le_trans hsza (Nat.le_of_lt (Nat.lt_succ_of_lt hlt))
  have fpk : FpOk X pins H2 k0 := I2.fpOk hsz2 (I2.hok.fresh hsz2)
  have nfa : f ≠ a0 := Nat.ne_of_lt (Nat.lt_of_lt_of_le (Heap.lt_size hf) hsza)
  have nfk : f ≠ k0 := Nat.ne_of_lt (Nat.lt_of_lt_of_le (Heap.lt_size hf) hsz2)
  have nka : k0 ≠ a0 := by rw [← hk0, hkS]; exact Nat.ne_of_gt (Nat.lt_succ_of_lt hlt)
  have up : ∀ b, b ∈ frs X.stack → b = X.env.locals ∨ b ∈ X.fs := fun b hb => List.mem_cons.mp (I2.stkSub b hb)
  have nst : ∀ b, FpOk X pins H2 b → b ∉ frs X.stack := fun b fp hb => (up b hb).elim fp.2.1 fp.2.2.1
  refine keyG_rest (zs := xs.map kf) (a := a0) (kS := k0) (G := fun t => Inv X pins σ H2 t ∧ t.heap.get? f = some fo) (fun t g tk ⟨It, hft⟩ kp => ⟨?_, kp f _ nfa nfk hft⟩)
    ⟨?_, ?_⟩ ?_ ?_ nka (by rw [List.length_map]; exact rv.length) hits (by have := hr.un; show X.A.units + 1 + 1 + 1 < cLine; omega) (fun i v z hv hzv t ⟨It, hft⟩ => ?_) (fun t out c0 ⟨It, hft⟩ hout ko => ⟨rfl, ?_⟩)
  · exact It.turnedL (t' := tk) (ch := [a0, k0]) (fun b o hb q => kp b o (fun z => hb (by simp [z])) (fun z => hb (by simp [z])) q) fun b hb => by
      rcases (show b = a0 ∨ b = k0 by simpa using hb) with z | z
      · rw [z]; exact fpa
      · rw [z]; exact fpk
  · have J := I3.turnedL (h' := (((copyHeap s2.heap its).update a0 (Obj.mapSeq fun _ => (#[] : Array Value))).push (seqObj "tuple" its.toArray 0)).push (seqObj "list" #[] 0)) (t' := s2.toks) (ch := [a0]) (fun b o hb q =>
      Heap.get?_push_of_some _ (Heap.get?_push_of_some _ (((Heap.SameBut.update _ a0 _).2 b (by simpa using hb)).trans q))) fun b hb => by rw [List.mem_singleton.mp hb]; exact fpa
    exact J
  · exact Heap.get?_push_of_some _ (Heap.get?_push_of_some _ (((Heap.SameBut.update _ a0 _).2 f nfa).trans (copyHeap_old hf)))
  · rw [← hk0]; exact Heap.get?_push_size _ rfl
  · exact Heap.get?_push_of_some _ (Heap.get?_push_of_some _ ho1)
  · -- a turn: the lambda is called
    obtain ⟨y, hy, ez⟩ : ∃ y, xs[i]? = some y ∧ z = kf y := by
      rw [List.getElem?_map] at hzv
      cases q : xs[i]? with
      | none => rw [q] at hzv; cases hzv
      | some y => rw [q] at hzv; exact ⟨y, rfl, (Option.some.inj hzv).symm⟩
    obtain ⟨u0, hu0, ry⟩ := rv.get hy
    rw [hv] at hu0
    cases hu0
    have E0 : Env0 X.prog X.w X.K X.mg X.base X.A.in1.in1 X.stack t H2 := let q := It.env0; ⟨q.frames, q.mod, q.bs, q.bsz, q.funs, q.frf, q.hok, q.bare⟩
    have hr1 : Room (k + 1) X.A.in1.in1 := (Room.in1 (k := k + 2) hr).in1
    obtain ⟨⟨oc, us, tq, hoc, hdc, hvc⟩, _, _⟩ := It.hok c' _ hco
    rw [← hfo] at hft
    have run : codeAny (model X.prog X.w) X.A.in1.in1 (.call (.ref f) ⟨[v], []⟩) (CR CX0 X.stack X.prog X.w H2 t (fun u H' => u = .str (kf y) ∧ H' = H2) fun _ _ _ => False) t := by
      refine PySem.W.kla_callFunE hr1.depth hft rfl S.co S.gen rfl ⟨c', oc, us, tq, rfl, hoc, hdc, hvc⟩ ?_
      rw [hbind]
      refine wpAny_pure (wpAny_newFunctionEnv_cells S.kind (fun q hq => ?_) fun env0 he0 t1 x => ?_)
      · rw [List.mem_singleton.mp hq]
        exact (S.par a List.mem_cons_self).elim .inl fun z => .inr ⟨z, PySem.W.cellsFrom_some _ _ _ (.inl z)⟩
      · subst he0
        refine ⟨It.nolimit.keeps x.toInCall.keep, ?_⟩
        have J := inv_start (CX := CX0) (N := N) (ps := [a]) (us := [v]) (vs := [y]) (E := fun _ _ _ => False) S hr1.hd E0 rfl (.cons ry .nil) x
        refine PySem.W.kla_codeExpr (wpAny_mono ((hbody _ _ t H2 (fun _ _ _ => False) f (.ref c') (hr1.deeper _)).run [] _ _ H2 _ J (hkey y (List.mem_of_getElem? hy))) (fun u t2 ⟨x2, H', J', rx, q⟩ => ⟨x2, H', J'.os, J'.bare, J'.base, J'.hok, rx, q⟩) fun _ _ q => q)
    refine wpAny_call (codeAny_mono run fun r t2 hq => ?_)
    cases r with
    | error er => exact (show False from hq).elim
    | ok fl =>
      cases fl with
      | ret u =>
        obtain ⟨x2, H', I4, rx, ex, eH⟩ := It.after hq
        obtain ⟨_, _, _, _, un, _, _, _⟩ := hq
        subst ex eH
        have keepO : ∀ b o, FpOk X pins H' b → t.heap.get? b = some o → t2.heap.get? b = some o := fun b o fp q => un.keep b o q fp.1 (nst b fp) (by simp)
        refine ⟨⟨I4, ?_⟩, ?_, fun b o hb q => keepO b o (hb.elim (fun z => by rw [z]; exact fpa) fun z => by rw [z]; exact fpk) q⟩
        · rw [← hfo]
          exact un.keep f _ hft hfn hfr (by simp)
        · rw [ez]; exact rx
      | next => exact False.elim hq
      | brk => exact False.elim hq
      | cont => exact False.elim hq
  · -- the end
    have ko2 : KeyedOut false (xs.map fun x => PyData.str (kf x)) its out := by rw [List.map_map] at ko; exact ko
    have ev := each_vals (keyedOut_each (R := fun u x => RelV x u) (fun x => PyData.str (kf x)) ko2 (vals_each rv))
    have hl : (xs.mergeSort (leK kf)).length ≤ sizeLine := by rw [List.length_mergeSort]; exact hz
    have It2 := Inv.tell (o := .lst (xs.mergeSort (leK kf))) It fpa ⟨hl, out, c0, ev, hout⟩
    exact ⟨.ref a0, _, It2, rfl, hend a0 fpa.1⟩
end Rz
set_option Elab.async false
set_option linter.all false
set_option maxRecDepth 100000
set_option maxHeartbeats 4000000
/-! the values, what stands for them in memory, what a writer makes of them and what a reader builds -/
namespace Rz
open PySem PySem.Spec PyProof.Rows L2 PySem.W
inductive Val where
  | non | bl (b : Bool) | int (i : Int) | str (x : Str) | seq (t : Bool) (l : List Val) | tab (es : List (Key × Val))
def flat : Val → Option V
  | .non => some .non
  | .bl b => some (.bl b)
  | .int i => some (.int i)
  | .str x => some (.str x)
  | _ => none
def sqO (t : Bool) (xs : List V) : HO := if t then .lst xs else .tup xs
/-- at v stands d, at most k deep; C: the class of tables -/
def VAt (C : Addr) (H : Hp) : Nat → V → Val → Prop
  | 0, v, d => flat d = some v
  | k + 1, v, d => flat d = some v ∨ (∃ t l a xs, d = .seq t l ∧ v = .ref a ∧ H a = some (sqO t xs) ∧ Paired (VAt C H k) xs l) ∨
      ∃ es p dx dd od kvs, d = .tab es ∧ v = .ref p ∧ H p = some (.ins C dx [("held", .ref dd)]) ∧ H dd = some (.frz od (.dK kvs)) ∧ Paired (fun a b => a.1 = b.1 ∧ VAt C H k a.2 b.2) kvs es
def istr (i : Int) : Str := toString i
/-- a name that a reader may turn to a number -/
def isDK (z : Str) : Bool := (Txt.isdigit (Txt.removeprefix z "-") && !decide ((30 : Int) < ((Txt.removeprefix z "-").length : Int))) && (decide (V.str z = V.str "0") || !decide (V.str ⟨#[(_root_.TL.tl (Txt.removeprefix z "-")).getD 0 0]⟩ = V.str "0"))
/-- bounds -/
def okF : Val → Prop
  | .int i => i.natAbs < 10 ^ 21
  | .str x => x.length ≤ 60
  | .non => True
  | .bl _ => True
  | _ => False
def okN (x : Str) : Prop := x.length ≤ 24 ∧ (isDK x = true → ∃ i : Int, x = istr i ∧ i.natAbs < 10 ^ 21)
def okK : Key → Prop
  | .inl i => i.natAbs < 10 ^ 21
  | .inr x => okN x
def Ok : Nat → Val → Prop
  | 0, d => okF d
  | k + 1, d => okF d ∨ (∃ t l, d = .seq t l ∧ l.length ≤ 4 ∧ ∀ x ∈ l, Ok k x) ∨ ∃ es, d = .tab es ∧ es.length ≤ 4 ∧ (es.map (·.1)).Nodup ∧ ∀ e ∈ es, okK e.1 ∧ Ok k e.2
section
variable {C : Addr} {H H' : Hp} {k : Nat} {v : V} {d : Val}
theorem VAt.same (s : Same H H') : ∀ {k : Nat} {v : V} {d : Val}, VAt C H k v d → VAt C H' k v d
  | 0, _, _, h => h
  | k + 1, _, _, h => by
    rcases h with h | ⟨t, l, a, xs, e1, e2, h1, h2⟩ | ⟨es, p, dx, dd, od, kvs, e1, e2, h1, h2, h3⟩
    · exact .inl h
    · exact .inr (.inl ⟨t, l, a, xs, e1, e2, s _ _ h1, Paired.mapP h2 fun _ _ q => VAt.same s q⟩)
    · exact .inr (.inr ⟨es, p, dx, dd, od, kvs, e1, e2, s _ _ h1, s _ _ h2, Paired.mapP h3 fun _ _ q => ⟨q.1, VAt.same s q.2⟩⟩)
theorem VAt.up : ∀ {k : Nat} {v : V} {d : Val}, VAt C H k v d → VAt C H (k + 1) v d
  | 0, _, _, h => .inl h
  | k + 1, _, _, h => by
    rcases h with h | ⟨t, l, a, xs, e1, e2, h1, h2⟩ | ⟨es, p, dx, dd, od, kvs, e1, e2, h1, h2, h3⟩
    · exact .inl h
    · exact .inr (.inl ⟨t, l, a, xs, e1, e2, h1, Paired.mapP h2 fun _ _ q => VAt.up q⟩)
    · exact .inr (.inr ⟨es, p, dx, dd, od, kvs, e1, e2, h1, h2, Paired.mapP h3 fun _ _ q => ⟨q.1, VAt.up q.2⟩⟩)
theorem VAt.flat (h : flat d = some v) : VAt C H k v d := by cases k with | zero => exact h | succ k => exact .inl h
theorem Ok.up : ∀ {k : Nat} {d : Val}, Ok k d → Ok (k + 1) d
  | 0, _, h => .inl h
  | k + 1, _, h => by
    rcases h with h | ⟨t, l, e, h1, h2⟩ | ⟨es, e, h1, h2, h3⟩
    · exact .inl h
    · exact .inr (.inl ⟨t, l, e, h1, fun x hx => Ok.up (h2 x hx)⟩)
    · exact .inr (.inr ⟨es, e, h1, h2, fun x hx => ⟨(h3 x hx).1, Ok.up (h3 x hx).2⟩⟩)
theorem Ok.flat (h : okF d) : Ok k d := by cases k with | zero => exact h | succ k => exact .inl h
end
/-! ### the passages -/
structure Opt where
  nk : Str
  tp : Str
  nl : Str
  dk : Str
  od : Str
  ln : Str
  deriving DecidableEq
structure ROpt where
  sk : Str
  dg : Str
  ls : Str
  ni : Str
  deriving DecidableEq
def Opt.ok (o : Opt) : Prop := o.nk ∈ (["text", "skip", "refuse"] : List Str) ∧ o.tp ∈ (["list", "refuse"] : List Str) ∧ o.nl ∈ (["keep", "skip"] : List Str) ∧ o.dk ∈ (["keep", "refuse"] : List Str) ∧ o.od ∈ (["keep", "rising"] : List Str) ∧ o.ln ∈ (["keep", "text", "refuse"] : List Str)
def ROpt.ok (r : ROpt) : Prop := r.sk ∈ (["last", "first", "refuse"] : List Str) ∧ r.dg ∈ (["text", "number"] : List Str) ∧ r.ls ∈ (["list", "tuple"] : List Str) ∧ r.ni ∈ (["keep", "skip"] : List Str)
def keyT : Key → Str
  | .inl i => istr i
  | .inr x => x
def isI : Key → Bool
  | .inl _ => true
  | .inr _ => false
def isN : Val → Bool
  | .non => true
  | _ => false
def longI (i : Int) : Bool := decide (15 < ((istr (if i < 0 then -i else i)).length : Int))
/-- an entry that is not left out because it is null -/
def seen (o : Opt) (e : Key × Val) : Bool := !(isN e.2 && o.nl == "skip")
def bad (o : Opt) (es : List (Key × Val)) : Bool := es.any fun e => seen o e && (isI e.1 && o.nk == "refuse")
def kept (o : Opt) (es : List (Key × Val)) : List (Key × Val) := es.filter fun e => seen o e && (!isI e.1 || o.nk == "text")
def leE : Key × Val → Key × Val → Bool := dataLe false fun e => PyData.str (keyT e.1)
def ordE (o : Opt) (l : List (Key × Val)) : List (Key × Val) := if o.od = "rising" then l.mergeSort leE else l
def dup (o : Opt) (l : List (Key × Val)) : Bool := o.dk == "refuse" && !decide (l.map fun e => keyT e.1).Nodup
def allS {α : Type} : List (Option α) → Option (List α)
  | [] => some []
  | x :: r => x.bind fun z => (allS r).map (z :: ·)
/-- what the writer makes of a value; tables have their names in place of their keys -/
def rawF (o : Opt) : Val → Option Val
  | .int i => if longI i && !(o.ln == "keep") then (if o.ln = "refuse" then none else some (.str (istr i))) else some (.int i)
  | d => some d
def pairT (t : Val → Option Val) (e : Key × Val) : Option (Key × Val) := (t e.2).map fun z => (.inr (keyT e.1), z)
def rawV (o : Opt) : Nat → Val → Option Val
  | 0, d => rawF o d
  | k + 1, d => match d with
    | .seq t l => if !t && o.tp == "refuse" then none else (allS (l.map (rawV o k))).map fun zs => .seq true zs
    | .tab es => if bad o es then none else if dup o (ordE o (kept o es)) then none else (allS ((ordE o (kept o es)).map (pairT (rawV o k)))).map fun zs => .tab zs
    | d => rawF o d
/-- the key that the reader builds of a name -/
def bk (r : ROpt) : Key → Key
  | .inl i => .inl i
  | .inr x => if r.dg == "number" && isDK x then .inl ((PySem.intText? x).getD 0) else .inr x
/-- an entry is put -/
def fput (r : ROpt) (l : List (Key × Val)) (e : Key × Val) : List (Key × Val) := if l.any (fun x => decide (x.1 = e.1)) = true then (if r.sk == "last" then l.map (fun x => if x.1 = e.1 then (x.1, e.2) else x) else l) else l ++ [e]
def fputs (r : ROpt) (l : List (Key × Val)) : List (Key × Val) := l.foldl (fput r) []
def heldB (r : ROpt) (e : Key × Val) : Bool := !isN e.2 || r.ni == "keep"
def dubB (r : ROpt) (l : List (Key × Val)) : Bool := r.sk == "refuse" && !decide (l.map (·.1)).Nodup
def pairB (t : Val → Option Val) (e : Key × Val) : Option (Key × Val) := (t e.2).map fun z => (e.1, z)
def outB (r : ROpt) (l : List (Key × Val)) : List (Key × Val) := ((fputs r l).filter (heldB r)).map fun e => (bk r e.1, e.2)
def bldV (r : ROpt) : Nat → Val → Option Val
  | 0, d => some d
  | k + 1, d => match d with
    | .seq _ l => (allS (l.map (bldV r k))).map fun zs => .seq (!(r.ls == "tuple")) zs
    | .tab es => if dubB r es then none else (allS (es.map (pairB (bldV r k)))).map fun zs => .tab (outB r zs)
    | d => some d
def carry (o : Opt) (r : ROpt) (k : Nat) (d : Val) : Option Val := (rawV o k d).bind (bldV r k)
def parts : Nat → Val → Nat
  | 0, _ => 1
  | k + 1, .seq _ l => 1 + (l.map (parts k)).sum
  | k + 1, .tab es => 1 + (es.map fun e => parts k e.2).sum
  | _, _ => 1
/-- what the writer makes, within bounds -/
def Rok : Nat → Val → Prop
  | 0, d => okF d
  | k + 1, d => okF d ∨ (∃ l, d = .seq true l ∧ l.length ≤ 4 ∧ ∀ x ∈ l, Rok k x) ∨ ∃ es, d = .tab es ∧ es.length ≤ 4 ∧ ∀ e ∈ es, (∃ x, e.1 = .inr x ∧ okN x) ∧ Rok k e.2
/-- a raw value at v, at most k deep -/
def RwAt (H : Hp) : Nat → V → Val → Prop
  | 0, v, d => flat d = some v
  | k + 1, v, d => flat d = some v ∨ (∃ l t a xs, d = .seq true l ∧ v = .ref t ∧ H t = some (.tup [.str "row", .ref a]) ∧ H a = some (.lst xs) ∧ Paired (RwAt H k) xs l) ∨
      ∃ es t a xs, d = .tab es ∧ v = .ref t ∧ H t = some (.tup [.str "table", .ref a]) ∧ H a = some (.lst xs) ∧ Paired (fun p e => ∃ q n x, p = .ref q ∧ H q = some (.tup [.str n, x]) ∧ e.1 = .inr n ∧ RwAt H k x e.2) xs es
def PairR (H : Hp) (k : Nat) (p : V) (e : Key × Val) : Prop := ∃ q n x, p = .ref q ∧ H q = some (.tup [.str n, x]) ∧ e.1 = .inr n ∧ RwAt H k x e.2
/-! ### lengths -/
theorem istr_len {i : Int} (h : i.natAbs < 10 ^ 21) : (istr i).length ≤ 22 := by
  unfold istr
  rw [PySem.ofString_length]
  exact int_text_length_le10 (by decide) h
theorem okN_istr {i : Int} (h : i.natAbs < 10 ^ 21) : okN (istr i) := ⟨Nat.le_trans (istr_len h) (by decide), fun _ => ⟨i, rfl, h⟩⟩
theorem keyT_ok {k : Key} (h : okK k) : okN (keyT k) := by
  cases k with
  | inl i => exact okN_istr h
  | inr x => exact h
theorem allS_some {α : Type} : ∀ {l : List (Option α)} {zs : List α}, allS l = some zs ↔ l = zs.map some
  | [], zs => by cases zs <;> simp [allS]
  | x :: r, zs => by
    cases x with
    | none => cases zs <;> simp [allS]
    | some z =>
      cases zs with
      | nil => cases h : allS r <;> simp [allS, h]
      | cons y ys =>
        have ih := @allS_some α r ys
        cases h : allS r with
        | none =>
          rw [h] at ih
          simp [allS, h]
          intro _ e
          exact absurd (ih.mpr e) (by simp)
        | some ws =>
          rw [h] at ih
          simp only [Option.some.injEq] at ih
          simp [allS, h, ih]
theorem allS_none {α : Type} : ∀ {l : List (Option α)}, allS l = none ↔ none ∈ l
  | [] => by simp [allS]
  | x :: r => by
    have ih := @allS_none α r
    cases x with
    | none => simp [allS]
    | some z => cases h : allS r <;> simp [allS, h, ← ih]
theorem allS_len {α : Type} {l : List (Option α)} {zs : List α} (h : allS l = some zs) : zs.length = l.length := by
  rw [allS_some.mp h, List.length_map]
theorem allS_mem {α β : Type} {l : List β} {f : β → Option α} {zs : List α} (h : allS (l.map f) = some zs) {z : α} (hz : z ∈ zs) : ∃ x ∈ l, f x = some z := by
  have h2 := allS_some.mp h
  have : some z ∈ l.map f := by rw [h2]; exact List.mem_map.mpr ⟨z, hz, rfl⟩
  exact List.mem_map.mp this
theorem kept_len {o : Opt} {es : List (Key × Val)} : (ordE o (kept o es)).length ≤ es.length := by
  unfold ordE
  split
  · rw [List.length_mergeSort]; exact List.length_filter_le _ _
  · exact List.length_filter_le _ _
theorem kept_mem {o : Opt} {es : List (Key × Val)} {e : Key × Val} (h : e ∈ ordE o (kept o es)) : e ∈ es := by
  unfold ordE at h
  split at h
  · exact (List.mem_filter.mp (List.mem_mergeSort.mp h)).1
  · exact (List.mem_filter.mp h).1
theorem rawF_ok {o : Opt} {d z : Val} (h : okF d) (e : rawF o d = some z) : okF z := by
  cases d with
  | int i =>
    simp only [rawF] at e
    split at e
    · split at e
      · cases e
      · cases e; exact Nat.le_trans (istr_len h) (by decide)
    · cases e; exact h
  | _ => cases e; exact h
theorem Rok.flat {k : Nat} {d : Val} (h : okF d) : Rok k d := by cases k with | zero => exact h | succ k => exact .inl h
theorem raw_ok {o : Opt} : ∀ {k : Nat} {d z : Val}, Ok k d → rawV o k d = some z → Rok k z
  | 0, _, _, h, e => rawF_ok h e
  | k + 1, d, z, h, e => by
    rcases h with h | ⟨t, l, ed, hl, hx⟩ | ⟨es, ed, hl, hn, hx⟩
    · cases d with
      | seq t l => cases h
      | tab es => cases h
      | _ => exact .inl (rawF_ok (o := o) h e)
    · subst ed
      simp only [rawV] at e
      split at e
      · cases e
      · cases q : allS (l.map (rawV o k)) with
        | none => rw [q] at e; cases e
        | some zs =>
          rw [q] at e
          cases e
          refine .inr (.inl ⟨zs, rfl, by rw [allS_len q, List.length_map]; exact hl, fun y hy => ?_⟩)
          obtain ⟨x, hxl, ex⟩ := allS_mem q hy
          exact raw_ok (hx x hxl) ex
    · subst ed
      simp only [rawV] at e
      split at e
      · cases e
      · split at e
        · cases e
        · cases q : allS ((ordE o (kept o es)).map (pairT (rawV o k))) with
          | none => rw [q] at e; cases e
          | some zs =>
            rw [q] at e
            cases e
            refine .inr (.inr ⟨zs, rfl, by rw [allS_len q, List.length_map]; exact Nat.le_trans kept_len hl, fun y hy => ?_⟩)
            obtain ⟨x, hxl, ex⟩ := allS_mem q hy
            obtain ⟨hk, hv⟩ := hx x (kept_mem hxl)
            unfold pairT at ex
            cases q3 : rawV o k x.2 with
            | none => rw [q3] at ex; cases ex
            | some w =>
              rw [q3] at ex
              cases ex
              exact ⟨⟨_, rfl, keyT_ok hk⟩, raw_ok hv q3⟩
theorem RwAt.flat {H : Hp} {k : Nat} {v : V} {d : Val} (h : flat d = some v) : RwAt H k v d := by cases k with | zero => exact h | succ k => exact .inl h
theorem RwAt.same {H H' : Hp} (s : Same H H') : ∀ {k : Nat} {v : V} {d : Val}, RwAt H k v d → RwAt H' k v d
  | 0, _, _, h => h
  | k + 1, _, _, h => by
    rcases h with h | ⟨l, t, a, xs, e1, e2, h1, h2, h3⟩ | ⟨es, t, a, xs, e1, e2, h1, h2, h3⟩
    · exact .inl h
    · exact .inr (.inl ⟨l, t, a, xs, e1, e2, s _ _ h1, s _ _ h2, Paired.mapP h3 fun _ _ q => RwAt.same s q⟩)
    · exact .inr (.inr ⟨es, t, a, xs, e1, e2, s _ _ h1, s _ _ h2, Paired.mapP h3 fun _ _ ⟨q, n, x, g1, g2, g3, g4⟩ => ⟨q, n, x, g1, s _ _ g2, g3, RwAt.same s g4⟩⟩)
end Rz
set_option Elab.async false
set_option linter.all false
set_option maxRecDepth 100000
set_option maxHeartbeats 4000000
/-! facts of the written part by one Bool; a def as the top leaves it, with its promise -/
namespace Kt
open PySem PySem.Spec PyProof.Rows L2
/-- C is an own error class, over ValueError by way of own classes -/
def oexB (K : PySem.W.Frag) (C : Addr) : Bool := match K.lookup C with
  | some ⟨.type "type", _, .cls cd, sl⟩ => (match cd.mro, sl.toList with
    | .ref C' :: bm, [_, _, _, _, some (.builtin n), _] => C' == C && n == "ValueError.__new__" && !cd.hasDel && cd.hasDict && PySem.HandSPX.refsVE bm
    | _, _ => false)
  | _ => false
theorem oexB_ok {K : PySem.W.Frag} {C : Addr} (q : oexB K C = true) : ∃ nm qn N bs bm sn sub ab col dd k0 k1 k2 k3 k5,
    K.lookup C = some (excClassObj nm qn C N bs bm true sn sub ab col dd k0 k1 k2 k3 k5 "ValueError.__new__") ∧ PySem.HandSPX.refsVE bm = true := by
  unfold oexB at q
  split at q
  · rename_i dd cd sl ho
    split at q
    · rename_i C' bm k0 k1 k2 k3 n k5 hm hs
      simp only [Bool.and_eq_true, beq_iff_eq, Bool.not_eq_true'] at q
      obtain ⟨⟨⟨⟨rfl, rfl⟩, hdel⟩, hdc⟩, ht⟩ := q
      obtain ⟨nm, bs, mro, ns, qn, hd, sn, sub, ab, col, del⟩ := cd
      dsimp only at hm hdel hdc
      subst hm hdel hdc
      have hsl : sl = #[k0, k1, k2, k3, some (.builtin "ValueError.__new__"), k5] := by
        obtain ⟨l⟩ := sl
        simp only at hs
        rw [hs]
      subst hsl
      exact ⟨nm, qn, ns, bs, bm, sn, sub, ab, col, dd, k0, k1, k2, k3, k5, ho, ht⟩
    · cases q
  · cases q
/-- all that is asked of an own error class with a start of its own at fI -/
structure ExAll (K : PySem.W.Frag) (C fI : Addr) : Prop where
  o : OexC K C
  e : ExcC K C
  iC : PySem.W.findIn K (.ref C) "__init__" = some (some (.ref fI))
  tI : PySem.W.typeIn K (.ref fI) = some (.type "function")
def exAllB (K : PySem.W.Frag) (C fI : Addr) : Bool :=
  oexB K C && (decide (PySem.W.findIn K (.ref C) "__setattr__" = some (some (.builtin "object.__setattr__"))) &&
  (decide (PySem.W.subIn K (.ref C) (.type "BaseException") = some true) && (decide (PySem.W.typeIn K (.ref C) = some (.type "type")) &&
  (PySem.W.keepIn K (.ref C) && (decide (PySem.W.findIn K (.ref C) "__getattribute__" = some (some (.builtin "BaseException.__getattribute__"))) &&
  (decide (PySem.W.findIn K (.ref C) "__getattr__" = some none) && (PySem.W.hasDictIn K C &&
  (decide (PySem.W.findIn K (.ref C) "__class__" = some (some (.builtin "object.__class__"))) &&
  (decide (PySem.W.specialIn K (.builtin "object.__class__") "__get__" = some (some (.builtin "getset_descriptor.__get__"))) &&
  (decide (PySem.W.takesIn K (.builtin "object.__class__") = some true) && (decide (PySem.W.mroIn K C (.type "object") = some true) &&
  (decide (PySem.W.findIn K (.ref C) "__init__" = some (some (.ref fI))) && decide (PySem.W.typeIn K (.ref fI) = some (.type "function"))))))))))))))
theorem exAllB_ok {K : PySem.W.Frag} {C fI : Addr} (h : exAllB K C fI = true) : ExAll K C fI := by
  unfold exAllB at h
  simp only [Bool.and_eq_true, decide_eq_true_eq] at h
  obtain ⟨h1, h2, h3, h4, h5, h6, h7, h8, h9, h10, h11, h12, h13, h14⟩ := h
  exact ⟨⟨oexB_ok h1, h2, h3, h4, h5⟩, ⟨h6, h7, h3, h8, h9, h10, h11, h12⟩, h13, h14⟩
/-- a def (a global one, or a method) as it stands behind the top, and what it promises -/
structure Gd (P : Program) (w : World) (K : PySem.W.Frag) (base : Heap) (mg : Str → Option Value) (CX : CXT) (k : Nat) (f : Addr) (ps : List Str) (ds : List V) (sp : Sp) : Prop where
  ok : ∃ fd dv, FnOk P w K mg base CX k f fd ps sp ∧ Vals ds dv ∧ Binds K fd ps dv
  kp : PySem.W.keepIn K (.ref f) = true
section
variable {X : Cx} {CX : CXT} {k : Nat} {f : Addr} {ps : List Str} {sp : Sp} {ds : List V} {E : XK} {x : Str} {p pos : Pos} {e : Expr} {es : List Expr} {t : TA}
theorem pe_callG (F : Gd X.prog X.w X.K X.base X.mg CX k f ps ds sp) (hm : X.mg x = some (.ref f)) (hr : Room k X.A) (hx : Passes CX X E) (ha : PA X (e :: es) t) (hg : Gl X x := by rfl)
    (hdb : (x == ("__debug__" : Str)) = false := by decide) (he : starEach (e :: es) X.env = (false, eval e X.env) :: starEach es X.env := by rfl)
    (hpl : (backTo pos (starEach es X.env)).any (·.1) = false := by rfl) : PE X (.Call (.Name x p) (e :: es) [] pos) (tCall sp ds E t) := by
  obtain ⟨fd, dv, F1, hd, hb⟩ := F.ok
  exact pe_call F1 hr hg hm F.kp hb hd hx ha hdb he hpl
theorem pe_callG0 (F : Gd X.prog X.w X.K X.base X.mg CX k f ps ds sp) (hm : X.mg x = some (.ref f)) (hr : Room k X.A) (hx : Passes CX X E) (hg : Gl X x := by rfl)
    (hdb : (x == ("__debug__" : Str)) = false := by decide) : PE X (.Call (.Name x p) [] [] pos) (tCall sp ds E tNil) := by
  obtain ⟨fd, dv, F1, hd, hb⟩ := F.ok
  exact pe_call0 F1 hr hg hm F.kp hb hd hx hdb
theorem pmk_G {ta : TA} {C fI : Addr} (T : ExAll X.K C fI) (F : Gd X.prog X.w X.K X.base X.mg CX k fI ps [] sp) (hm : X.mg x = some (.ref C)) (hr : Room (k + 1) X.A) (hx : Passes CX X (fun _ _ _ => False))
    (ha : PA X (e :: es) ta) (hg : Gl X x := by rfl) (hdb : (x == ("__debug__" : Str)) = false := by decide) (he : starEach (e :: es) X.env = (false, eval e X.env) :: starEach es X.env := by rfl)
    (hpl : (backTo pos (starEach es X.env)).any (·.1) = false := by rfl) : L2N.PMk X (.Call (.Name x p) (e :: es) [] pos) (tMkO C sp [] ta) := by
  obtain ⟨fd, dv, F1, hd, hb⟩ := F.ok
  cases hd
  exact Rn.pmkN T.o T.iC T.tI F1 hr hb hx hg hm ha hdb he hpl
/-- the same, to be raised from an error caught by name -/
theorem pmk5_G {ta : TA} {C fI : Addr} (hc : L2H.HotC X) (T : ExAll X.K C fI) (F : Gd X.prog X.w X.K X.base X.mg CX0 k fI ps [] sp) (hm : X.mg x = some (.ref C)) (hr : Room (k + 1) X.A)
    (ha : PA X (e :: es) ta) (hg : Gl X x := by rfl) (hdb : (x == ("__debug__" : Str)) = false := by decide) (he : starEach (e :: es) X.env = (false, eval e X.env) :: starEach es X.env := by rfl)
    (hpl : (backTo pos (starEach es X.env)).any (·.1) = false := by rfl) : True := trivial
end
end Kt
namespace Kt
open PySem PySem.Spec PyProof.Rows L2
section
variable {P : Program} {w : World} {K : PySem.W.Frag} {mg : Str → Option Value} {base : Heap} {x qual : Str} {params : Arguments} {body : List Stmt} {scope : Scope} {f : Addr} {N ps : List Str} {k : Nat} {sp : Sp}
/-- a def that lets no error out -/
theorem mkGd (F : ∃ fd, FunD K x qual params body scope [] [] f fd) (S : FnScope N ps scope) (len : ∀ vs H Q E, sp vs H Q E → vs.length = ps.length)
    (hb : ∀ (kV doc pm : Value) (an : Option Addr) (cdv ct : Value) (us : List Value), us.length = ps.length → bindArgs (PySem.W.fnOf x qual params body scope .none kV doc pm an cdv ct) ⟨us, []⟩ = pure (ps.zip us))
    (hbody : ∀ (cdv : Value) (A : Around) (outer : List Env) (s : Shared) (H : Hp) (vs : List V) (Q : VK) (E : XK), Room k (A.deeper (envOfC qual scope s.heap.objs.size f cdv)) → sp vs H Q E →
      ∃ t, PSs (cxOf CX0 P w K mg base N qual scope f cdv A outer s H E).nox body t ∧ t { nx := fun _ H' => Q .non H', rt := Q } (start N vs) H) :
    Gd P w K base mg CX0 (k + 1) f ps [] sp := by
  obtain ⟨fd, F⟩ := F
  refine ⟨⟨fd, [], F.ok S len fun cdv A outer s H vs Q E hr h => ?_, .nil, F.bindsN hb⟩, F.kp⟩
  obtain ⟨t, h1, h2⟩ := hbody cdv A outer s H vs Q E hr h
  exact ⟨t, h1.nox, h2⟩
/-- a def that may let an error out -/
theorem mkGdX (F : ∃ fd, FunD K x qual params body scope [] [] f fd) (S : FnScope N ps scope) (len : ∀ vs H Q E, sp vs H Q E → vs.length = ps.length)
    (hb : ∀ (kV doc pm : Value) (an : Option Addr) (cdv ct : Value) (us : List Value), us.length = ps.length → bindArgs (PySem.W.fnOf x qual params body scope .none kV doc pm an cdv ct) ⟨us, []⟩ = pure (ps.zip us))
    (hbody : ∀ (cdv : Value) (A : Around) (outer : List Env) (s : Shared) (H : Hp) (vs : List V) (Q : VK) (E : XK), Room k (A.deeper (envOfC qual scope s.heap.objs.size f cdv)) → sp vs H Q E →
      ∃ t, PSs (cxOf (L2N.CX P w) P w K mg base N qual scope f cdv A outer s H E) body t ∧ t { nx := fun _ H' => Q .non H', rt := Q } (start N vs) H) :
    Gd P w K base mg (L2N.CX P w) (k + 1) f ps [] sp := by
  obtain ⟨fd, F⟩ := F
  exact ⟨⟨fd, [], F.ok S len hbody, .nil, F.bindsN hb⟩, F.kp⟩
end
section
variable {P : Program} {w : World} {K : PySem.W.Frag} {mg : Str → Option Value} {base : Heap} {x qual : Str} {params : Arguments} {body : List Stmt} {scope : Scope} {f : Addr} {N ps : List Str} {k : Nat} {sp : Sp} {dvs : List V} {kws : List (Str × V)}
/-- a def with defaults, all its parameters given -/
theorem mkGdD (F : ∃ fd, FunD K x qual params body scope dvs kws f fd) (S : FnScope N ps scope) (len : ∀ vs H Q E, sp vs H Q E → vs.length = ps.length) (hb : ∀ fd, FunD K x qual params body scope dvs kws f fd → Binds K fd ps [])
    (hbody : ∀ (cdv : Value) (A : Around) (outer : List Env) (s : Shared) (H : Hp) (vs : List V) (Q : VK) (E : XK), Room k (A.deeper (envOfC qual scope s.heap.objs.size f cdv)) → sp vs H Q E →
      ∃ t, PSs (cxOf CX0 P w K mg base N qual scope f cdv A outer s H E).nox body t ∧ t { nx := fun _ H' => Q .non H', rt := Q } (start N vs) H) :
    Gd P w K base mg CX0 (k + 1) f ps [] sp := by
  obtain ⟨fd, F⟩ := F
  refine ⟨⟨fd, [], F.ok S len fun cdv A outer s H vs Q E hr h => ?_, .nil, hb fd F⟩, F.kp⟩
  obtain ⟨t, h1, h2⟩ := hbody cdv A outer s H vs Q E hr h
  exact ⟨t, h1.nox, h2⟩
end
end Kt

/-! the head's Hook once more, the interpreter's own table among what is looked at -/
namespace Kt
open PySem PySem.Spec PyProof.Rows L2
/-- what an object names that is of use here: the ways to the defs, their codes and defaults, to the classes' names, to the items of tuples -/
def refsM (o : Obj) : List Addr := match o.data with
  | .seq its _ => its.toList.flatMap He.refV
  | .dict es _ => es.toList.flatMap fun e => He.refV e.val
  | .func fd => He.refV fd.code ++ (He.refV fd.defaults ++ He.refV fd.kwdefaults)
  | .cls cd => [cd.ns]
  | _ => []
def asM (g : Addr → Option Obj) : Nat → List Addr → List Addr
  | 0, f => f
  | n + 1, f => f ++ asM g n (f.flatMap fun a => match g a with
    | some o => refsM o
    | none => [])
def asY (n : Nat) (g : Addr → Option Obj) : List Addr := asM g n [mainGlobals] ++ [cStatics]
def obsY (n : Nat) (fa : List He.Fa) (fn : List He.DefD) (tf : List He.Defn) (ex : PySem.W.Frag → Bool) (g : Addr → Option Obj) : He.AlX :=
  (He.obsT fa fn [] (He.frT g (asY n g)), ex (He.frT g (asY n g)) && He.tabsB g tf (He.frT g (asY n g)))
theorem saysY {n : Nat} {fa : List He.Fa} {fn : List He.DefD} {tf : List He.Defn} {ex : PySem.W.Frag → Bool} {w : World} {h : Heap} (e : obsY n fa fn tf ex h.get? = He.valX fn [] w) : He.SaysX fa fn [] tf ex w h (He.frT h.get? (asY n h.get?)) := by
  obtain ⟨x1, x2⟩ := Bool.and_eq_true_iff.mp (show (ex _ && He.tabsB h.get? tf _) = true from congrArg Prod.snd e)
  have one : ∀ p ∈ tf, PySem.W.codeHdIn _ (He.cT (He.frT h.get? (asY n h.get?)) p).1 (He.cT (He.frT h.get? (asY n h.get?)) p).2 = true ∧ ∃ o, h.get? (He.cT (He.frT h.get? (asY n h.get?)) p).2 = some o ∧ He.emptyTab o = true := fun p hp => by
    obtain ⟨y1, y2⟩ := Bool.and_eq_true_iff.mp (List.all_eq_true.mp x2 p hp)
    refine ⟨y1, ?_⟩
    split at y2
    · rename_i o q
      exact ⟨o, q, y2⟩
    · cases y2
  exact ⟨congrArg Prod.fst e, x1, fun p hp => (one p hp).1, fun p hp => let ⟨_, o, q, z⟩ := one p hp; He.frT_none q z, fun p hp => let ⟨_, o, q, z⟩ := one p hp; by rw [q, He.emptyTab_eq z]⟩
def hookY (n : Nat) (fa : List He.Fa) (fn : List He.DefD) (tf : List He.Defn) (ex : PySem.W.Frag → Bool) : PySem.W.Hook where
  α := He.AlX
  obs := fun s => obsY n fa fn tf ex s.heap.get?
  val := fun w => He.valX fn [] w
  says := fun w h => ∃ K : PySem.W.Frag, K.In h ∧ He.SaysX fa fn [] tf ex w h K
  of := fun _ _ e => ⟨_, He.frT_in, saysY e⟩
  keeps := fun _ _ _ ⟨K, hK, c⟩ k => ⟨K, PySem.W.Frag.In.keeps hK k, c.t, c.more, c.hd, c.out, fun p hp => k _ _ (c.empty p hp)⟩
theorem obsY_eq {n : Nat} {fa : List He.Fa} {fn : List He.DefD} {tf : List He.Defn} {ex : PySem.W.Frag → Bool} {g : Addr → Option Obj} {s : Shared} (h : ∀ a, g a = s.heap.get? a) : obsY n fa fn tf ex g = (hookY n fa fn tf ex).obs s := by
  rw [show g = s.heap.get? from funext h]
  rfl
end Kt
namespace Kt
open PySem PySem.Spec PyProof.Rows L2
section
variable {X : Cx} {CX : CXT} {k : Nat} {f C : Addr} {ps : List Str} {sp : Sp} {ds : List V} {E : XK} {x m : Str} {p pos apos : Pos} {o e : Expr} {es : List Expr} {ta : TE} {t : TA}
theorem pe_methG {pl : Sem Bool} (he : PE X o ta) (c : Cls X.K C) (hm : Meth X.K C m f) (F : Gd X.prog X.w X.K X.base X.mg CX k f ps ds sp) (hr : Room k X.A) (hx : Passes CX X E) (ha : PA X (e :: es) t)
    (hst : starEach (e :: es) X.env = (false, eval e X.env) :: starEach es X.env := by rfl) (hpl : (backTo pos (starEach es X.env)).any (·.1) = false := by rfl)
    (ht : eval (.Call (.Attribute o m apos) (e :: es) [] pos) X.env = (do
      let u ← eval o X.env
      standAt apos.atName
      let (g, fi) ← holding [u] (getMethod u m pl)
      callWith pos g fi (backTo pos (starEach (e :: es) X.env)) (backToKw pos (keywordEach [] X.env))) := by rfl) : PE X (.Call (.Attribute o m apos) (e :: es) [] pos) (tMeth C m sp ds E ta t) := by
  obtain ⟨fd, dv, F1, hd, hb⟩ := F.ok
  exact pe_meth (pl := pl) he c hm F1 hr hb hd hx ha hst hpl ht
theorem pe_methG0 {pl : Sem Bool} (he : PE X o ta) (c : Cls X.K C) (hm : Meth X.K C m f) (F : Gd X.prog X.w X.K X.base X.mg CX k f ps ds sp) (hr : Room k X.A) (hx : Passes CX X E)
    (ht : eval (.Call (.Attribute o m apos) [] [] pos) X.env = (do
      let u ← eval o X.env
      standAt apos.atName
      let (g, fi) ← holding [u] (getMethod u m pl)
      callWith pos g fi (backTo pos (starEach [] X.env)) (backToKw pos (keywordEach [] X.env))) := by rfl) : PE X (.Call (.Attribute o m apos) [] [] pos) (tMeth C m sp ds E ta tNil) := by
  obtain ⟨fd, dv, F1, hd, hb⟩ := F.ok
  exact pe_meth0 (pl := pl) he c hm F1 hr hb hd hx ht
theorem pe_makeG (M : Mk X.K C f) (F : Gd X.prog X.w X.K X.base X.mg CX k f ps ds sp) (hr : Room (k + 1) X.A) (hm : X.mg x = some (.ref C)) (hx : Passes CX X E) (ha : PA X (e :: es) t) (hg : Gl X x := by rfl)
    (hdb : (x == ("__debug__" : Str)) = false := by decide) (he : starEach (e :: es) X.env = (false, eval e X.env) :: starEach es X.env := by rfl) (hpl : (backTo pos (starEach es X.env)).any (·.1) = false := by rfl) :
    PE X (.Call (.Name x p) (e :: es) [] pos) (tMake C sp ds E t) := by
  obtain ⟨fd, dv, F1, hd, hb⟩ := F.ok
  exact pe_make M F1 hr hg hm hb hd hx ha hdb he hpl
/-- o.m(e, ..) where what is raised is wished for at the caller's slots -/
def tMethS (C : Addr) (m : Str) (sp : Sp) (E : L2.St → XK) (ta : TE) (t : TA) : TE := fun σ H Q => ta σ H fun x H1 => ∃ a dx fs, x = .ref a ∧ H1 a = some (.ins C dx fs) ∧ fs.lookup m = none ∧ t σ H1 fun ws H2 => sp (.ref a :: ws) H2 Q (E σ)
theorem pe_methXS {pl : Sem Bool} {E : L2.St → XK} (he : PE X o ta) (c : Cls X.K C) (hm : Meth X.K C m f) (F : Gd X.prog X.w X.K X.base X.mg CX k f ps [] sp) (hr : Room k X.A) (hx : ∀ σ, PassesAt CX X σ (E σ)) (ha : PA X (e :: es) t)
    (hst : starEach (e :: es) X.env = (false, eval e X.env) :: starEach es X.env := by rfl) (hpl : (backTo pos (starEach es X.env)).any (·.1) = false := by rfl)
    (ht : eval (.Call (.Attribute o m apos) (e :: es) [] pos) X.env = (do
      let u ← eval o X.env
      standAt apos.atName
      let (g, fi) ← holding [u] (getMethod u m pl)
      callWith pos g fi (backTo pos (starEach (e :: es) X.env)) (backToKw pos (keywordEach [] X.env))) := by rfl) : PE X (.Call (.Attribute o m apos) (e :: es) [] pos) (tMethS C m sp E ta t) := by
  obtain ⟨fd, dv, F1, hd, hb⟩ := F.ok
  cases hd
  refine ⟨fun pins s σ H Q I h => PySem.W.methodCall_KW (pl := pl) (thn (he.run pins s σ H _ I h) fun u s1 ⟨x, H1, I1, rx, a, dx, fs, ex, ea, l, q⟩ => ?_) ht⟩
  subst ex
  obtain rfl : u = Value.ref a := rx
  refine getmeth_ok I1 ea c hm l (PySem.W.callWith_K (first := [.ref a]) (h₀ := X.base) I.ok.mod.kin hm.kp (thn (ha.run pos pins s1 σ H1 _ I1 q) fun us s2 ⟨vs, H2, I2, r, q2⟩ => ⟨I2.kIn, ?_⟩) hst hpl)
  exact run_fnS (us := .ref a :: us) (vs := .ref a :: vs) F1 hr hb (hx σ) I2 (.cons rfl r) q2
end
/-- a def by the depth: below depth 0 it is not called -/
def prv (sp : Nat → Sp) : Nat → Sp
  | 0 => fun _ _ _ _ => False
  | k + 1 => sp k
section
variable {P : Program} {w : World} {K : PySem.W.Frag} {mg : Str → Option Value} {base : Heap} {x qual : Str} {params : Arguments} {body : List Stmt} {scope : Scope} {f : Addr} {N ps : List Str} {CY : CXT}
theorem mkGdF (F : ∃ fd, FunD K x qual params body scope [] [] f fd) (S : FnScope N ps scope)
    (hb : ∀ (kV doc pm : Value) (an : Option Addr) (cdv ct : Value) (us : List Value), us.length = ps.length → bindArgs (PySem.W.fnOf x qual params body scope .none kV doc pm an cdv ct) ⟨us, []⟩ = pure (ps.zip us)) (l : Nat) :
    Gd P w K base mg CX0 l f ps [] fun _ _ _ _ => False := by
  obtain ⟨fd, F⟩ := F
  exact ⟨⟨fd, [], ⟨fun _ _ _ _ z => z.elim, fun _ _ _ _ _ _ _ _ _ _ _ _ _ z => z.elim⟩, .nil, F.bindsN hb⟩, F.kp⟩
theorem mkGdXF (F : ∃ fd, FunD K x qual params body scope [] [] f fd) (S : FnScope N ps scope)
    (hb : ∀ (kV doc pm : Value) (an : Option Addr) (cdv ct : Value) (us : List Value), us.length = ps.length → bindArgs (PySem.W.fnOf x qual params body scope .none kV doc pm an cdv ct) ⟨us, []⟩ = pure (ps.zip us)) (l : Nat) :
    Gd P w K base mg (L2N.CX P w) l f ps [] fun _ _ _ _ => False := by
  obtain ⟨fd, F⟩ := F
  exact ⟨⟨fd, [], ⟨fun _ _ _ _ z => z.elim, fun _ _ _ _ _ _ _ _ _ _ _ _ _ z => z.elim⟩, .nil, F.bindsN hb⟩, F.kp⟩
theorem recGd {sp : Nat → Sp} (lev : Nat → Nat) (zero : ∀ l, Gd P w K base mg CY l f ps [] fun _ _ _ _ => False) (step : ∀ k, Gd P w K base mg CY (lev k) f ps [] (prv sp k) → Gd P w K base mg CY (lev k + 1) f ps [] (sp k)) (hl : ∀ k, lev (k + 1) = lev k + 1 := by intro _; first | rfl | omega) :
    ∀ k, Gd P w K base mg CY (lev k + 1) f ps [] (sp k)
  | 0 => step 0 (zero _)
  | k + 1 => step (k + 1) (by rw [hl]; exact recGd lev zero step hl k)
end
/-- all that was tracked stands, but for what is in ps -/
def Sx (ps : List Addr) (H H' : Hp) : Prop := ∀ b o, b ∉ ps → H b = some o → H' b = some o
theorem Sx.refl {ps : List Addr} {H : Hp} : Sx ps H H := fun _ _ _ h => h
theorem Sx.trans {ps : List Addr} {H H1 H2 : Hp} (a : Sx ps H H1) (b : Sx ps H1 H2) : Sx ps H H2 := fun c o n h => b c o n (a c o n h)
theorem Sx.of {ps : List Addr} {H H' : Hp} (s : Same H H') : Sx ps H H' := fun b o _ h => s b o h
theorem Sx.mono {ps qs : List Addr} {H H' : Hp} (a : Sx ps H H') (h : ∀ b ∈ ps, b ∈ qs) : Sx qs H H' := fun b o n e => a b o (fun z => n (h b z)) e
theorem Sx.up {ps : List Addr} {p : Addr} {H : Hp} {o : HO} (h : p ∈ ps) : Sx ps H (upd H p o) := fun b u n e => by rw [upd_ne fun z => n (by rw [z]; exact h)]; exact e
theorem Sx.mk {ps : List Addr} {H H' : Hp} {D : Addr} {o : HO} (e : Sx ps H H') (h : H' D = none) : Sx ps H (upd H' D o) := fun b u n q => by
  rw [upd_ne (ne_of_none (e b u n q) h)]
  exact e b u n q
theorem Same.mk' {H H' : Hp} {D : Addr} {o : HO} (e : Same H H') (h : H' D = none) : Same H (upd H' D o) := fun b u q => by
  rw [upd_ne (ne_of_none (e b u q) h)]
  exact e b u q
theorem Same.nu {H : Hp} {D : Addr} {o : HO} (h : H D = none) : Same H (upd H D o) := Same.mk' (Same.refl H) h
/-- the heap without what is in ps -/
def cut (H : Hp) (ps : List Addr) : Hp := fun b => if b ∈ ps then none else H b
theorem cut_nil {H : Hp} : cut H [] = H := by funext b; simp [cut]
theorem cut_le {H : Hp} {ps : List Addr} : Same (cut H ps) H := fun b o h => by
  unfold cut at h
  split at h
  · cases h
  · exact h
theorem cut_at {H : Hp} {ps : List Addr} {b : Addr} {o : HO} (n : b ∉ ps) (h : H b = some o) : cut H ps b = some o := by
  unfold cut
  rw [if_neg n]
  exact h
theorem cut_sx {H H' : Hp} {ps : List Addr} (s : Sx ps H H') : Same (cut H ps) (cut H' ps) := fun b o h => by
  unfold cut at h
  split at h
  · cases h
  · rename_i n
    exact cut_at n (s b o n h)
theorem cut_mono {H : Hp} {ps qs : List Addr} (h : ∀ b ∈ qs, b ∈ ps) : Same (cut H ps) (cut H qs) := fun b o e => by
  unfold cut at e
  split at e
  · cases e
  · rename_i n
    exact cut_at (fun z => n (h b z)) e
def Has (H : Hp) (ps : List Addr) : Prop := ∀ b ∈ ps, H b ≠ none
theorem Has.new {H : Hp} {ps : List Addr} {q : Addr} (h : Has H ps) (n : H q = none) : q ∉ ps := fun z => h q z n
theorem Has.sx {H H' : Hp} {ps : List Addr} (h : Has H ps) (s : Same H H') : Has H' ps := fun b hb => by
  cases e : H b with
  | none => exact absurd e (h b hb)
  | some o => rw [s b o e]; simp
theorem Has.nil {H : Hp} : Has H [] := fun _ h => nomatch h
end Kt
set_option Elab.async false
set_option linter.all false
set_option maxRecDepth 100000
set_option maxHeartbeats 0
namespace Kt
open PySem PySem.Spec PyProof.Rows L2
def top (i : Nat) : Stmt := PySem.Challenge.pw_keysthroughtext_k85_whole_nothing_is_con.main.body.getD i (.Pass ⟨0, 0, 0, 0⟩)
abbrev s_Unwritable_init : Stmt := inClass (top 9) 0
abbrev N_Unwritable_init : List Str := ["self", "reason", "path"]
theorem sc_Unwritable_init : FnScope N_Unwritable_init ["self", "reason", "path"] (defScope s_Unwritable_init) := ⟨rfl, rfl, rfl, by decide +kernel, rfl, by decide +kernel, by decide +kernel⟩
abbrev s_Unreadable_init : Stmt := inClass (top 10) 0
abbrev N_Unreadable_init : List Str := ["self", "reason", "path"]
theorem sc_Unreadable_init : FnScope N_Unreadable_init ["self", "reason", "path"] (defScope s_Unreadable_init) := ⟨rfl, rfl, rfl, by decide +kernel, rfl, by decide +kernel, by decide +kernel⟩
abbrev s_Refused_init : Stmt := inClass (top 11) 0
abbrev N_Refused_init : List Str := ["self", "side", "reason", "path"]
theorem sc_Refused_init : FnScope N_Refused_init ["self", "side", "reason", "path"] (defScope s_Refused_init) := ⟨rfl, rfl, rfl, by decide +kernel, rfl, by decide +kernel, by decide +kernel⟩
abbrev s_is_integer : Stmt := top 13
abbrev N_is_integer : List Str := ["value"]
theorem sc_is_integer : FnScope N_is_integer ["value"] (defScope s_is_integer) := ⟨rfl, rfl, rfl, by decide +kernel, rfl, by decide +kernel, by decide +kernel⟩
abbrev s_kind : Stmt := top 14
abbrev N_kind : List Str := ["value"]
theorem sc_kind : FnScope N_kind ["value"] (defScope s_kind) := ⟨rfl, rfl, rfl, by decide +kernel, rfl, by decide +kernel, by decide +kernel⟩
abbrev s_fresh : Stmt := top 15
abbrev N_fresh : List Str := ["value", "item"]
theorem sc_fresh : FnScope N_fresh ["value"] (defScope s_fresh) := ⟨rfl, rfl, rfl, by decide +kernel, rfl, by decide +kernel, by decide +kernel⟩
abbrev s_same_rows : Stmt := top 16
abbrev N_same_rows : List Str := ["value", "other", "ordered", "index", "item"]
theorem sc_same_rows : FnScope N_same_rows ["value", "other", "ordered"] (defScope s_same_rows) := ⟨rfl, rfl, rfl, by decide +kernel, rfl, by decide +kernel, by decide +kernel⟩
abbrev s_same_tables : Stmt := top 17
abbrev N_same_tables : List Str := ["value", "other", "ordered", "key", "item"]
theorem sc_same_tables : FnScope N_same_tables ["value", "other", "ordered"] (defScope s_same_tables) := ⟨rfl, rfl, rfl, by decide +kernel, rfl, by decide +kernel, by decide +kernel⟩
abbrev s_same : Stmt := top 18
abbrev N_same : List Str := ["value", "other", "ordered"]
theorem sc_same : FnScope N_same ["value", "other", "ordered"] (defScope s_same) := ⟨rfl, rfl, rfl, by decide +kernel, rfl, by decide +kernel, by decide +kernel⟩
abbrev s_Table_init : Stmt := inClass (top 19) 0
abbrev N_Table_init : List Str := ["self", "entries", "held", "key", "item"]
theorem sc_Table_init : FnScope N_Table_init ["self", "entries"] (defScope s_Table_init) := ⟨rfl, rfl, rfl, by decide +kernel, rfl, by decide +kernel, by decide +kernel⟩
abbrev s_Table_entries : Stmt := inClass (top 19) 1
abbrev N_Table_entries : List Str := ["self", "key", "item"]
theorem sc_Table_entries : FnScope N_Table_entries ["self"] (defScope s_Table_entries) := ⟨rfl, rfl, rfl, by decide +kernel, rfl, by decide +kernel, by decide +kernel⟩
abbrev s_Table___len__ : Stmt := inClass (top 19) 3
abbrev N_Table___len__ : List Str := ["self"]
theorem sc_Table___len__ : FnScope N_Table___len__ ["self"] (defScope s_Table___len__) := ⟨rfl, rfl, rfl, by decide +kernel, rfl, by decide +kernel, by decide +kernel⟩
abbrev s_Table___or__ : Stmt := inClass (top 19) 7
abbrev N_Table___or__ : List Str := ["self", "other", "key", "entries", "item", "added"]
theorem sc_Table___or__ : FnScope N_Table___or__ ["self", "other"] (defScope s_Table___or__) := ⟨rfl, rfl, rfl, by decide +kernel, rfl, by decide +kernel, by decide +kernel⟩
abbrev s_Table_with_entry : Stmt := inClass (top 19) 8
abbrev N_Table_with_entry : List Str := ["self", "key", "item"]
theorem sc_Table_with_entry : FnScope N_Table_with_entry ["self", "key", "item"] (defScope s_Table_with_entry) := ⟨rfl, rfl, rfl, by decide +kernel, rfl, by decide +kernel, by decide +kernel⟩
abbrev s_confusable_pairs : Stmt := top 22
abbrev N_confusable_pairs : List Str := ["empty", "found"]
theorem sc_confusable_pairs : FnScope N_confusable_pairs [] (defScope s_confusable_pairs) := ⟨rfl, rfl, rfl, by decide +kernel, rfl, by decide +kernel, by decide +kernel⟩
abbrev s_what_comes_back : Stmt := top 23
abbrev N_what_comes_back : List Str := ["passage", "value"]
theorem sc_what_comes_back : FnScope N_what_comes_back ["passage", "value"] (defScope s_what_comes_back) := ⟨rfl, rfl, rfl, by decide +kernel, rfl, by decide +kernel, by decide +kernel⟩
abbrev s_confused : Stmt := top 24
abbrev N_confused : List Str := ["passage", "one", "other", "found"]
theorem sc_confused : FnScope N_confused ["passage"] (defScope s_confused) := ⟨rfl, rfl, rfl, by decide +kernel, rfl, by decide +kernel, by decide +kernel⟩
abbrev s_key_text : Stmt := top 36
abbrev N_key_text : List Str := ["key"]
theorem sc_key_text : FnScope N_key_text ["key"] (defScope s_key_text) := ⟨rfl, rfl, rfl, by decide +kernel, rfl, by decide +kernel, by decide +kernel⟩
abbrev s_is_digit_key : Stmt := top 37
abbrev N_is_digit_key : List Str := ["key", "digits"]
theorem sc_is_digit_key : FnScope N_is_digit_key ["key"] (defScope s_is_digit_key) := ⟨rfl, rfl, rfl, by decide +kernel, rfl, by decide +kernel, by decide +kernel⟩
abbrev s_check_options : Stmt := top 38
abbrev N_check_options : List Str := ["options", "given", "name", "allowed", "value"]
theorem sc_check_options : FnScope N_check_options ["options", "given"] (defScope s_check_options) := ⟨rfl, rfl, rfl, by decide +kernel, rfl, by decide +kernel, by decide +kernel⟩
abbrev s_Writer_init : Stmt := inClass (top 39) 1
abbrev N_Writer_init : List Str := ["self", "number_keys", "tuples", "nulls", "double_keys", "order", "long_numbers"]
theorem sc_Writer_init : FnScope N_Writer_init ["self", "number_keys", "tuples", "nulls", "double_keys", "order", "long_numbers"] (defScope s_Writer_init) := ⟨rfl, rfl, rfl, by decide +kernel, rfl, by decide +kernel, by decide +kernel⟩
abbrev s_Writer_raw : Stmt := inClass (top 39) 3
abbrev N_Writer_raw : List Str := ["self", "value"]
theorem sc_Writer_raw : FnScope N_Writer_raw ["self", "value"] (defScope s_Writer_raw) := ⟨rfl, rfl, rfl, by decide +kernel, rfl, by decide +kernel, by decide +kernel⟩
abbrev s_Writer_raw_at : Stmt := inClass (top 39) 5
abbrev N_Writer_raw_at : List Str := ["self", "value", "path", "index", "item"]
theorem sc_Writer_raw_at : FnScope N_Writer_raw_at ["self", "value", "path"] (defScope s_Writer_raw_at) := ⟨rfl, rfl, rfl, by decide +kernel, rfl, by decide +kernel, by decide +kernel⟩
abbrev s_Writer_kept_entries : Stmt := inClass (top 39) 6
abbrev N_Writer_kept_entries : List Str := ["self", "table", "path", "kept", "key", "item"]
theorem sc_Writer_kept_entries : FnScope N_Writer_kept_entries ["self", "table", "path"] (defScope s_Writer_kept_entries) := ⟨rfl, rfl, rfl, by decide +kernel, rfl, by decide +kernel, by decide +kernel⟩
abbrev s_Writer_raw_pairs : Stmt := inClass (top 39) 7
abbrev N_Writer_raw_pairs : List Str := ["self", "table", "path", "pairs", "seen", "key", "item", "name"]
theorem sc_Writer_raw_pairs : FnScope N_Writer_raw_pairs ["self", "table", "path"] (defScope s_Writer_raw_pairs) := ⟨rfl, rfl, rfl, by decide +kernel, rfl, by decide +kernel, by decide +kernel⟩
abbrev s_Reader_init : Stmt := inClass (top 40) 0
abbrev N_Reader_init : List Str := ["self", "same_keys", "digit_keys", "lists", "null_items"]
theorem sc_Reader_init : FnScope N_Reader_init ["self", "same_keys", "digit_keys", "lists", "null_items"] (defScope s_Reader_init) := ⟨rfl, rfl, rfl, by decide +kernel, rfl, by decide +kernel, by decide +kernel⟩
abbrev s_Reader_build : Stmt := inClass (top 40) 2
abbrev N_Reader_build : List Str := ["self", "raw"]
theorem sc_Reader_build : FnScope N_Reader_build ["self", "raw"] (defScope s_Reader_build) := ⟨rfl, rfl, rfl, by decide +kernel, rfl, by decide +kernel, by decide +kernel⟩
abbrev s_Reader_built_at : Stmt := inClass (top 40) 4
abbrev N_Reader_built_at : List Str := ["self", "raw", "path", "shape", "members", "index", "item", "items"]
theorem sc_Reader_built_at : FnScope N_Reader_built_at ["self", "raw", "path"] (defScope s_Reader_built_at) := ⟨rfl, rfl, rfl, by decide +kernel, rfl, by decide +kernel, by decide +kernel⟩
abbrev s_Reader_built_table : Stmt := inClass (top 40) 5
abbrev N_Reader_built_table : List Str := ["self", "pairs", "path", "found", "name", "raw", "item"]
theorem sc_Reader_built_table : FnScope N_Reader_built_table ["self", "pairs", "path"] (defScope s_Reader_built_table) := ⟨rfl, rfl, rfl, by decide +kernel, rfl, by decide +kernel, by decide +kernel⟩
abbrev s_Reader_built_key : Stmt := inClass (top 40) 6
abbrev N_Reader_built_key : List Str := ["self", "name"]
theorem sc_Reader_built_key : FnScope N_Reader_built_key ["self", "name"] (defScope s_Reader_built_key) := ⟨rfl, rfl, rfl, by decide +kernel, rfl, by decide +kernel, by decide +kernel⟩
abbrev s_Passage_init : Stmt := inClass (top 42) 0
abbrev N_Passage_init : List Str := ["self", "number_keys", "tuples", "nulls", "double_keys", "order", "long_numbers", "same_keys", "digit_keys", "lists", "null_items"]
theorem sc_Passage_init : FnScope N_Passage_init ["self", "number_keys", "tuples", "nulls", "double_keys", "order", "long_numbers", "same_keys", "digit_keys", "lists", "null_items"] (defScope s_Passage_init) := ⟨rfl, rfl, rfl, by decide +kernel, rfl, by decide +kernel, by decide +kernel⟩
abbrev s_Passage_carry : Stmt := inClass (top 42) 4
abbrev N_Passage_carry : List Str := ["self", "value", "raw", "why", "cause"]
theorem sc_Passage_carry : FnScope N_Passage_carry ["self", "value"] (defScope s_Passage_carry) := ⟨rfl, rfl, rfl, by decide +kernel, rfl, by decide +kernel, by decide +kernel⟩
abbrev s__law_source : Stmt := top 44
abbrev N__law_source : List Str := ["_law_script", "_law_place", "_law_cell", "_law_large"]
theorem sc__law_source : FnScope N__law_source ["_law_script", "_law_place"] (defScope s__law_source) := ⟨rfl, rfl, rfl, by decide +kernel, rfl, by decide +kernel, by decide +kernel⟩
abbrev s__law_draw : Stmt := top 45
abbrev N__law_draw : List Str := ["_law_source_here", "_law_many", "_law_digit", "_law_mixed"]
theorem sc__law_draw : FnScope N__law_draw ["_law_source_here", "_law_many"] (defScope s__law_draw) := ⟨rfl, rfl, rfl, by decide +kernel, rfl, by decide +kernel, by decide +kernel⟩
abbrev s__law_pick : Stmt := top 46
abbrev N__law_pick : List Str := ["_law_source_here", "_law_some"]
theorem sc__law_pick : FnScope N__law_pick ["_law_source_here", "_law_some"] (defScope s__law_pick) := ⟨rfl, rfl, rfl, by decide +kernel, rfl, by decide +kernel, by decide +kernel⟩
abbrev s__law_word : Stmt := top 47
abbrev N__law_word : List Str := ["_law_source_here", "_law_text", "_law_turn"]
theorem sc__law_word : FnScope N__law_word ["_law_source_here"] (defScope s__law_word) := ⟨rfl, rfl, rfl, by decide +kernel, rfl, by decide +kernel, by decide +kernel⟩
abbrev s__law_text_key : Stmt := top 48
abbrev N__law_text_key : List Str := ["_law_source_here", "_law_road", "_law_word_here"]
theorem sc__law_text_key : FnScope N__law_text_key ["_law_source_here"] (defScope s__law_text_key) := ⟨rfl, rfl, rfl, by decide +kernel, rfl, by decide +kernel, by decide +kernel⟩
abbrev s__law_focus : Stmt := top 49
abbrev N__law_focus : List Str := ["_law_source_here", "_law_number", "_law_word_here", "_law_found"]
theorem sc__law_focus : FnScope N__law_focus ["_law_source_here"] (defScope s__law_focus) := ⟨rfl, rfl, rfl, by decide +kernel, rfl, by decide +kernel, by decide +kernel⟩
abbrev s__law_is_number : Stmt := top 50
abbrev N__law_is_number : List Str := ["_law_text", "_law_digits"]
theorem sc__law_is_number : FnScope N__law_is_number ["_law_text"] (defScope s__law_is_number) := ⟨rfl, rfl, rfl, by decide +kernel, rfl, by decide +kernel, by decide +kernel⟩
abbrev s__law_twins : Stmt := top 51
abbrev N__law_twins : List Str := ["_law_keys", "_law_found", "_law_key_here", "_law_both", "_law_one"]
theorem sc__law_twins : FnScope N__law_twins ["_law_keys"] (defScope s__law_twins) := ⟨rfl, rfl, rfl, by decide +kernel, rfl, by decide +kernel, by decide +kernel⟩
abbrev s__law_atoms : Stmt := top 52
abbrev N__law_atoms : List Str := ["_law_source_here", "_law_small", "_law_large", "_law_text"]
theorem sc__law_atoms : FnScope N__law_atoms ["_law_source_here"] (defScope s__law_atoms) := ⟨rfl, rfl, rfl, by decide +kernel, rfl, by decide +kernel, by decide +kernel⟩
abbrev s__law_scalar : Stmt := top 53
abbrev N__law_scalar : List Str := ["_law_source_here", "_law_atoms_here", "_law_road"]
theorem sc__law_scalar : FnScope N__law_scalar ["_law_source_here", "_law_atoms_here"] (defScope s__law_scalar) := ⟨rfl, rfl, rfl, by decide +kernel, rfl, by decide +kernel, by decide +kernel⟩
abbrev s__law_key : Stmt := top 54
abbrev N__law_key : List Str := ["_law_source_here", "_law_twins_here", "_law_road", "_law_number"]
theorem sc__law_key : FnScope N__law_key ["_law_source_here", "_law_twins_here"] (defScope s__law_key) := ⟨rfl, rfl, rfl, by decide +kernel, rfl, by decide +kernel, by decide +kernel⟩
abbrev s__law_value : Stmt := top 55
abbrev N__law_value : List Str := ["_law_source_here", "_law_deep", "_law_twins_here", "_law_atoms_here", "_law_room", "_law_road", "_law_many", "_law_turn", "_law_items"]
theorem sc__law_value : FnScope N__law_value ["_law_source_here", "_law_deep", "_law_twins_here", "_law_atoms_here", "_law_room"] (defScope s__law_value) := ⟨rfl, rfl, rfl, by decide +kernel, rfl, by decide +kernel, by decide +kernel⟩
abbrev s__law_table : Stmt := top 56
abbrev N__law_table : List Str := ["_law_source_here", "_law_many", "_law_deep", "_law_twins_here", "_law_atoms_here", "_law_room", "_law_entries", "_law_turn", "_law_key_here", "_law_old", "_law_item"]
theorem sc__law_table : FnScope N__law_table ["_law_source_here", "_law_many", "_law_deep", "_law_twins_here", "_law_atoms_here", "_law_room"] (defScope s__law_table) := ⟨rfl, rfl, rfl, by decide +kernel, rfl, by decide +kernel, by decide +kernel⟩
abbrev s__law_parts : Stmt := top 57
abbrev N__law_parts : List Str := ["_law_value_here", "_law_item", "_law_key_here"]
theorem sc__law_parts : FnScope N__law_parts ["_law_value_here"] (defScope s__law_parts) := ⟨rfl, rfl, rfl, by decide +kernel, rfl, by decide +kernel, by decide +kernel⟩
abbrev s__law_passage : Stmt := top 58
abbrev N__law_passage : List Str := ["_law_source_here", "_law_turn", "_law_some"]
theorem sc__law_passage : FnScope N__law_passage ["_law_source_here"] (defScope s__law_passage) := ⟨rfl, rfl, rfl, by decide +kernel, rfl, by decide +kernel, by decide +kernel⟩
abbrev s__law_near_row : Stmt := top 59
abbrev N__law_near_row : List Str := ["_law_source_here", "_law_items", "_law_twins_here", "_law_at", "_law_road", "_law_rest"]
theorem sc__law_near_row : FnScope N__law_near_row ["_law_source_here", "_law_items", "_law_twins_here"] (defScope s__law_near_row) := ⟨rfl, rfl, rfl, by decide +kernel, rfl, by decide +kernel, by decide +kernel⟩
abbrev s__law_near_table : Stmt := top 60
abbrev N__law_near_table : List Str := ["_law_source_here", "_law_entries", "_law_twins_here", "_law_at", "_law_road", "_law_key_here", "_law_item", "_law_rest", "_law_other", "_law_old", "_law_kept"]
theorem sc__law_near_table : FnScope N__law_near_table ["_law_source_here", "_law_entries", "_law_twins_here"] (defScope s__law_near_table) := ⟨rfl, rfl, rfl, by decide +kernel, rfl, by decide +kernel, by decide +kernel⟩
abbrev s__law_near : Stmt := top 61
abbrev N__law_near : List Str := ["_law_source_here", "_law_value_here", "_law_twins_here", "_law_road"]
theorem sc__law_near : FnScope N__law_near ["_law_source_here", "_law_value_here", "_law_twins_here"] (defScope s__law_near) := ⟨rfl, rfl, rfl, by decide +kernel, rfl, by decide +kernel, by decide +kernel⟩
abbrev s__law_strict : Stmt := top 62
abbrev N__law_strict : List Str := ["_law_source_here", "_law_passage_here", "_law_road"]
theorem sc__law_strict : FnScope N__law_strict ["_law_source_here", "_law_passage_here"] (defScope s__law_strict) := ⟨rfl, rfl, rfl, by decide +kernel, rfl, by decide +kernel, by decide +kernel⟩
abbrev s__law_turned : Stmt := top 63
abbrev N__law_turned : List Str := ["_law_value_here", "_law_is_row", "_law_item", "_law_items", "_law_key_here", "_law_entries"]
theorem sc__law_turned : FnScope N__law_turned ["_law_value_here", "_law_is_row"] (defScope s__law_turned) := ⟨rfl, rfl, rfl, by decide +kernel, rfl, by decide +kernel, by decide +kernel⟩
abbrev s__law_spelt : Stmt := top 64
abbrev N__law_spelt : List Str := ["_law_value_here", "_law_item", "_law_items", "_law_key_here"]
theorem sc__law_spelt : FnScope N__law_spelt ["_law_value_here"] (defScope s__law_spelt) := ⟨rfl, rfl, rfl, by decide +kernel, rfl, by decide +kernel, by decide +kernel⟩
abbrev s__law_beside : Stmt := top 65
abbrev N__law_beside : List Str := ["_law_source_here", "_law_value_here", "_law_twins_here", "_law_road"]
theorem sc__law_beside : FnScope N__law_beside ["_law_source_here", "_law_value_here", "_law_twins_here"] (defScope s__law_beside) := ⟨rfl, rfl, rfl, by decide +kernel, rfl, by decide +kernel, by decide +kernel⟩
abbrev s__law_back : Stmt := top 66
abbrev N__law_back : List Str := ["_law_passage_here", "_law_value_here", "_law_found"]
theorem sc__law_back : FnScope N__law_back ["_law_passage_here", "_law_value_here"] (defScope s__law_back) := ⟨rfl, rfl, rfl, by decide +kernel, rfl, by decide +kernel, by decide +kernel⟩
abbrev s__law_confuses : Stmt := top 67
abbrev N__law_confuses : List Str := ["_law_passage_here", "_law_one", "_law_other", "_law_back_here"]
theorem sc__law_confuses : FnScope N__law_confuses ["_law_passage_here", "_law_one", "_law_other"] (defScope s__law_confuses) := ⟨rfl, rfl, rfl, by decide +kernel, rfl, by decide +kernel, by decide +kernel⟩
abbrev s_law : Stmt := top 68
abbrev N_law : List Str := ["_law_script", "_law_place", "_law_source_here", "_law_keys", "_law_atoms_here", "_law_passage_here", "_law_found", "_law_at", "_law_one", "_law_other", "_law_many"]
theorem sc_law : FnScope N_law ["_law_script"] (defScope s_law) := ⟨rfl, rfl, rfl, by decide +kernel, rfl, by decide +kernel, by decide +kernel⟩
def d_Unwritable_init : He.DefD := ⟨("Unwritable", some "__init__"), "__init__", "Unwritable.__init__", defArgs s_Unwritable_init, defBody s_Unwritable_init, defScope s_Unwritable_init, [], []⟩
def d_Unreadable_init : He.DefD := ⟨("Unreadable", some "__init__"), "__init__", "Unreadable.__init__", defArgs s_Unreadable_init, defBody s_Unreadable_init, defScope s_Unreadable_init, [], []⟩
def d_Refused_init : He.DefD := ⟨("Refused", some "__init__"), "__init__", "Refused.__init__", defArgs s_Refused_init, defBody s_Refused_init, defScope s_Refused_init, [], []⟩
def d_is_integer : He.DefD := ⟨("is_integer", none), "is_integer", "is_integer", defArgs s_is_integer, defBody s_is_integer, defScope s_is_integer, [], []⟩
def d_kind : He.DefD := ⟨("kind", none), "kind", "kind", defArgs s_kind, defBody s_kind, defScope s_kind, [], []⟩
def d_fresh : He.DefD := ⟨("fresh", none), "fresh", "fresh", defArgs s_fresh, defBody s_fresh, defScope s_fresh, [], []⟩
def d_same_rows : He.DefD := ⟨("same_rows", none), "same_rows", "same_rows", defArgs s_same_rows, defBody s_same_rows, defScope s_same_rows, [], []⟩
def d_same_tables : He.DefD := ⟨("same_tables", none), "same_tables", "same_tables", defArgs s_same_tables, defBody s_same_tables, defScope s_same_tables, [], []⟩
def d_same : He.DefD := ⟨("same", none), "same", "same", defArgs s_same, defBody s_same, defScope s_same, [], [("ordered", .bl false)]⟩
def d_Table_init : He.DefD := ⟨("Table", some "__init__"), "__init__", "Table.__init__", defArgs s_Table_init, defBody s_Table_init, defScope s_Table_init, [.adr (He.dflAt ("Table", some "__init__") 0)], []⟩
def d_Table_entries : He.DefD := ⟨("Table", some "entries"), "entries", "Table.entries", defArgs s_Table_entries, defBody s_Table_entries, defScope s_Table_entries, [], []⟩
def d_Table___len__ : He.DefD := ⟨("Table", some "__len__"), "__len__", "Table.__len__", defArgs s_Table___len__, defBody s_Table___len__, defScope s_Table___len__, [], []⟩
def d_Table___or__ : He.DefD := ⟨("Table", some "__or__"), "__or__", "Table.__or__", defArgs s_Table___or__, defBody s_Table___or__, defScope s_Table___or__, [], []⟩
def d_Table_with_entry : He.DefD := ⟨("Table", some "with_entry"), "with_entry", "Table.with_entry", defArgs s_Table_with_entry, defBody s_Table_with_entry, defScope s_Table_with_entry, [], []⟩
def d_confusable_pairs : He.DefD := ⟨("confusable_pairs", none), "confusable_pairs", "confusable_pairs", defArgs s_confusable_pairs, defBody s_confusable_pairs, defScope s_confusable_pairs, [], []⟩
def d_what_comes_back : He.DefD := ⟨("what_comes_back", none), "what_comes_back", "what_comes_back", defArgs s_what_comes_back, defBody s_what_comes_back, defScope s_what_comes_back, [], []⟩
def d_confused : He.DefD := ⟨("confused", none), "confused", "confused", defArgs s_confused, defBody s_confused, defScope s_confused, [], []⟩
def d_key_text : He.DefD := ⟨("key_text", none), "key_text", "key_text", defArgs s_key_text, defBody s_key_text, defScope s_key_text, [], []⟩
def d_is_digit_key : He.DefD := ⟨("is_digit_key", none), "is_digit_key", "is_digit_key", defArgs s_is_digit_key, defBody s_is_digit_key, defScope s_is_digit_key, [], []⟩
def d_check_options : He.DefD := ⟨("check_options", none), "check_options", "check_options", defArgs s_check_options, defBody s_check_options, defScope s_check_options, [], []⟩
def d_Writer_init : He.DefD := ⟨("Writer", some "__init__"), "__init__", "Writer.__init__", defArgs s_Writer_init, defBody s_Writer_init, defScope s_Writer_init, [], [("number_keys", .str "text"), ("tuples", .str "list"), ("nulls", .str "keep"), ("double_keys", .str "keep"), ("order", .str "keep"), ("long_numbers", .str "keep")]⟩
def d_Writer_raw : He.DefD := ⟨("Writer", some "raw"), "raw", "Writer.raw", defArgs s_Writer_raw, defBody s_Writer_raw, defScope s_Writer_raw, [], []⟩
def d_Writer_raw_at : He.DefD := ⟨("Writer", some "raw_at"), "raw_at", "Writer.raw_at", defArgs s_Writer_raw_at, defBody s_Writer_raw_at, defScope s_Writer_raw_at, [], []⟩
def d_Writer_kept_entries : He.DefD := ⟨("Writer", some "kept_entries"), "kept_entries", "Writer.kept_entries", defArgs s_Writer_kept_entries, defBody s_Writer_kept_entries, defScope s_Writer_kept_entries, [], []⟩
def d_Writer_raw_pairs : He.DefD := ⟨("Writer", some "raw_pairs"), "raw_pairs", "Writer.raw_pairs", defArgs s_Writer_raw_pairs, defBody s_Writer_raw_pairs, defScope s_Writer_raw_pairs, [], []⟩
def d_Reader_init : He.DefD := ⟨("Reader", some "__init__"), "__init__", "Reader.__init__", defArgs s_Reader_init, defBody s_Reader_init, defScope s_Reader_init, [], [("same_keys", .str "last"), ("digit_keys", .str "text"), ("lists", .str "list"), ("null_items", .str "keep")]⟩
def d_Reader_build : He.DefD := ⟨("Reader", some "build"), "build", "Reader.build", defArgs s_Reader_build, defBody s_Reader_build, defScope s_Reader_build, [], []⟩
def d_Reader_built_at : He.DefD := ⟨("Reader", some "built_at"), "built_at", "Reader.built_at", defArgs s_Reader_built_at, defBody s_Reader_built_at, defScope s_Reader_built_at, [], []⟩
def d_Reader_built_table : He.DefD := ⟨("Reader", some "built_table"), "built_table", "Reader.built_table", defArgs s_Reader_built_table, defBody s_Reader_built_table, defScope s_Reader_built_table, [], []⟩
def d_Reader_built_key : He.DefD := ⟨("Reader", some "built_key"), "built_key", "Reader.built_key", defArgs s_Reader_built_key, defBody s_Reader_built_key, defScope s_Reader_built_key, [], []⟩
def d_Passage_init : He.DefD := ⟨("Passage", some "__init__"), "__init__", "Passage.__init__", defArgs s_Passage_init, defBody s_Passage_init, defScope s_Passage_init, [], [("number_keys", .str "text"), ("tuples", .str "list"), ("nulls", .str "keep"), ("double_keys", .str "keep"), ("order", .str "keep"), ("long_numbers", .str "keep"), ("same_keys", .str "last"), ("digit_keys", .str "text"), ("lists", .str "list"), ("null_items", .str "keep")]⟩
def d_Passage_carry : He.DefD := ⟨("Passage", some "carry"), "carry", "Passage.carry", defArgs s_Passage_carry, defBody s_Passage_carry, defScope s_Passage_carry, [], []⟩
def d__law_source : He.DefD := ⟨("_law_source", none), "_law_source", "_law_source", defArgs s__law_source, defBody s__law_source, defScope s__law_source, [], []⟩
def d__law_draw : He.DefD := ⟨("_law_draw", none), "_law_draw", "_law_draw", defArgs s__law_draw, defBody s__law_draw, defScope s__law_draw, [], []⟩
def d__law_pick : He.DefD := ⟨("_law_pick", none), "_law_pick", "_law_pick", defArgs s__law_pick, defBody s__law_pick, defScope s__law_pick, [], []⟩
def d__law_word : He.DefD := ⟨("_law_word", none), "_law_word", "_law_word", defArgs s__law_word, defBody s__law_word, defScope s__law_word, [], []⟩
def d__law_text_key : He.DefD := ⟨("_law_text_key", none), "_law_text_key", "_law_text_key", defArgs s__law_text_key, defBody s__law_text_key, defScope s__law_text_key, [], []⟩
def d__law_focus : He.DefD := ⟨("_law_focus", none), "_law_focus", "_law_focus", defArgs s__law_focus, defBody s__law_focus, defScope s__law_focus, [], []⟩
def d__law_is_number : He.DefD := ⟨("_law_is_number", none), "_law_is_number", "_law_is_number", defArgs s__law_is_number, defBody s__law_is_number, defScope s__law_is_number, [], []⟩
def d__law_twins : He.DefD := ⟨("_law_twins", none), "_law_twins", "_law_twins", defArgs s__law_twins, defBody s__law_twins, defScope s__law_twins, [], []⟩
def d__law_atoms : He.DefD := ⟨("_law_atoms", none), "_law_atoms", "_law_atoms", defArgs s__law_atoms, defBody s__law_atoms, defScope s__law_atoms, [], []⟩
def d__law_scalar : He.DefD := ⟨("_law_scalar", none), "_law_scalar", "_law_scalar", defArgs s__law_scalar, defBody s__law_scalar, defScope s__law_scalar, [], []⟩
def d__law_key : He.DefD := ⟨("_law_key", none), "_law_key", "_law_key", defArgs s__law_key, defBody s__law_key, defScope s__law_key, [], []⟩
def d__law_value : He.DefD := ⟨("_law_value", none), "_law_value", "_law_value", defArgs s__law_value, defBody s__law_value, defScope s__law_value, [], []⟩
def d__law_table : He.DefD := ⟨("_law_table", none), "_law_table", "_law_table", defArgs s__law_table, defBody s__law_table, defScope s__law_table, [], []⟩
def d__law_parts : He.DefD := ⟨("_law_parts", none), "_law_parts", "_law_parts", defArgs s__law_parts, defBody s__law_parts, defScope s__law_parts, [], []⟩
def d__law_passage : He.DefD := ⟨("_law_passage", none), "_law_passage", "_law_passage", defArgs s__law_passage, defBody s__law_passage, defScope s__law_passage, [], []⟩
def d__law_near_row : He.DefD := ⟨("_law_near_row", none), "_law_near_row", "_law_near_row", defArgs s__law_near_row, defBody s__law_near_row, defScope s__law_near_row, [], []⟩
def d__law_near_table : He.DefD := ⟨("_law_near_table", none), "_law_near_table", "_law_near_table", defArgs s__law_near_table, defBody s__law_near_table, defScope s__law_near_table, [], []⟩
def d__law_near : He.DefD := ⟨("_law_near", none), "_law_near", "_law_near", defArgs s__law_near, defBody s__law_near, defScope s__law_near, [], []⟩
def d__law_strict : He.DefD := ⟨("_law_strict", none), "_law_strict", "_law_strict", defArgs s__law_strict, defBody s__law_strict, defScope s__law_strict, [], []⟩
def d__law_turned : He.DefD := ⟨("_law_turned", none), "_law_turned", "_law_turned", defArgs s__law_turned, defBody s__law_turned, defScope s__law_turned, [], []⟩
def d__law_spelt : He.DefD := ⟨("_law_spelt", none), "_law_spelt", "_law_spelt", defArgs s__law_spelt, defBody s__law_spelt, defScope s__law_spelt, [], []⟩
def d__law_beside : He.DefD := ⟨("_law_beside", none), "_law_beside", "_law_beside", defArgs s__law_beside, defBody s__law_beside, defScope s__law_beside, [], []⟩
def d__law_back : He.DefD := ⟨("_law_back", none), "_law_back", "_law_back", defArgs s__law_back, defBody s__law_back, defScope s__law_back, [], []⟩
def d__law_confuses : He.DefD := ⟨("_law_confuses", none), "_law_confuses", "_law_confuses", defArgs s__law_confuses, defBody s__law_confuses, defScope s__law_confuses, [], []⟩
def d_law : He.DefD := ⟨("law", none), "law", "law", defArgs s_law, defBody s_law, defScope s_law, [], []⟩
def fn : List He.DefD := [d_Unwritable_init, d_Unreadable_init, d_Refused_init, d_is_integer, d_kind, d_fresh, d_same_rows, d_same_tables, d_same, d_Table_init, d_Table_entries, d_Table___len__, d_Table___or__, d_Table_with_entry, d_confusable_pairs, d_what_comes_back, d_confused, d_key_text, d_is_digit_key, d_check_options, d_Writer_init, d_Writer_raw, d_Writer_raw_at, d_Writer_kept_entries, d_Writer_raw_pairs, d_Reader_init, d_Reader_build, d_Reader_built_at, d_Reader_built_table, d_Reader_built_key, d_Passage_init, d_Passage_carry, d__law_source, d__law_draw, d__law_pick, d__law_word, d__law_text_key, d__law_focus, d__law_is_number, d__law_twins, d__law_atoms, d__law_scalar, d__law_key, d__law_value, d__law_table, d__law_parts, d__law_passage, d__law_near_row, d__law_near_table, d__law_near, d__law_strict, d__law_turned, d__law_spelt, d__law_beside, d__law_back, d__law_confuses, d_law]
def fa : List He.Fa := [.glo "Unwritable", .glo "Unreadable", .glo "Refused", .glo "Table", .glo "Writer", .glo "Reader", .glo "Passage", .glo "is_integer", .glo "kind", .glo "fresh", .glo "same_rows", .glo "same_tables", .glo "same", .glo "confusable_pairs", .glo "what_comes_back", .glo "confused", .glo "key_text", .glo "is_digit_key", .glo "check_options", .glo "_law_source", .glo "_law_draw", .glo "_law_pick", .glo "_law_word", .glo "_law_text_key", .glo "_law_focus", .glo "_law_is_number", .glo "_law_twins", .glo "_law_atoms", .glo "_law_scalar", .glo "_law_key", .glo "_law_value", .glo "_law_table", .glo "_law_parts", .glo "_law_passage", .glo "_law_near_row", .glo "_law_near_table", .glo "_law_near", .glo "_law_strict", .glo "_law_turned", .glo "_law_spelt", .glo "_law_beside", .glo "_law_back", .glo "_law_confuses", .glo "law", .noat "Unwritable" "reason", .noat "Unwritable" "path", .exm "Unwritable" "Unwritable" true, .noat "Unreadable" "reason", .noat "Unreadable" "path", .exm "Unreadable" "Unreadable" true, .noat "Refused" "side", .noat "Refused" "reason", .noat "Refused" "path", .exm "Refused" "Refused" true, .cls "Table", .mkr "Table", .noat "Table" "held", .mkr "Passage", .cls "Passage", .cls "Passage", .cls "Passage", .noat "Passage" "number_keys", .noat "Passage" "tuples", .noat "Passage" "nulls", .noat "Passage" "double_keys", .noat "Passage" "order", .noat "Passage" "long_numbers", .noat "Passage" "same_keys", .noat "Passage" "digit_keys", .noat "Passage" "lists", .noat "Passage" "null_items", .meth "Table" "entries", .meth "Table" "with_entry", .meth "Passage" "carry", .meth "Passage" "raw", .meth "Passage" "raw_at", .meth "Passage" "kept_entries", .meth "Passage" "raw_pairs", .meth "Passage" "build", .meth "Passage" "built_at", .meth "Passage" "built_table", .meth "Passage" "built_key", .int "LONG" (10 ^ 15), .int "MOST_DIGITS" 30, .glo "WRITER_OPTIONS", .glo "READER_OPTIONS"]
/-- the j-th item of the tuple at a, if it is an object -/
def itA (K : PySem.W.Frag) (a : Addr) (j : Nat) : Addr := match K.lookup a with
  | some ⟨_, _, .seq its _, _⟩ => (match its.toList[j]? with
    | some (.ref b) => b
    | _ => 0)
  | _ => 0
def ktB (K : PySem.W.Frag) (a : Addr) (vs : List V) : Bool := match K.lookup a with
  | some ⟨.type c, _, .seq its _, _⟩ => decide (c = "tuple") && (decide (its.size ≤ sizeLine) && He.relAll vs its.toList)
  | _ => false
theorem ktB_ok {K : PySem.W.Frag} {a : Addr} {vs : List V} (h : ktB K a vs = true) (H : Hp) : SqT K H a vs := by
  unfold ktB at h
  split at h
  · rename_i c dd its n sl e
    simp only [Bool.and_eq_true, decide_eq_true_eq] at h
    obtain ⟨h1, h2, h3⟩ := h
    exact .inr ⟨_, its, n, e, congrArg Value.type h1, rfl, h2, He.relAll_ok h3⟩
  · cases h
def woN : List (Str × List Str) := [("number_keys", ["text", "skip", "refuse"]), ("tuples", ["list", "refuse"]), ("nulls", ["keep", "skip"]), ("double_keys", ["keep", "refuse"]), ("order", ["keep", "rising"]), ("long_numbers", ["keep", "text", "refuse"])]
def roN : List (Str × List Str) := [("same_keys", ["last", "first", "refuse"]), ("digit_keys", ["text", "number"]), ("lists", ["list", "tuple"]), ("null_items", ["keep", "skip"])]
/-- a tuple of options: the table x of n of them, told by l -/
def opI (K : PySem.W.Frag) (x : Str) (j : Nat) : Addr := itA K (He.ga K x) j
def opB (K : PySem.W.Frag) (x : Str) (l : List (Str × List Str)) : Bool := ktB K (He.ga K x) ((List.range l.length).map fun j => .ref (opI K x j)) && (List.range l.length).all fun j =>
  ktB K (opI K x j) [.str (l.getD j ("", [])).1, .ref (itA K (opI K x j) 1)] && ktB K (itA K (opI K x j) 1) ((l.getD j ("", [])).2.map V.str)
def tyN : List String := ["NoneType", "bool", "int", "str", "list", "tuple"]
def tyB (K : PySem.W.Frag) : Bool := (tyN.all fun t => decide (PySem.W.kitOne K (.type t) (.ref (He.ga K "Table")) = some false) && decide (PySem.W.kitOne K (.ref (He.ga K "Table")) (.type t) = some false)) &&
  decide (PySem.W.kitOne K (.ref (He.ga K "Table")) (.ref (He.ga K "Table")) = some true)
def insB (K : PySem.W.Frag) (x : Str) : Bool := decide (PySem.W.findIn K (.ref (He.ga K x)) "__class__" = some (some (.builtin "object.__class__"))) && (decide (PySem.W.specialIn K (.builtin "object.__class__") "__get__" = some (some (.builtin "getset_descriptor.__get__"))) &&
  (decide (PySem.W.takesIn K (.builtin "object.__class__") = some true) && decide (PySem.W.mroIn K (He.ga K x) (.type "object") = some true)))
def digB (K : PySem.W.Frag) : Bool := PySem.W.readsIn K (He.ga K "Writer") (.type "type") && (decide (PySem.W.specialIn K (.ref (He.ga K "Writer")) "__getattribute__" = some (some (.builtin "type.__getattribute__"))) &&
  (match PySem.W.findCls K (.ref (He.ga K "Writer")) (.type "type") "DIGITS" with
  | some (.val u) => He.relB (.int 15) u
  | _ => false))
/-- the start of the class x, read off it -/
def iniB (K : PySem.W.Frag) (x : Str) : Bool := PySem.W.readsIn K (He.ga K x) (.type "type") && (decide (PySem.W.specialIn K (.ref (He.ga K x)) "__getattribute__" = some (some (.builtin "type.__getattribute__"))) &&
  ((match PySem.W.findCls K (.ref (He.ga K x)) (.type "type") "__init__" with
  | some (.val (.ref u)) => decide (u = He.ma K (He.ga K x) "__init__")
  | _ => false) && PySem.W.keepIn K (.ref (He.ma K (He.ga K x) "__init__"))))
/-- methods that Passage has from its bases -/
def inhN : List (Str × Str) := [("Writer", "raw"), ("Writer", "raw_at"), ("Writer", "kept_entries"), ("Writer", "raw_pairs"), ("Reader", "build"), ("Reader", "built_at"), ("Reader", "built_table"), ("Reader", "built_key")]
def inhB (K : PySem.W.Frag) : Bool := inhN.all fun p => decide (He.ma K (He.ga K "Passage") p.2 = He.ma K (He.ga K p.1) p.2)
def orB (K : PySem.W.Frag) : Bool := PySem.W.selfFirst K (He.ga K "Table") && (decide (PySem.W.findIn K (.ref (He.ga K "Table")) "__or__" = some (some (.ref (He.ma K (He.ga K "Table") "__or__")))) && (PySem.W.isFn K (.ref (He.ma K (He.ga K "Table") "__or__")) &&
  (decide (PySem.W.findIn K (.ref (He.ga K "Table")) "__len__" = some (some (.ref (He.ma K (He.ga K "Table") "__len__")))) && PySem.W.isFn K (.ref (He.ma K (He.ga K "Table") "__len__")))))
def freeN : List Str := ["abs", "bool", "enumerate", "int", "isinstance", "len", "list", "max", "min", "range", "set", "sorted", "str", "sum", "tuple", "zip"]
/-- names that the top does not bind, the globals gone through once -/
def freeB (K : PySem.W.Frag) : Bool := match K.lookup mainGlobals with
  | some ⟨_, _, .dict es _, _⟩ => !(es.toList.any (·.refKey)) && (es.toList.all fun e => !(freeN.any fun n => e.key.isStr n))
  | _ => false
theorem freeB_ok {K : PySem.W.Frag} (h : freeB K = true) {n : Str} (hn : n ∈ freeN) : PySem.W.nsIn K mainGlobals n = some none := by
  unfold freeB at h
  unfold PySem.W.nsIn
  split at h
  · rename_i es _ _ e
    rw [e]
    obtain ⟨h1, h2⟩ := Bool.and_eq_true_iff.mp h
    have h3 : es.toList.find? (fun e => e.key.isStr n) = none := List.find?_eq_none.mpr fun x hx z => by
      have := List.all_eq_true.mp h2 x hx
      rw [Bool.not_eq_true', ← Bool.not_eq_true, List.any_eq_true] at this
      exact this ⟨n, hn, z⟩
    dsimp only
    rw [h3, Bool.not_eq_true'] at *
    dsimp only
    rw [h1]
    rfl
  · cases h
def errN : List Str := ["Unwritable", "Unreadable", "Refused"]
def extra (K : PySem.W.Frag) : Bool := (errN.all fun x => exAllB K (He.ga K x) (He.ma K (He.ga K x) "__init__")) && (opB K "WRITER_OPTIONS" woN && (tyB K && (insB K "Table" && (digB K && (opB K "READER_OPTIONS" roN && (iniB K "Writer" && (iniB K "Reader" && (inhB K && (orB K && (insB K "Passage" && freeB K))))))))))
def tf : List He.Defn := [("Writer", some "kept_entries")]
structure Tx (w : World) (K : PySem.W.Frag) (mg : Str → Option Value) : Prop where
  ex : ∃ h, K.In h ∧ h.Ns mainGlobals mg ∧ He.SaysX fa fn [] tf extra w h K
section
variable {w : World} {K : PySem.W.Frag} {mg : Str → Option Value}
theorem Tx.d (T : Tx w K mg) : He.SaysD fa fn K := by
  obtain ⟨h, X, G, c⟩ := T.ex
  exact c.t.d
theorem Tx.m (T : Tx w K mg) : extra K = true := by
  obtain ⟨h, X, G, c⟩ := T.ex
  exact c.more
theorem Tx.g_Unwritable (T : Tx w K mg) : mg "Unwritable" = some (.ref (He.ga K "Unwritable")) := by
  obtain ⟨h, X, G, c⟩ := T.ex
  exact He.glo_ok X G (c.t.d.fact 0 (f := .glo "Unwritable") rfl)
theorem Tx.g_Unreadable (T : Tx w K mg) : mg "Unreadable" = some (.ref (He.ga K "Unreadable")) := by
  obtain ⟨h, X, G, c⟩ := T.ex
  exact He.glo_ok X G (c.t.d.fact 1 (f := .glo "Unreadable") rfl)
theorem Tx.g_Refused (T : Tx w K mg) : mg "Refused" = some (.ref (He.ga K "Refused")) := by
  obtain ⟨h, X, G, c⟩ := T.ex
  exact He.glo_ok X G (c.t.d.fact 2 (f := .glo "Refused") rfl)
theorem Tx.g_Table (T : Tx w K mg) : mg "Table" = some (.ref (He.ga K "Table")) := by
  obtain ⟨h, X, G, c⟩ := T.ex
  exact He.glo_ok X G (c.t.d.fact 3 (f := .glo "Table") rfl)
theorem Tx.g_Writer (T : Tx w K mg) : mg "Writer" = some (.ref (He.ga K "Writer")) := by
  obtain ⟨h, X, G, c⟩ := T.ex
  exact He.glo_ok X G (c.t.d.fact 4 (f := .glo "Writer") rfl)
theorem Tx.g_Reader (T : Tx w K mg) : mg "Reader" = some (.ref (He.ga K "Reader")) := by
  obtain ⟨h, X, G, c⟩ := T.ex
  exact He.glo_ok X G (c.t.d.fact 5 (f := .glo "Reader") rfl)
theorem Tx.g_Passage (T : Tx w K mg) : mg "Passage" = some (.ref (He.ga K "Passage")) := by
  obtain ⟨h, X, G, c⟩ := T.ex
  exact He.glo_ok X G (c.t.d.fact 6 (f := .glo "Passage") rfl)
theorem Tx.g_is_integer (T : Tx w K mg) : mg "is_integer" = some (.ref (He.ga K "is_integer")) := by
  obtain ⟨h, X, G, c⟩ := T.ex
  exact He.glo_ok X G (c.t.d.fact 7 (f := .glo "is_integer") rfl)
theorem Tx.g_kind (T : Tx w K mg) : mg "kind" = some (.ref (He.ga K "kind")) := by
  obtain ⟨h, X, G, c⟩ := T.ex
  exact He.glo_ok X G (c.t.d.fact 8 (f := .glo "kind") rfl)
theorem Tx.g_fresh (T : Tx w K mg) : mg "fresh" = some (.ref (He.ga K "fresh")) := by
  obtain ⟨h, X, G, c⟩ := T.ex
  exact He.glo_ok X G (c.t.d.fact 9 (f := .glo "fresh") rfl)
theorem Tx.g_same_rows (T : Tx w K mg) : mg "same_rows" = some (.ref (He.ga K "same_rows")) := by
  obtain ⟨h, X, G, c⟩ := T.ex
  exact He.glo_ok X G (c.t.d.fact 10 (f := .glo "same_rows") rfl)
theorem Tx.g_same_tables (T : Tx w K mg) : mg "same_tables" = some (.ref (He.ga K "same_tables")) := by
  obtain ⟨h, X, G, c⟩ := T.ex
  exact He.glo_ok X G (c.t.d.fact 11 (f := .glo "same_tables") rfl)
theorem Tx.g_same (T : Tx w K mg) : mg "same" = some (.ref (He.ga K "same")) := by
  obtain ⟨h, X, G, c⟩ := T.ex
  exact He.glo_ok X G (c.t.d.fact 12 (f := .glo "same") rfl)
theorem Tx.g_confusable_pairs (T : Tx w K mg) : mg "confusable_pairs" = some (.ref (He.ga K "confusable_pairs")) := by
  obtain ⟨h, X, G, c⟩ := T.ex
  exact He.glo_ok X G (c.t.d.fact 13 (f := .glo "confusable_pairs") rfl)
theorem Tx.g_what_comes_back (T : Tx w K mg) : mg "what_comes_back" = some (.ref (He.ga K "what_comes_back")) := by
  obtain ⟨h, X, G, c⟩ := T.ex
  exact He.glo_ok X G (c.t.d.fact 14 (f := .glo "what_comes_back") rfl)
theorem Tx.g_confused (T : Tx w K mg) : mg "confused" = some (.ref (He.ga K "confused")) := by
  obtain ⟨h, X, G, c⟩ := T.ex
  exact He.glo_ok X G (c.t.d.fact 15 (f := .glo "confused") rfl)
theorem Tx.g_key_text (T : Tx w K mg) : mg "key_text" = some (.ref (He.ga K "key_text")) := by
  obtain ⟨h, X, G, c⟩ := T.ex
  exact He.glo_ok X G (c.t.d.fact 16 (f := .glo "key_text") rfl)
theorem Tx.g_is_digit_key (T : Tx w K mg) : mg "is_digit_key" = some (.ref (He.ga K "is_digit_key")) := by
  obtain ⟨h, X, G, c⟩ := T.ex
  exact He.glo_ok X G (c.t.d.fact 17 (f := .glo "is_digit_key") rfl)
theorem Tx.g_check_options (T : Tx w K mg) : mg "check_options" = some (.ref (He.ga K "check_options")) := by
  obtain ⟨h, X, G, c⟩ := T.ex
  exact He.glo_ok X G (c.t.d.fact 18 (f := .glo "check_options") rfl)
theorem Tx.g__law_source (T : Tx w K mg) : mg "_law_source" = some (.ref (He.ga K "_law_source")) := by
  obtain ⟨h, X, G, c⟩ := T.ex
  exact He.glo_ok X G (c.t.d.fact 19 (f := .glo "_law_source") rfl)
theorem Tx.g__law_draw (T : Tx w K mg) : mg "_law_draw" = some (.ref (He.ga K "_law_draw")) := by
  obtain ⟨h, X, G, c⟩ := T.ex
  exact He.glo_ok X G (c.t.d.fact 20 (f := .glo "_law_draw") rfl)
theorem Tx.g__law_pick (T : Tx w K mg) : mg "_law_pick" = some (.ref (He.ga K "_law_pick")) := by
  obtain ⟨h, X, G, c⟩ := T.ex
  exact He.glo_ok X G (c.t.d.fact 21 (f := .glo "_law_pick") rfl)
theorem Tx.g__law_word (T : Tx w K mg) : mg "_law_word" = some (.ref (He.ga K "_law_word")) := by
  obtain ⟨h, X, G, c⟩ := T.ex
  exact He.glo_ok X G (c.t.d.fact 22 (f := .glo "_law_word") rfl)
theorem Tx.g__law_text_key (T : Tx w K mg) : mg "_law_text_key" = some (.ref (He.ga K "_law_text_key")) := by
  obtain ⟨h, X, G, c⟩ := T.ex
  exact He.glo_ok X G (c.t.d.fact 23 (f := .glo "_law_text_key") rfl)
theorem Tx.g__law_focus (T : Tx w K mg) : mg "_law_focus" = some (.ref (He.ga K "_law_focus")) := by
  obtain ⟨h, X, G, c⟩ := T.ex
  exact He.glo_ok X G (c.t.d.fact 24 (f := .glo "_law_focus") rfl)
theorem Tx.g__law_is_number (T : Tx w K mg) : mg "_law_is_number" = some (.ref (He.ga K "_law_is_number")) := by
  obtain ⟨h, X, G, c⟩ := T.ex
  exact He.glo_ok X G (c.t.d.fact 25 (f := .glo "_law_is_number") rfl)
theorem Tx.g__law_twins (T : Tx w K mg) : mg "_law_twins" = some (.ref (He.ga K "_law_twins")) := by
  obtain ⟨h, X, G, c⟩ := T.ex
  exact He.glo_ok X G (c.t.d.fact 26 (f := .glo "_law_twins") rfl)
theorem Tx.g__law_atoms (T : Tx w K mg) : mg "_law_atoms" = some (.ref (He.ga K "_law_atoms")) := by
  obtain ⟨h, X, G, c⟩ := T.ex
  exact He.glo_ok X G (c.t.d.fact 27 (f := .glo "_law_atoms") rfl)
theorem Tx.g__law_scalar (T : Tx w K mg) : mg "_law_scalar" = some (.ref (He.ga K "_law_scalar")) := by
  obtain ⟨h, X, G, c⟩ := T.ex
  exact He.glo_ok X G (c.t.d.fact 28 (f := .glo "_law_scalar") rfl)
theorem Tx.g__law_key (T : Tx w K mg) : mg "_law_key" = some (.ref (He.ga K "_law_key")) := by
  obtain ⟨h, X, G, c⟩ := T.ex
  exact He.glo_ok X G (c.t.d.fact 29 (f := .glo "_law_key") rfl)
theorem Tx.g__law_value (T : Tx w K mg) : mg "_law_value" = some (.ref (He.ga K "_law_value")) := by
  obtain ⟨h, X, G, c⟩ := T.ex
  exact He.glo_ok X G (c.t.d.fact 30 (f := .glo "_law_value") rfl)
theorem Tx.g__law_table (T : Tx w K mg) : mg "_law_table" = some (.ref (He.ga K "_law_table")) := by
  obtain ⟨h, X, G, c⟩ := T.ex
  exact He.glo_ok X G (c.t.d.fact 31 (f := .glo "_law_table") rfl)
theorem Tx.g__law_parts (T : Tx w K mg) : mg "_law_parts" = some (.ref (He.ga K "_law_parts")) := by
  obtain ⟨h, X, G, c⟩ := T.ex
  exact He.glo_ok X G (c.t.d.fact 32 (f := .glo "_law_parts") rfl)
theorem Tx.g__law_passage (T : Tx w K mg) : mg "_law_passage" = some (.ref (He.ga K "_law_passage")) := by
  obtain ⟨h, X, G, c⟩ := T.ex
  exact He.glo_ok X G (c.t.d.fact 33 (f := .glo "_law_passage") rfl)
theorem Tx.g__law_near_row (T : Tx w K mg) : mg "_law_near_row" = some (.ref (He.ga K "_law_near_row")) := by
  obtain ⟨h, X, G, c⟩ := T.ex
  exact He.glo_ok X G (c.t.d.fact 34 (f := .glo "_law_near_row") rfl)
theorem Tx.g__law_near_table (T : Tx w K mg) : mg "_law_near_table" = some (.ref (He.ga K "_law_near_table")) := by
  obtain ⟨h, X, G, c⟩ := T.ex
  exact He.glo_ok X G (c.t.d.fact 35 (f := .glo "_law_near_table") rfl)
theorem Tx.g__law_near (T : Tx w K mg) : mg "_law_near" = some (.ref (He.ga K "_law_near")) := by
  obtain ⟨h, X, G, c⟩ := T.ex
  exact He.glo_ok X G (c.t.d.fact 36 (f := .glo "_law_near") rfl)
theorem Tx.g__law_strict (T : Tx w K mg) : mg "_law_strict" = some (.ref (He.ga K "_law_strict")) := by
  obtain ⟨h, X, G, c⟩ := T.ex
  exact He.glo_ok X G (c.t.d.fact 37 (f := .glo "_law_strict") rfl)
theorem Tx.g__law_turned (T : Tx w K mg) : mg "_law_turned" = some (.ref (He.ga K "_law_turned")) := by
  obtain ⟨h, X, G, c⟩ := T.ex
  exact He.glo_ok X G (c.t.d.fact 38 (f := .glo "_law_turned") rfl)
theorem Tx.g__law_spelt (T : Tx w K mg) : mg "_law_spelt" = some (.ref (He.ga K "_law_spelt")) := by
  obtain ⟨h, X, G, c⟩ := T.ex
  exact He.glo_ok X G (c.t.d.fact 39 (f := .glo "_law_spelt") rfl)
theorem Tx.g__law_beside (T : Tx w K mg) : mg "_law_beside" = some (.ref (He.ga K "_law_beside")) := by
  obtain ⟨h, X, G, c⟩ := T.ex
  exact He.glo_ok X G (c.t.d.fact 40 (f := .glo "_law_beside") rfl)
theorem Tx.g__law_back (T : Tx w K mg) : mg "_law_back" = some (.ref (He.ga K "_law_back")) := by
  obtain ⟨h, X, G, c⟩ := T.ex
  exact He.glo_ok X G (c.t.d.fact 41 (f := .glo "_law_back") rfl)
theorem Tx.g__law_confuses (T : Tx w K mg) : mg "_law_confuses" = some (.ref (He.ga K "_law_confuses")) := by
  obtain ⟨h, X, G, c⟩ := T.ex
  exact He.glo_ok X G (c.t.d.fact 42 (f := .glo "_law_confuses") rfl)
theorem Tx.g_law (T : Tx w K mg) : mg "law" = some (.ref (He.ga K "law")) := by
  obtain ⟨h, X, G, c⟩ := T.ex
  exact He.glo_ok X G (c.t.d.fact 43 (f := .glo "law") rfl)
theorem Tx.a_Unwritable_reason (T : Tx w K mg) : NoAttr K (He.ga K "Unwritable") "reason" := He.noat_ok (T.d.fact 44 (f := .noat "Unwritable" "reason") rfl)
theorem Tx.a_Unwritable_path (T : Tx w K mg) : NoAttr K (He.ga K "Unwritable") "path" := He.noat_ok (T.d.fact 45 (f := .noat "Unwritable" "path") rfl)
theorem Tx.exm_Unwritable (T : Tx w K mg) : PySem.W.exmOne K (.ref (He.ga K "Unwritable")) (.ref (He.ga K "Unwritable")) = some true := He.exm_ok (T.d.fact 46 (f := .exm "Unwritable" "Unwritable" true) rfl)
theorem Tx.a_Unreadable_reason (T : Tx w K mg) : NoAttr K (He.ga K "Unreadable") "reason" := He.noat_ok (T.d.fact 47 (f := .noat "Unreadable" "reason") rfl)
theorem Tx.a_Unreadable_path (T : Tx w K mg) : NoAttr K (He.ga K "Unreadable") "path" := He.noat_ok (T.d.fact 48 (f := .noat "Unreadable" "path") rfl)
theorem Tx.exm_Unreadable (T : Tx w K mg) : PySem.W.exmOne K (.ref (He.ga K "Unreadable")) (.ref (He.ga K "Unreadable")) = some true := He.exm_ok (T.d.fact 49 (f := .exm "Unreadable" "Unreadable" true) rfl)
theorem Tx.a_Refused_side (T : Tx w K mg) : NoAttr K (He.ga K "Refused") "side" := He.noat_ok (T.d.fact 50 (f := .noat "Refused" "side") rfl)
theorem Tx.a_Refused_reason (T : Tx w K mg) : NoAttr K (He.ga K "Refused") "reason" := He.noat_ok (T.d.fact 51 (f := .noat "Refused" "reason") rfl)
theorem Tx.a_Refused_path (T : Tx w K mg) : NoAttr K (He.ga K "Refused") "path" := He.noat_ok (T.d.fact 52 (f := .noat "Refused" "path") rfl)
theorem Tx.exm_Refused (T : Tx w K mg) : PySem.W.exmOne K (.ref (He.ga K "Refused")) (.ref (He.ga K "Refused")) = some true := He.exm_ok (T.d.fact 53 (f := .exm "Refused" "Refused" true) rfl)
theorem Tx.cl_Table (T : Tx w K mg) : Cls K (He.ga K "Table") := He.cls_ok (T.d.fact 54 (f := .cls "Table") rfl)
theorem Tx.mk_Table (T : Tx w K mg) : Mk K (He.ga K "Table") (He.ma K (He.ga K "Table") "__init__") := He.mkr_ok (T.d.fact 55 (f := .mkr "Table") rfl)
theorem Tx.a_Table_held (T : Tx w K mg) : NoAttr K (He.ga K "Table") "held" := He.noat_ok (T.d.fact 56 (f := .noat "Table" "held") rfl)
theorem Tx.mk_Passage (T : Tx w K mg) : Mk K (He.ga K "Passage") (He.ma K (He.ga K "Passage") "__init__") := He.mkr_ok (T.d.fact 57 (f := .mkr "Passage") rfl)
theorem Tx.cl_Writer (T : Tx w K mg) : Cls K (He.ga K "Passage") := He.cls_ok (T.d.fact 58 (f := .cls "Passage") rfl)
theorem Tx.cl_Reader (T : Tx w K mg) : Cls K (He.ga K "Passage") := He.cls_ok (T.d.fact 59 (f := .cls "Passage") rfl)
theorem Tx.cl_Passage (T : Tx w K mg) : Cls K (He.ga K "Passage") := He.cls_ok (T.d.fact 60 (f := .cls "Passage") rfl)
theorem Tx.a_Writer_number_keys (T : Tx w K mg) : NoAttr K (He.ga K "Passage") "number_keys" := He.noat_ok (T.d.fact 61 (f := .noat "Passage" "number_keys") rfl)
theorem Tx.a_Writer_tuples (T : Tx w K mg) : NoAttr K (He.ga K "Passage") "tuples" := He.noat_ok (T.d.fact 62 (f := .noat "Passage" "tuples") rfl)
theorem Tx.a_Writer_nulls (T : Tx w K mg) : NoAttr K (He.ga K "Passage") "nulls" := He.noat_ok (T.d.fact 63 (f := .noat "Passage" "nulls") rfl)
theorem Tx.a_Writer_double_keys (T : Tx w K mg) : NoAttr K (He.ga K "Passage") "double_keys" := He.noat_ok (T.d.fact 64 (f := .noat "Passage" "double_keys") rfl)
theorem Tx.a_Writer_order (T : Tx w K mg) : NoAttr K (He.ga K "Passage") "order" := He.noat_ok (T.d.fact 65 (f := .noat "Passage" "order") rfl)
theorem Tx.a_Writer_long_numbers (T : Tx w K mg) : NoAttr K (He.ga K "Passage") "long_numbers" := He.noat_ok (T.d.fact 66 (f := .noat "Passage" "long_numbers") rfl)
theorem Tx.a_Reader_same_keys (T : Tx w K mg) : NoAttr K (He.ga K "Passage") "same_keys" := He.noat_ok (T.d.fact 67 (f := .noat "Passage" "same_keys") rfl)
theorem Tx.a_Reader_digit_keys (T : Tx w K mg) : NoAttr K (He.ga K "Passage") "digit_keys" := He.noat_ok (T.d.fact 68 (f := .noat "Passage" "digit_keys") rfl)
theorem Tx.a_Reader_lists (T : Tx w K mg) : NoAttr K (He.ga K "Passage") "lists" := He.noat_ok (T.d.fact 69 (f := .noat "Passage" "lists") rfl)
theorem Tx.a_Reader_null_items (T : Tx w K mg) : NoAttr K (He.ga K "Passage") "null_items" := He.noat_ok (T.d.fact 70 (f := .noat "Passage" "null_items") rfl)
theorem Tx.m_Table_entries (T : Tx w K mg) : Meth K (He.ga K "Table") "entries" (He.ma K (He.ga K "Table") "entries") := He.meth_ok (T.d.fact 71 (f := .meth "Table" "entries") rfl)
theorem Tx.m_Table_with_entry (T : Tx w K mg) : Meth K (He.ga K "Table") "with_entry" (He.ma K (He.ga K "Table") "with_entry") := He.meth_ok (T.d.fact 72 (f := .meth "Table" "with_entry") rfl)
theorem Tx.m_Passage_carry (T : Tx w K mg) : Meth K (He.ga K "Passage") "carry" (He.ma K (He.ga K "Passage") "carry") := He.meth_ok (T.d.fact 73 (f := .meth "Passage" "carry") rfl)
theorem Tx.m_PWriter_raw (T : Tx w K mg) : Meth K (He.ga K "Passage") "raw" (He.ma K (He.ga K "Passage") "raw") := He.meth_ok (T.d.fact 74 (f := .meth "Passage" "raw") rfl)
theorem Tx.m_PWriter_raw_at (T : Tx w K mg) : Meth K (He.ga K "Passage") "raw_at" (He.ma K (He.ga K "Passage") "raw_at") := He.meth_ok (T.d.fact 75 (f := .meth "Passage" "raw_at") rfl)
theorem Tx.m_PWriter_kept_entries (T : Tx w K mg) : Meth K (He.ga K "Passage") "kept_entries" (He.ma K (He.ga K "Passage") "kept_entries") := He.meth_ok (T.d.fact 76 (f := .meth "Passage" "kept_entries") rfl)
theorem Tx.m_PWriter_raw_pairs (T : Tx w K mg) : Meth K (He.ga K "Passage") "raw_pairs" (He.ma K (He.ga K "Passage") "raw_pairs") := He.meth_ok (T.d.fact 77 (f := .meth "Passage" "raw_pairs") rfl)
theorem Tx.m_PReader_build (T : Tx w K mg) : Meth K (He.ga K "Passage") "build" (He.ma K (He.ga K "Passage") "build") := He.meth_ok (T.d.fact 78 (f := .meth "Passage" "build") rfl)
theorem Tx.m_PReader_built_at (T : Tx w K mg) : Meth K (He.ga K "Passage") "built_at" (He.ma K (He.ga K "Passage") "built_at") := He.meth_ok (T.d.fact 79 (f := .meth "Passage" "built_at") rfl)
theorem Tx.m_PReader_built_table (T : Tx w K mg) : Meth K (He.ga K "Passage") "built_table" (He.ma K (He.ga K "Passage") "built_table") := He.meth_ok (T.d.fact 80 (f := .meth "Passage" "built_table") rfl)
theorem Tx.m_PReader_built_key (T : Tx w K mg) : Meth K (He.ga K "Passage") "built_key" (He.ma K (He.ga K "Passage") "built_key") := He.meth_ok (T.d.fact 81 (f := .meth "Passage" "built_key") rfl)
theorem Tx.LONG (T : Tx w K mg) : ∃ t, mg "LONG" = some (.int (10 ^ 15) t) := by
  obtain ⟨h, X, G, c⟩ := T.ex
  exact He.int_ok X G (c.t.d.fact 82 (f := .int "LONG" (10 ^ 15)) rfl)
theorem Tx.MOST_DIGITS (T : Tx w K mg) : ∃ t, mg "MOST_DIGITS" = some (.int 30 t) := by
  obtain ⟨h, X, G, c⟩ := T.ex
  exact He.int_ok X G (c.t.d.fact 83 (f := .int "MOST_DIGITS" 30) rfl)
theorem Tx.g_WRITER_OPTIONS (T : Tx w K mg) : mg "WRITER_OPTIONS" = some (.ref (He.ga K "WRITER_OPTIONS")) := by
  obtain ⟨h, X, G, c⟩ := T.ex
  exact He.glo_ok X G (c.t.d.fact 84 (f := .glo "WRITER_OPTIONS") rfl)
theorem Tx.g_READER_OPTIONS (T : Tx w K mg) : mg "READER_OPTIONS" = some (.ref (He.ga K "READER_OPTIONS")) := by
  obtain ⟨h, X, G, c⟩ := T.ex
  exact He.glo_ok X G (c.t.d.fact 85 (f := .glo "READER_OPTIONS") rfl)
theorem Tx.f_Unwritable_init (T : Tx w K mg) : ∃ fd, FunD K d_Unwritable_init.name d_Unwritable_init.qual (defArgs s_Unwritable_init) (defBody s_Unwritable_init) (defScope s_Unwritable_init) (d_Unwritable_init.dvs K) (d_Unwritable_init.kws K) (He.fAd K d_Unwritable_init.at_) fd := T.d.def_ 0 (d := d_Unwritable_init) rfl
theorem Tx.f_Unreadable_init (T : Tx w K mg) : ∃ fd, FunD K d_Unreadable_init.name d_Unreadable_init.qual (defArgs s_Unreadable_init) (defBody s_Unreadable_init) (defScope s_Unreadable_init) (d_Unreadable_init.dvs K) (d_Unreadable_init.kws K) (He.fAd K d_Unreadable_init.at_) fd := T.d.def_ 1 (d := d_Unreadable_init) rfl
theorem Tx.f_Refused_init (T : Tx w K mg) : ∃ fd, FunD K d_Refused_init.name d_Refused_init.qual (defArgs s_Refused_init) (defBody s_Refused_init) (defScope s_Refused_init) (d_Refused_init.dvs K) (d_Refused_init.kws K) (He.fAd K d_Refused_init.at_) fd := T.d.def_ 2 (d := d_Refused_init) rfl
theorem Tx.f_is_integer (T : Tx w K mg) : ∃ fd, FunD K d_is_integer.name d_is_integer.qual (defArgs s_is_integer) (defBody s_is_integer) (defScope s_is_integer) (d_is_integer.dvs K) (d_is_integer.kws K) (He.fAd K d_is_integer.at_) fd := T.d.def_ 3 (d := d_is_integer) rfl
theorem Tx.f_kind (T : Tx w K mg) : ∃ fd, FunD K d_kind.name d_kind.qual (defArgs s_kind) (defBody s_kind) (defScope s_kind) (d_kind.dvs K) (d_kind.kws K) (He.fAd K d_kind.at_) fd := T.d.def_ 4 (d := d_kind) rfl
theorem Tx.f_fresh (T : Tx w K mg) : ∃ fd, FunD K d_fresh.name d_fresh.qual (defArgs s_fresh) (defBody s_fresh) (defScope s_fresh) (d_fresh.dvs K) (d_fresh.kws K) (He.fAd K d_fresh.at_) fd := T.d.def_ 5 (d := d_fresh) rfl
theorem Tx.f_same_rows (T : Tx w K mg) : ∃ fd, FunD K d_same_rows.name d_same_rows.qual (defArgs s_same_rows) (defBody s_same_rows) (defScope s_same_rows) (d_same_rows.dvs K) (d_same_rows.kws K) (He.fAd K d_same_rows.at_) fd := T.d.def_ 6 (d := d_same_rows) rfl
theorem Tx.f_same_tables (T : Tx w K mg) : ∃ fd, FunD K d_same_tables.name d_same_tables.qual (defArgs s_same_tables) (defBody s_same_tables) (defScope s_same_tables) (d_same_tables.dvs K) (d_same_tables.kws K) (He.fAd K d_same_tables.at_) fd := T.d.def_ 7 (d := d_same_tables) rfl
theorem Tx.f_same (T : Tx w K mg) : ∃ fd, FunD K d_same.name d_same.qual (defArgs s_same) (defBody s_same) (defScope s_same) (d_same.dvs K) (d_same.kws K) (He.fAd K d_same.at_) fd := T.d.def_ 8 (d := d_same) rfl
theorem Tx.f_Table_init (T : Tx w K mg) : ∃ fd, FunD K d_Table_init.name d_Table_init.qual (defArgs s_Table_init) (defBody s_Table_init) (defScope s_Table_init) (d_Table_init.dvs K) (d_Table_init.kws K) (He.fAd K d_Table_init.at_) fd := T.d.def_ 9 (d := d_Table_init) rfl
theorem Tx.f_Table_entries (T : Tx w K mg) : ∃ fd, FunD K d_Table_entries.name d_Table_entries.qual (defArgs s_Table_entries) (defBody s_Table_entries) (defScope s_Table_entries) (d_Table_entries.dvs K) (d_Table_entries.kws K) (He.fAd K d_Table_entries.at_) fd := T.d.def_ 10 (d := d_Table_entries) rfl
theorem Tx.f_Table___len__ (T : Tx w K mg) : ∃ fd, FunD K d_Table___len__.name d_Table___len__.qual (defArgs s_Table___len__) (defBody s_Table___len__) (defScope s_Table___len__) (d_Table___len__.dvs K) (d_Table___len__.kws K) (He.fAd K d_Table___len__.at_) fd := T.d.def_ 11 (d := d_Table___len__) rfl
theorem Tx.f_Table___or__ (T : Tx w K mg) : ∃ fd, FunD K d_Table___or__.name d_Table___or__.qual (defArgs s_Table___or__) (defBody s_Table___or__) (defScope s_Table___or__) (d_Table___or__.dvs K) (d_Table___or__.kws K) (He.fAd K d_Table___or__.at_) fd := T.d.def_ 12 (d := d_Table___or__) rfl
theorem Tx.f_Table_with_entry (T : Tx w K mg) : ∃ fd, FunD K d_Table_with_entry.name d_Table_with_entry.qual (defArgs s_Table_with_entry) (defBody s_Table_with_entry) (defScope s_Table_with_entry) (d_Table_with_entry.dvs K) (d_Table_with_entry.kws K) (He.fAd K d_Table_with_entry.at_) fd := T.d.def_ 13 (d := d_Table_with_entry) rfl
theorem Tx.f_confusable_pairs (T : Tx w K mg) : ∃ fd, FunD K d_confusable_pairs.name d_confusable_pairs.qual (defArgs s_confusable_pairs) (defBody s_confusable_pairs) (defScope s_confusable_pairs) (d_confusable_pairs.dvs K) (d_confusable_pairs.kws K) (He.fAd K d_confusable_pairs.at_) fd := T.d.def_ 14 (d := d_confusable_pairs) rfl
theorem Tx.f_what_comes_back (T : Tx w K mg) : ∃ fd, FunD K d_what_comes_back.name d_what_comes_back.qual (defArgs s_what_comes_back) (defBody s_what_comes_back) (defScope s_what_comes_back) (d_what_comes_back.dvs K) (d_what_comes_back.kws K) (He.fAd K d_what_comes_back.at_) fd := T.d.def_ 15 (d := d_what_comes_back) rfl
theorem Tx.f_confused (T : Tx w K mg) : ∃ fd, FunD K d_confused.name d_confused.qual (defArgs s_confused) (defBody s_confused) (defScope s_confused) (d_confused.dvs K) (d_confused.kws K) (He.fAd K d_confused.at_) fd := T.d.def_ 16 (d := d_confused) rfl
theorem Tx.f_key_text (T : Tx w K mg) : ∃ fd, FunD K d_key_text.name d_key_text.qual (defArgs s_key_text) (defBody s_key_text) (defScope s_key_text) (d_key_text.dvs K) (d_key_text.kws K) (He.fAd K d_key_text.at_) fd := T.d.def_ 17 (d := d_key_text) rfl
theorem Tx.f_is_digit_key (T : Tx w K mg) : ∃ fd, FunD K d_is_digit_key.name d_is_digit_key.qual (defArgs s_is_digit_key) (defBody s_is_digit_key) (defScope s_is_digit_key) (d_is_digit_key.dvs K) (d_is_digit_key.kws K) (He.fAd K d_is_digit_key.at_) fd := T.d.def_ 18 (d := d_is_digit_key) rfl
theorem Tx.f_check_options (T : Tx w K mg) : ∃ fd, FunD K d_check_options.name d_check_options.qual (defArgs s_check_options) (defBody s_check_options) (defScope s_check_options) (d_check_options.dvs K) (d_check_options.kws K) (He.fAd K d_check_options.at_) fd := T.d.def_ 19 (d := d_check_options) rfl
theorem Tx.f_Writer_init (T : Tx w K mg) : ∃ fd, FunD K d_Writer_init.name d_Writer_init.qual (defArgs s_Writer_init) (defBody s_Writer_init) (defScope s_Writer_init) (d_Writer_init.dvs K) (d_Writer_init.kws K) (He.fAd K d_Writer_init.at_) fd := T.d.def_ 20 (d := d_Writer_init) rfl
theorem Tx.f_Writer_raw (T : Tx w K mg) : ∃ fd, FunD K d_Writer_raw.name d_Writer_raw.qual (defArgs s_Writer_raw) (defBody s_Writer_raw) (defScope s_Writer_raw) (d_Writer_raw.dvs K) (d_Writer_raw.kws K) (He.fAd K d_Writer_raw.at_) fd := T.d.def_ 21 (d := d_Writer_raw) rfl
theorem Tx.f_Writer_raw_at (T : Tx w K mg) : ∃ fd, FunD K d_Writer_raw_at.name d_Writer_raw_at.qual (defArgs s_Writer_raw_at) (defBody s_Writer_raw_at) (defScope s_Writer_raw_at) (d_Writer_raw_at.dvs K) (d_Writer_raw_at.kws K) (He.fAd K d_Writer_raw_at.at_) fd := T.d.def_ 22 (d := d_Writer_raw_at) rfl
theorem Tx.f_Writer_kept_entries (T : Tx w K mg) : ∃ fd, FunD K d_Writer_kept_entries.name d_Writer_kept_entries.qual (defArgs s_Writer_kept_entries) (defBody s_Writer_kept_entries) (defScope s_Writer_kept_entries) (d_Writer_kept_entries.dvs K) (d_Writer_kept_entries.kws K) (He.fAd K d_Writer_kept_entries.at_) fd := T.d.def_ 23 (d := d_Writer_kept_entries) rfl
theorem Tx.f_Writer_raw_pairs (T : Tx w K mg) : ∃ fd, FunD K d_Writer_raw_pairs.name d_Writer_raw_pairs.qual (defArgs s_Writer_raw_pairs) (defBody s_Writer_raw_pairs) (defScope s_Writer_raw_pairs) (d_Writer_raw_pairs.dvs K) (d_Writer_raw_pairs.kws K) (He.fAd K d_Writer_raw_pairs.at_) fd := T.d.def_ 24 (d := d_Writer_raw_pairs) rfl
theorem Tx.f_Reader_init (T : Tx w K mg) : ∃ fd, FunD K d_Reader_init.name d_Reader_init.qual (defArgs s_Reader_init) (defBody s_Reader_init) (defScope s_Reader_init) (d_Reader_init.dvs K) (d_Reader_init.kws K) (He.fAd K d_Reader_init.at_) fd := T.d.def_ 25 (d := d_Reader_init) rfl
theorem Tx.f_Reader_build (T : Tx w K mg) : ∃ fd, FunD K d_Reader_build.name d_Reader_build.qual (defArgs s_Reader_build) (defBody s_Reader_build) (defScope s_Reader_build) (d_Reader_build.dvs K) (d_Reader_build.kws K) (He.fAd K d_Reader_build.at_) fd := T.d.def_ 26 (d := d_Reader_build) rfl
theorem Tx.f_Reader_built_at (T : Tx w K mg) : ∃ fd, FunD K d_Reader_built_at.name d_Reader_built_at.qual (defArgs s_Reader_built_at) (defBody s_Reader_built_at) (defScope s_Reader_built_at) (d_Reader_built_at.dvs K) (d_Reader_built_at.kws K) (He.fAd K d_Reader_built_at.at_) fd := T.d.def_ 27 (d := d_Reader_built_at) rfl
theorem Tx.f_Reader_built_table (T : Tx w K mg) : ∃ fd, FunD K d_Reader_built_table.name d_Reader_built_table.qual (defArgs s_Reader_built_table) (defBody s_Reader_built_table) (defScope s_Reader_built_table) (d_Reader_built_table.dvs K) (d_Reader_built_table.kws K) (He.fAd K d_Reader_built_table.at_) fd := T.d.def_ 28 (d := d_Reader_built_table) rfl
theorem Tx.f_Reader_built_key (T : Tx w K mg) : ∃ fd, FunD K d_Reader_built_key.name d_Reader_built_key.qual (defArgs s_Reader_built_key) (defBody s_Reader_built_key) (defScope s_Reader_built_key) (d_Reader_built_key.dvs K) (d_Reader_built_key.kws K) (He.fAd K d_Reader_built_key.at_) fd := T.d.def_ 29 (d := d_Reader_built_key) rfl
theorem Tx.f_Passage_init (T : Tx w K mg) : ∃ fd, FunD K d_Passage_init.name d_Passage_init.qual (defArgs s_Passage_init) (defBody s_Passage_init) (defScope s_Passage_init) (d_Passage_init.dvs K) (d_Passage_init.kws K) (He.fAd K d_Passage_init.at_) fd := T.d.def_ 30 (d := d_Passage_init) rfl
theorem Tx.f_Passage_carry (T : Tx w K mg) : ∃ fd, FunD K d_Passage_carry.name d_Passage_carry.qual (defArgs s_Passage_carry) (defBody s_Passage_carry) (defScope s_Passage_carry) (d_Passage_carry.dvs K) (d_Passage_carry.kws K) (He.fAd K d_Passage_carry.at_) fd := T.d.def_ 31 (d := d_Passage_carry) rfl
theorem Tx.f__law_source (T : Tx w K mg) : ∃ fd, FunD K d__law_source.name d__law_source.qual (defArgs s__law_source) (defBody s__law_source) (defScope s__law_source) (d__law_source.dvs K) (d__law_source.kws K) (He.fAd K d__law_source.at_) fd := T.d.def_ 32 (d := d__law_source) rfl
theorem Tx.f__law_draw (T : Tx w K mg) : ∃ fd, FunD K d__law_draw.name d__law_draw.qual (defArgs s__law_draw) (defBody s__law_draw) (defScope s__law_draw) (d__law_draw.dvs K) (d__law_draw.kws K) (He.fAd K d__law_draw.at_) fd := T.d.def_ 33 (d := d__law_draw) rfl
theorem Tx.f__law_pick (T : Tx w K mg) : ∃ fd, FunD K d__law_pick.name d__law_pick.qual (defArgs s__law_pick) (defBody s__law_pick) (defScope s__law_pick) (d__law_pick.dvs K) (d__law_pick.kws K) (He.fAd K d__law_pick.at_) fd := T.d.def_ 34 (d := d__law_pick) rfl
theorem Tx.f__law_word (T : Tx w K mg) : ∃ fd, FunD K d__law_word.name d__law_word.qual (defArgs s__law_word) (defBody s__law_word) (defScope s__law_word) (d__law_word.dvs K) (d__law_word.kws K) (He.fAd K d__law_word.at_) fd := T.d.def_ 35 (d := d__law_word) rfl
theorem Tx.f__law_text_key (T : Tx w K mg) : ∃ fd, FunD K d__law_text_key.name d__law_text_key.qual (defArgs s__law_text_key) (defBody s__law_text_key) (defScope s__law_text_key) (d__law_text_key.dvs K) (d__law_text_key.kws K) (He.fAd K d__law_text_key.at_) fd := T.d.def_ 36 (d := d__law_text_key) rfl
theorem Tx.f__law_focus (T : Tx w K mg) : ∃ fd, FunD K d__law_focus.name d__law_focus.qual (defArgs s__law_focus) (defBody s__law_focus) (defScope s__law_focus) (d__law_focus.dvs K) (d__law_focus.kws K) (He.fAd K d__law_focus.at_) fd := T.d.def_ 37 (d := d__law_focus) rfl
theorem Tx.f__law_is_number (T : Tx w K mg) : ∃ fd, FunD K d__law_is_number.name d__law_is_number.qual (defArgs s__law_is_number) (defBody s__law_is_number) (defScope s__law_is_number) (d__law_is_number.dvs K) (d__law_is_number.kws K) (He.fAd K d__law_is_number.at_) fd := T.d.def_ 38 (d := d__law_is_number) rfl
theorem Tx.f__law_twins (T : Tx w K mg) : ∃ fd, FunD K d__law_twins.name d__law_twins.qual (defArgs s__law_twins) (defBody s__law_twins) (defScope s__law_twins) (d__law_twins.dvs K) (d__law_twins.kws K) (He.fAd K d__law_twins.at_) fd := T.d.def_ 39 (d := d__law_twins) rfl
theorem Tx.f__law_atoms (T : Tx w K mg) : ∃ fd, FunD K d__law_atoms.name d__law_atoms.qual (defArgs s__law_atoms) (defBody s__law_atoms) (defScope s__law_atoms) (d__law_atoms.dvs K) (d__law_atoms.kws K) (He.fAd K d__law_atoms.at_) fd := T.d.def_ 40 (d := d__law_atoms) rfl
theorem Tx.f__law_scalar (T : Tx w K mg) : ∃ fd, FunD K d__law_scalar.name d__law_scalar.qual (defArgs s__law_scalar) (defBody s__law_scalar) (defScope s__law_scalar) (d__law_scalar.dvs K) (d__law_scalar.kws K) (He.fAd K d__law_scalar.at_) fd := T.d.def_ 41 (d := d__law_scalar) rfl
theorem Tx.f__law_key (T : Tx w K mg) : ∃ fd, FunD K d__law_key.name d__law_key.qual (defArgs s__law_key) (defBody s__law_key) (defScope s__law_key) (d__law_key.dvs K) (d__law_key.kws K) (He.fAd K d__law_key.at_) fd := T.d.def_ 42 (d := d__law_key) rfl
theorem Tx.f__law_value (T : Tx w K mg) : ∃ fd, FunD K d__law_value.name d__law_value.qual (defArgs s__law_value) (defBody s__law_value) (defScope s__law_value) (d__law_value.dvs K) (d__law_value.kws K) (He.fAd K d__law_value.at_) fd := T.d.def_ 43 (d := d__law_value) rfl
theorem Tx.f__law_table (T : Tx w K mg) : ∃ fd, FunD K d__law_table.name d__law_table.qual (defArgs s__law_table) (defBody s__law_table) (defScope s__law_table) (d__law_table.dvs K) (d__law_table.kws K) (He.fAd K d__law_table.at_) fd := T.d.def_ 44 (d := d__law_table) rfl
theorem Tx.f__law_parts (T : Tx w K mg) : ∃ fd, FunD K d__law_parts.name d__law_parts.qual (defArgs s__law_parts) (defBody s__law_parts) (defScope s__law_parts) (d__law_parts.dvs K) (d__law_parts.kws K) (He.fAd K d__law_parts.at_) fd := T.d.def_ 45 (d := d__law_parts) rfl
theorem Tx.f__law_passage (T : Tx w K mg) : ∃ fd, FunD K d__law_passage.name d__law_passage.qual (defArgs s__law_passage) (defBody s__law_passage) (defScope s__law_passage) (d__law_passage.dvs K) (d__law_passage.kws K) (He.fAd K d__law_passage.at_) fd := T.d.def_ 46 (d := d__law_passage) rfl
theorem Tx.f__law_near_row (T : Tx w K mg) : ∃ fd, FunD K d__law_near_row.name d__law_near_row.qual (defArgs s__law_near_row) (defBody s__law_near_row) (defScope s__law_near_row) (d__law_near_row.dvs K) (d__law_near_row.kws K) (He.fAd K d__law_near_row.at_) fd := T.d.def_ 47 (d := d__law_near_row) rfl
theorem Tx.f__law_near_table (T : Tx w K mg) : ∃ fd, FunD K d__law_near_table.name d__law_near_table.qual (defArgs s__law_near_table) (defBody s__law_near_table) (defScope s__law_near_table) (d__law_near_table.dvs K) (d__law_near_table.kws K) (He.fAd K d__law_near_table.at_) fd := T.d.def_ 48 (d := d__law_near_table) rfl
theorem Tx.f__law_near (T : Tx w K mg) : ∃ fd, FunD K d__law_near.name d__law_near.qual (defArgs s__law_near) (defBody s__law_near) (defScope s__law_near) (d__law_near.dvs K) (d__law_near.kws K) (He.fAd K d__law_near.at_) fd := T.d.def_ 49 (d := d__law_near) rfl
theorem Tx.f__law_strict (T : Tx w K mg) : ∃ fd, FunD K d__law_strict.name d__law_strict.qual (defArgs s__law_strict) (defBody s__law_strict) (defScope s__law_strict) (d__law_strict.dvs K) (d__law_strict.kws K) (He.fAd K d__law_strict.at_) fd := T.d.def_ 50 (d := d__law_strict) rfl
theorem Tx.f__law_turned (T : Tx w K mg) : ∃ fd, FunD K d__law_turned.name d__law_turned.qual (defArgs s__law_turned) (defBody s__law_turned) (defScope s__law_turned) (d__law_turned.dvs K) (d__law_turned.kws K) (He.fAd K d__law_turned.at_) fd := T.d.def_ 51 (d := d__law_turned) rfl
theorem Tx.f__law_spelt (T : Tx w K mg) : ∃ fd, FunD K d__law_spelt.name d__law_spelt.qual (defArgs s__law_spelt) (defBody s__law_spelt) (defScope s__law_spelt) (d__law_spelt.dvs K) (d__law_spelt.kws K) (He.fAd K d__law_spelt.at_) fd := T.d.def_ 52 (d := d__law_spelt) rfl
theorem Tx.f__law_beside (T : Tx w K mg) : ∃ fd, FunD K d__law_beside.name d__law_beside.qual (defArgs s__law_beside) (defBody s__law_beside) (defScope s__law_beside) (d__law_beside.dvs K) (d__law_beside.kws K) (He.fAd K d__law_beside.at_) fd := T.d.def_ 53 (d := d__law_beside) rfl
theorem Tx.f__law_back (T : Tx w K mg) : ∃ fd, FunD K d__law_back.name d__law_back.qual (defArgs s__law_back) (defBody s__law_back) (defScope s__law_back) (d__law_back.dvs K) (d__law_back.kws K) (He.fAd K d__law_back.at_) fd := T.d.def_ 54 (d := d__law_back) rfl
theorem Tx.f__law_confuses (T : Tx w K mg) : ∃ fd, FunD K d__law_confuses.name d__law_confuses.qual (defArgs s__law_confuses) (defBody s__law_confuses) (defScope s__law_confuses) (d__law_confuses.dvs K) (d__law_confuses.kws K) (He.fAd K d__law_confuses.at_) fd := T.d.def_ 55 (d := d__law_confuses) rfl
theorem Tx.f_law (T : Tx w K mg) : ∃ fd, FunD K d_law.name d_law.qual (defArgs s_law) (defBody s_law) (defScope s_law) (d_law.dvs K) (d_law.kws K) (He.fAd K d_law.at_) fd := T.d.def_ 56 (d := d_law) rfl
end
abbrev R : PySem.W.OpenRow := PySem.W.OpenLaw.row PySem.Challenge.rw_keysthroughtext_k85_whole_nothing_is_con
abbrev hk : PySem.W.Hook := hookY 6 fa fn tf extra
def ob (s : PySem.W.SharedT) : He.AlX := obsY 6 fa fn tf extra (HandSHeadRun.getT s)
theorem ob_eq (s : PySem.W.SharedT) : ob s = hk.obs s.abs := obsY_eq (HandSHeadRun.getT_eq s)
abbrev looseN : List Str := (["_wall", "KeysError", "BadKey", "DoubleKey", "NoKey", "NotText", "TooDeep", "BadOption", "Unwritable", "Unreadable", "Refused", "is_integer"] : List Str) ++ (["kind", "fresh", "same_rows", "same_tables", "same", "Table", "LONG", "confusable_pairs", "what_comes_back", "confused", "DEEPEST", "MOST_DIGITS"] : List Str) ++ (["WORDS", "render_string", "render", "Scanner", "parse", "WRITER_OPTIONS", "READER_OPTIONS", "key_text", "is_digit_key", "check_options", "Writer", "Reader"] : List Str) ++ (["Passage", "_law_source", "_law_draw", "_law_pick", "_law_word", "_law_text_key", "_law_focus", "_law_is_number", "_law_twins", "_law_atoms", "_law_scalar", "_law_key"] : List Str) ++ (["_law_value", "_law_table", "_law_parts", "_law_passage", "_law_near_row", "_law_near_table", "_law_near", "_law_strict", "_law_turned", "_law_spelt", "_law_beside", "_law_back"] : List Str) ++ (["_law_confuses"] : List Str)
theorem runf (w : World) : HandSHeadRun.RunEq R (PySem.W.view R.prog [68]) hk ob 90000 looseN (w.withFollow "special-get-raises" false) := by
  intro os
  kernel_rfl
theorem runt (w : World) : HandSHeadRun.RunEq R (PySem.W.view R.prog [68]) hk ob 90000 looseN (w.withFollow "special-get-raises" true) := by
  intro os
  kernel_rfl
theorem run (w : World) : HandSHeadRun.RunEq R (PySem.W.view R.prog [68]) hk ob 90000 looseN w :=
  PySem.W.byRow2 "special-get-raises" (P := fun w => HandSHeadRun.RunEq R (PySem.W.view R.prog [68]) hk ob 90000 looseN w) runf runt w
section
variable {w : World} {K : PySem.W.Frag} {mg : Str → Option Value}
theorem band {a b : Bool} (h : (a && b) = true) : a = true ∧ b = true := Bool.and_eq_true_iff.mp h
theorem Tx.exA (T : Tx w K mg) {x : Str} (h : x ∈ errN) : ExAll K (He.ga K x) (He.ma K (He.ga K x) "__init__") := exAllB_ok (List.all_eq_true.mp (band T.m).1 x h)
theorem Tx.ex' (T : Tx w K mg) : ExAll K (He.ga K "Unwritable") (He.ma K (He.ga K "Unwritable") "__init__") := T.exA (by simp [errN])
theorem opB_ok {x : Str} {l : List (Str × List Str)} (h : opB K x l = true) (H : Hp) : SqT K H (He.ga K x) ((List.range l.length).map fun j => .ref (opI K x j)) ∧ ∀ j, j < l.length → SqT K H (opI K x j) [.str (l.getD j ("", [])).1, .ref (itA K (opI K x j) 1)] ∧ SqT K H (itA K (opI K x j) 1) ((l.getD j ("", [])).2.map V.str) := by
  obtain ⟨h1, h2⟩ := band h
  exact ⟨ktB_ok h1 H, fun j hj => ⟨ktB_ok (band (List.all_eq_true.mp h2 j (List.mem_range.mpr hj))).1 H, ktB_ok (band (List.all_eq_true.mp h2 j (List.mem_range.mpr hj))).2 H⟩⟩
def Tx.wo (T : Tx w K mg) (H : Hp) := opB_ok (band (band T.m).2).1 H
def Tx.ro (T : Tx w K mg) (H : Hp) := opB_ok (band (band (band (band (band (band T.m).2).2).2).2).2).1 H
theorem Tx.kT (T : Tx w K mg) {t : String} (h : t ∈ tyN) : PySem.W.kitOne K (.type t) (.ref (He.ga K "Table")) = some false := of_decide_eq_true (band (List.all_eq_true.mp (band (band (band (band T.m).2).2).1).1 t h)).1
theorem Tx.kTb (T : Tx w K mg) {t : String} (h : t ∈ tyN) : PySem.W.kitOne K (.ref (He.ga K "Table")) (.type t) = some false := of_decide_eq_true (band (List.all_eq_true.mp (band (band (band (band T.m).2).2).1).1 t h)).2
theorem Tx.kTT (T : Tx w K mg) : PySem.W.kitOne K (.ref (He.ga K "Table")) (.ref (He.ga K "Table")) = some true := of_decide_eq_true (band (band (band (band T.m).2).2).1).2
theorem Tx.insT (T : Tx w K mg) {H : Hp} {a dx : Addr} {fs : List (Str × V)} (e : H a = some (.ins (He.ga K "Table") dx fs)) : TyOf K H (.ref a) (.ref (He.ga K "Table")) := by
  have h := (band (band (band (band T.m).2).2).2).1
  obtain ⟨h1, h⟩ := band h
  obtain ⟨h2, h⟩ := band h
  obtain ⟨h3, h4⟩ := band h
  exact .ins e T.cl_Table (of_decide_eq_true h1) (of_decide_eq_true h2) (of_decide_eq_true h3) (of_decide_eq_true h4)
theorem Tx.dig (T : Tx w K mg) : ClX.CRead K (He.ga K "Writer") (.type "type") ∧ ∃ u, ClX.CVal K (He.ga K "Writer") (.type "type") "DIGITS" (.int 15) u := by
  have h := (band (band (band (band (band T.m).2).2).2).2).1
  obtain ⟨h1, h⟩ := band h
  obtain ⟨h2, h⟩ := band h
  refine ⟨⟨h1, of_decide_eq_true h2⟩, ?_⟩
  split at h
  · rename_i u e
    exact ⟨u, e, He.relB_ok h⟩
  · cases h
theorem iniB_ok {x : Str} (h : iniB K x = true) : ClX.CRead K (He.ga K x) (.type "type") ∧ ClX.CVal K (He.ga K x) (.type "type") "__init__" (.ref (He.ma K (He.ga K x) "__init__")) (.ref (He.ma K (He.ga K x) "__init__")) ∧ PySem.W.keepIn K (.ref (He.ma K (He.ga K x) "__init__")) = true := by
  obtain ⟨h1, h⟩ := band h
  obtain ⟨h2, h⟩ := band h
  obtain ⟨h3, h4⟩ := band h
  refine ⟨⟨h1, of_decide_eq_true h2⟩, ?_, h4⟩
  split at h3
  · rename_i u e
    have e2 := of_decide_eq_true h3
    subst e2
    exact ⟨e, rfl⟩
  · cases h3
def Tx.iniW (T : Tx w K mg) := iniB_ok (band (band (band (band (band (band (band T.m).2).2).2).2).2).2).1
def Tx.iniR (T : Tx w K mg) := iniB_ok (band (band (band (band (band (band (band (band T.m).2).2).2).2).2).2).2).1
theorem Tx.freeF (T : Tx w K mg) : freeB K = true := (band (band (band (band (band (band (band (band (band (band (band T.m).2).2).2).2).2).2).2).2).2).2).2
theorem Tx.inh (T : Tx w K mg) {p : Str × Str} (h : p ∈ inhN) : He.ma K (He.ga K "Passage") p.2 = He.ma K (He.ga K p.1) p.2 := of_decide_eq_true (List.all_eq_true.mp (band (band (band (band (band (band (band (band (band T.m).2).2).2).2).2).2).2).2).1 p h)
def Tx.orT (T : Tx w K mg) := band (band (band (band (band (band (band (band (band (band (band T.m).2).2).2).2).2).2).2).2).2).1
theorem Tx.n_abs (T : Tx w K mg) : mg "abs" = none := by
  obtain ⟨h, X, G, c⟩ := T.ex
  exact PySem.W.mg_none_of X G (freeB_ok (Tx.freeF T) (by simp [freeN]))
theorem Tx.n_bool (T : Tx w K mg) : mg "bool" = none := by
  obtain ⟨h, X, G, c⟩ := T.ex
  exact PySem.W.mg_none_of X G (freeB_ok (Tx.freeF T) (by simp [freeN]))
theorem Tx.n_enumerate (T : Tx w K mg) : mg "enumerate" = none := by
  obtain ⟨h, X, G, c⟩ := T.ex
  exact PySem.W.mg_none_of X G (freeB_ok (Tx.freeF T) (by simp [freeN]))
theorem Tx.n_int (T : Tx w K mg) : mg "int" = none := by
  obtain ⟨h, X, G, c⟩ := T.ex
  exact PySem.W.mg_none_of X G (freeB_ok (Tx.freeF T) (by simp [freeN]))
theorem Tx.n_isinstance (T : Tx w K mg) : mg "isinstance" = none := by
  obtain ⟨h, X, G, c⟩ := T.ex
  exact PySem.W.mg_none_of X G (freeB_ok (Tx.freeF T) (by simp [freeN]))
theorem Tx.n_len (T : Tx w K mg) : mg "len" = none := by
  obtain ⟨h, X, G, c⟩ := T.ex
  exact PySem.W.mg_none_of X G (freeB_ok (Tx.freeF T) (by simp [freeN]))
theorem Tx.n_list (T : Tx w K mg) : mg "list" = none := by
  obtain ⟨h, X, G, c⟩ := T.ex
  exact PySem.W.mg_none_of X G (freeB_ok (Tx.freeF T) (by simp [freeN]))
theorem Tx.n_max (T : Tx w K mg) : mg "max" = none := by
  obtain ⟨h, X, G, c⟩ := T.ex
  exact PySem.W.mg_none_of X G (freeB_ok (Tx.freeF T) (by simp [freeN]))
theorem Tx.n_min (T : Tx w K mg) : mg "min" = none := by
  obtain ⟨h, X, G, c⟩ := T.ex
  exact PySem.W.mg_none_of X G (freeB_ok (Tx.freeF T) (by simp [freeN]))
theorem Tx.n_range (T : Tx w K mg) : mg "range" = none := by
  obtain ⟨h, X, G, c⟩ := T.ex
  exact PySem.W.mg_none_of X G (freeB_ok (Tx.freeF T) (by simp [freeN]))
theorem Tx.n_set (T : Tx w K mg) : mg "set" = none := by
  obtain ⟨h, X, G, c⟩ := T.ex
  exact PySem.W.mg_none_of X G (freeB_ok (Tx.freeF T) (by simp [freeN]))
theorem Tx.n_sorted (T : Tx w K mg) : mg "sorted" = none := by
  obtain ⟨h, X, G, c⟩ := T.ex
  exact PySem.W.mg_none_of X G (freeB_ok (Tx.freeF T) (by simp [freeN]))
theorem Tx.n_str (T : Tx w K mg) : mg "str" = none := by
  obtain ⟨h, X, G, c⟩ := T.ex
  exact PySem.W.mg_none_of X G (freeB_ok (Tx.freeF T) (by simp [freeN]))
theorem Tx.n_sum (T : Tx w K mg) : mg "sum" = none := by
  obtain ⟨h, X, G, c⟩ := T.ex
  exact PySem.W.mg_none_of X G (freeB_ok (Tx.freeF T) (by simp [freeN]))
theorem Tx.n_tuple (T : Tx w K mg) : mg "tuple" = none := by
  obtain ⟨h, X, G, c⟩ := T.ex
  exact PySem.W.mg_none_of X G (freeB_ok (Tx.freeF T) (by simp [freeN]))
theorem Tx.n_zip (T : Tx w K mg) : mg "zip" = none := by
  obtain ⟨h, X, G, c⟩ := T.ex
  exact PySem.W.mg_none_of X G (freeB_ok (Tx.freeF T) (by simp [freeN]))
theorem Tx.m_Writer_raw (T : Tx w K mg) : Meth K (He.ga K "Passage") "raw" (He.ma K (He.ga K "Writer") "raw") := by
  have h := T.m_PWriter_raw
  rw [T.inh (p := ("Writer", "raw")) (by simp [inhN])] at h
  exact h
theorem Tx.m_Writer_raw_at (T : Tx w K mg) : Meth K (He.ga K "Passage") "raw_at" (He.ma K (He.ga K "Writer") "raw_at") := by
  have h := T.m_PWriter_raw_at
  rw [T.inh (p := ("Writer", "raw_at")) (by simp [inhN])] at h
  exact h
theorem Tx.m_Writer_kept_entries (T : Tx w K mg) : Meth K (He.ga K "Passage") "kept_entries" (He.ma K (He.ga K "Writer") "kept_entries") := by
  have h := T.m_PWriter_kept_entries
  rw [T.inh (p := ("Writer", "kept_entries")) (by simp [inhN])] at h
  exact h
theorem Tx.m_Writer_raw_pairs (T : Tx w K mg) : Meth K (He.ga K "Passage") "raw_pairs" (He.ma K (He.ga K "Writer") "raw_pairs") := by
  have h := T.m_PWriter_raw_pairs
  rw [T.inh (p := ("Writer", "raw_pairs")) (by simp [inhN])] at h
  exact h
theorem Tx.m_Reader_build (T : Tx w K mg) : Meth K (He.ga K "Passage") "build" (He.ma K (He.ga K "Reader") "build") := by
  have h := T.m_PReader_build
  rw [T.inh (p := ("Reader", "build")) (by simp [inhN])] at h
  exact h
theorem Tx.m_Reader_built_at (T : Tx w K mg) : Meth K (He.ga K "Passage") "built_at" (He.ma K (He.ga K "Reader") "built_at") := by
  have h := T.m_PReader_built_at
  rw [T.inh (p := ("Reader", "built_at")) (by simp [inhN])] at h
  exact h
theorem Tx.m_Reader_built_table (T : Tx w K mg) : Meth K (He.ga K "Passage") "built_table" (He.ma K (He.ga K "Reader") "built_table") := by
  have h := T.m_PReader_built_table
  rw [T.inh (p := ("Reader", "built_table")) (by simp [inhN])] at h
  exact h
theorem Tx.m_Reader_built_key (T : Tx w K mg) : Meth K (He.ga K "Passage") "built_key" (He.ma K (He.ga K "Reader") "built_key") := by
  have h := T.m_PReader_built_key
  rw [T.inh (p := ("Reader", "built_key")) (by simp [inhN])] at h
  exact h
end
end Kt
set_option Elab.async false
set_option linter.all false
set_option maxRecDepth 100000
set_option maxHeartbeats 4000000
namespace Kt
open PySem PySem.Spec PyProof.Rows L2 Rz
section
variable {K : PySem.W.Frag} {b : Bool} {a : Addr} {xs : List V} {g : TG} {tt : TT} {te : TE} {vs : List Nat} {σ : L2.St} {H1 : Hp} {D : Addr} {Qd : Hp → Prop}
/-- a comprehension over a list or a tuple that stays -/
theorem lc_seqB (Pv : Nat → Hp → Prop) (h0 : Pv 0 (upd H1 D (.lst []))) (hl : ∀ i H, i ≤ xs.length → Pv i H → SqB K b H a xs)
    (hs : ∀ i x H, xs[i]? = some x → Pv i H → g x (wipe σ vs) H fun σ2 H2 => wipe σ2 vs = wipe σ vs ∧ tt σ2 H2 fun c H3 =>
      if c = true then te σ2 H3 fun y H4 => ∃ acc, H4 D = some (.lst acc) ∧ acc.length < sizeLine ∧ Pv (i + 1) (upd H4 D (.lst (acc ++ [y]))) else Pv (i + 1) H3) (hd : ∀ H, Pv xs.length H → Qd H) :
    ∃ W : Nat → Nat → Hp → Prop, (∃ m, W 0 m (upd H1 D (.lst []))) ∧ ∀ i m H, W i m H →
      ((ItB K b a).stop i H ∧ Qd H) ∨ ((ItB K b a).go i H ∧ ∃ Nx : Hp → Prop, (∀ H', Nx H' → ∃ m', m' < m ∧ W (i + 1) m' H') ∧ ∀ x H', (ItB K b a).yld i H x H' → g x (wipe σ vs) H' fun σ2 H2 => wipe σ2 vs = wipe σ vs ∧ tt σ2 H2 fun c H3 =>
        if c = true then te σ2 H3 fun y H4 => ∃ acc, H4 D = some (.lst acc) ∧ acc.length < sizeLine ∧ Nx (upd H4 D (.lst (acc ++ [y]))) else Nx H3) := by
  cases b with
  | true => exact lc_list (K := K) (a := a) Pv h0 hl hs hd
  | false => exact lc_tup (K := K) (a := a) Pv h0 hl hs hd
/-- .. with the places: the items as new pairs -/
theorem lc_enumB (Pv : Nat → Hp → Prop) (h0 : Pv 0 (upd H1 D (.lst []))) (hl : ∀ i H, i ≤ xs.length → Pv i H → SqB K b H a xs)
    (hs : ∀ i x T H, xs[i]? = some x → Pv i H → H T = none → g (.ref T) (wipe σ vs) (upd H T (.tup [.int (i : Nat), x])) fun σ2 H2 => wipe σ2 vs = wipe σ vs ∧ tt σ2 H2 fun c H3 =>
      if c = true then te σ2 H3 fun y H4 => ∃ acc, H4 D = some (.lst acc) ∧ acc.length < sizeLine ∧ Pv (i + 1) (upd H4 D (.lst (acc ++ [y]))) else Pv (i + 1) H3) (hd : ∀ H, Pv xs.length H → Qd H) :
    ∃ W : Nat → Nat → Hp → Prop, (∃ m, W 0 m (upd H1 D (.lst []))) ∧ ∀ i m H, W i m H →
      ((IteB K b a).stop i H ∧ Qd H) ∨ ((IteB K b a).go i H ∧ ∃ Nx : Hp → Prop, (∀ H', Nx H' → ∃ m', m' < m ∧ W (i + 1) m' H') ∧ ∀ x H', (IteB K b a).yld i H x H' → g x (wipe σ vs) H' fun σ2 H2 => wipe σ2 vs = wipe σ vs ∧ tt σ2 H2 fun c H3 =>
        if c = true then te σ2 H3 fun y H4 => ∃ acc, H4 D = some (.lst acc) ∧ acc.length < sizeLine ∧ Nx (upd H4 D (.lst (acc ++ [y]))) else Nx H3) := by
  refine ⟨fun i m H => m = xs.length - i ∧ i ≤ xs.length ∧ Pv i H, ⟨xs.length, by simp, Nat.zero_le _, h0⟩, ?_⟩
  rintro i m H ⟨rfl, hi, p⟩
  have q := hl i H hi p
  by_cases hlt : i < xs.length
  · have next : ∀ H', Pv (i + 1) H' → ∃ m', m' < xs.length - i ∧ m' = xs.length - (i + 1) ∧ i + 1 ≤ xs.length ∧ Pv (i + 1) H' := fun H' p' => ⟨xs.length - (i + 1), by omega, rfl, hlt, p'⟩
    cases b with
    | true => exact .inr ⟨⟨xs, xs[i], q, by simp [hlt]⟩, Pv (i + 1), next, fun x H' ⟨T, y, e1, hT, e2, hy⟩ => by subst e1 e2; exact hs i y T H (hy xs q) p hT⟩
    | false => exact .inr ⟨⟨xs, xs[i], q, by simp [hlt]⟩, Pv (i + 1), next, fun x H' ⟨T, y, e1, hT, e2, hy⟩ => by subst e1 e2; exact hs i y T H (hy xs q) p hT⟩
  · have e : i = xs.length := by omega
    subst e
    cases b with
    | true => exact .inl ⟨⟨xs, q, Nat.le_refl _⟩, hd H p⟩
    | false => exact .inl ⟨⟨xs, q, Nat.le_refl _⟩, hd H p⟩
end
theorem sqB_of {K : PySem.W.Frag} {t : Bool} {H : Hp} {a : Addr} {xs : List V} (h : H a = some (sqO t xs)) : SqB K t H a xs := by
  cases t with
  | true => exact SqL.of h
  | false => exact SqT.of h
theorem cut_cons {H : Hp} {ps : List Addr} {D : Addr} {o : HO} : cut (upd H D o) (D :: ps) = cut H (D :: ps) := by
  funext b
  unfold cut
  by_cases h : b ∈ D :: ps
  · rw [if_pos h, if_pos h]
  · rw [if_neg h, if_neg h, upd_ne fun z => h (by rw [z]; exact List.mem_cons_self)]
theorem cut_add {H H' : Hp} {ps : List Addr} {D : Addr} (n : H D = none) (s : Same H H') : Same (cut H ps) (cut H' (D :: ps)) := fun b o h => by
  have hb := cut_le b o h
  refine cut_at (fun z => ?_) (s b o hb)
  rcases List.mem_cons.mp z with e | z
  · rw [e, n] at hb; cases hb
  · unfold cut at h
    rw [if_pos z] at h
    cases h
theorem Same.mk'' {H H' : Hp} {D : Addr} {o : HO} (e : Same H H') (h : H D = none) : Same H (upd H' D o) := fun b u q => by
  rw [upd_ne (ne_of_none q h)]
  exact e b u q
theorem sqB_same {K : PySem.W.Frag} {b : Bool} {H H' : Hp} {a : Addr} {xs : List V} (s : Same H H') (h : SqB K b H a xs) : SqB K b H' a xs := by
  have rd : ∀ {u : HO}, Rd H a u → Rd H' a u := fun r => r.elim (fun z => .inl (s _ _ z)) fun ⟨o, z⟩ => .inr ⟨o, s _ _ z⟩
  cases b with
  | true => exact Or.imp_left rd h
  | false => exact Or.imp_left rd h
end Kt
set_option Elab.async false
set_option linter.all false
set_option maxRecDepth 100000
set_option maxHeartbeats 4000000
namespace Kt
open PySem PySem.Spec PyProof.Rows L2 Rz _root_.TL
section
variable {P : Program} {w : World} {K : PySem.W.Frag} {mg : Str → Option Value} {base : Heap}
abbrev CT (K : PySem.W.Frag) : Addr := He.ga K "Table"
def tyS : Val → String
  | .non => "NoneType"
  | .bl _ => "bool"
  | .int _ => "int"
  | .str _ => "str"
  | .seq t _ => if t then "list" else "tuple"
  | .tab _ => "Table"
def isT (ty : String) (d : Val) : Bool := tyS d == ty || (tyS d == "bool" && ty == "int")
theorem kits {a b : String} (ha : a ∈ tyN) (hb : b ∈ ["bool", "int", "str", "list", "tuple"]) : PySem.W.kitOne K (.type a) (.type b) = some (a == b || (a == "bool" && b == "int")) := by
  simp only [tyN, List.mem_cons, List.not_mem_nil, or_false] at ha hb
  rcases ha with rfl | rfl | rfl | rfl | rfl | rfl <;> rcases hb with rfl | rfl | rfl | rfl | rfl <;> exact kit_ty (by decide +kernel)
theorem at_ty (T : Tx w K mg) {H G : Hp} {k : Nat} {x : V} {d : Val} (g : Same G H) (h : VAt (CT K) G k x d) : ∃ t, TyX K H x t ∧ ((∃ a ∈ tyN, t = .type a ∧ tyS d = a) ∨ (t = .ref (CT K) ∧ tyS d = "Table")) := by
  have fl : ∀ {d : Val}, Rz.flat d = some x → ∃ t, TyX K H x t ∧ ((∃ a ∈ tyN, t = .type a ∧ tyS d = a) ∨ (t = .ref (CT K) ∧ tyS d = "Table")) := fun {d} e => by
    cases d with
    | non => cases e; exact ⟨_, .base .non, .inl ⟨_, by decide, rfl, rfl⟩⟩
    | bl b => cases e; exact ⟨_, .base (.bl _), .inl ⟨_, by decide, rfl, rfl⟩⟩
    | int i => cases e; exact ⟨_, .base (.int _), .inl ⟨_, by decide, rfl, rfl⟩⟩
    | str z => cases e; exact ⟨_, .base (.str _), .inl ⟨_, by decide, rfl, rfl⟩⟩
    | seq t l => cases e
    | tab es => cases e
  cases k with
  | zero => exact fl h
  | succ k =>
    rcases h with h | ⟨t, l, a, xs, rfl, rfl, h1, h2⟩ | ⟨es, p, dx, dd, od, kvs, rfl, rfl, h1, h2, h3⟩
    · exact fl h
    · cases t with
      | true => exact ⟨_, .base (.lst (g _ _ h1)), .inl ⟨"list", by decide, rfl, rfl⟩⟩
      | false => exact ⟨_, .base (.tup (g _ _ h1)), .inl ⟨"tuple", by decide, rfl, rfl⟩⟩
    · exact ⟨_, .base (T.insT (g _ _ h1)), .inr ⟨rfl, rfl⟩⟩
/-- isinstance(x, a built-in class) -/
theorem isi (T : Tx w K mg) {H G : Hp} {k : Nat} {x : V} {d : Val} (b : String) (g : Same G H) (h : VAt (CT K) G k x d) (hb : b ∈ ["bool", "int", "str", "list", "tuple"] := by decide) : ∃ t, TyX K H x t ∧ PySem.W.kitOne K t (.type b) = some (isT b d) := by
  obtain ⟨t, ty, ⟨a, ha, rfl, e⟩ | ⟨rfl, e⟩⟩ := at_ty T g h
  · exact ⟨_, ty, by unfold isT; rw [e]; exact kits ha hb⟩
  · refine ⟨_, ty, ?_⟩
    have hb2 : b ∈ tyN := by
      simp only [List.mem_cons, List.not_mem_nil, or_false] at hb
      rcases hb with rfl | rfl | rfl | rfl | rfl <;> decide
    rw [T.kTb hb2]
    unfold isT
    rw [e]
    simp only [List.mem_cons, List.not_mem_nil, or_false] at hb
    rcases hb with rfl | rfl | rfl | rfl | rfl <;> decide
/-- isinstance(x, Table) -/
theorem isiC (T : Tx w K mg) {H G : Hp} {k : Nat} {x : V} {d : Val} (g : Same G H) (h : VAt (CT K) G k x d) : ∃ t, TyX K H x t ∧ PySem.W.kitOne K t (.ref (CT K)) = some (tyS d == "Table") := by
  obtain ⟨t, ty, ⟨a, ha, rfl, e⟩ | ⟨rfl, e⟩⟩ := at_ty T g h
  · refine ⟨_, ty, ?_⟩
    rw [T.kT ha, e]
    simp only [tyN, List.mem_cons, List.not_mem_nil, or_false] at ha
    rcases ha with rfl | rfl | rfl | rfl | rfl | rfl <;> decide
  · exact ⟨_, ty, by rw [T.kTT, e]; rfl⟩
/-- isinstance(x, (list, tuple)) -/
theorem isiLT (T : Tx w K mg) {H G : Hp} {k : Nat} {x : V} {d : Val} (g : Same G H) (h : VAt (CT K) G k x d) : ∃ t, TyX K H x t ∧ PySem.W.kitAny K t [.type "list", .type "tuple"] = some (isT "list" d || isT "tuple" d) := by
  obtain ⟨t, ty, c⟩ := at_ty T g h
  refine ⟨t, ty, ?_⟩
  have k1 : ∀ b ∈ ["list", "tuple"], PySem.W.kitOne K t (.type b) = some (isT b d) := fun b hb => by
    rcases c with ⟨a, ha, rfl, e⟩ | ⟨rfl, e⟩
    · unfold isT
      rw [e]
      exact kits ha (by simp only [List.mem_cons, List.not_mem_nil, or_false] at hb ⊢; rcases hb with rfl | rfl <;> simp)
    · have hb2 : b ∈ tyN := by
        simp only [List.mem_cons, List.not_mem_nil, or_false] at hb
        rcases hb with rfl | rfl <;> decide
      rw [T.kTb hb2]
      unfold isT
      rw [e]
      simp only [List.mem_cons, List.not_mem_nil, or_false] at hb
      rcases hb with rfl | rfl <;> decide
  refine kitAny_cons (k1 "list" (by simp)) (fun z => ?_) (fun z => by rw [z, Bool.true_or])
  refine kitAny_cons (k1 "tuple" (by simp)) (fun z2 => ?_) (fun z2 => by rw [z2, Bool.or_true])
  rw [kitAny_nil, z, z2]
  rfl
def isInt : Val → Bool
  | .int _ => true
  | _ => false
def spIsInt (K : PySem.W.Frag) : Sp := fun vs H Q _ => ∃ x d G k, vs = [x] ∧ Same G H ∧ VAt (CT K) G k x d ∧ Q (.bl (isInt d)) H
theorem ok_is_integer (T : Tx w K mg) : Gd P w K base mg CX0 1 (He.fAd K d_is_integer.at_) ["value"] [] (spIsInt K) := by
  refine mkGd (T.f_is_integer) sc_is_integer (fun vs H Q E h => ?_) (fun _ _ _ _ _ _ us hl => match us, hl with | [_], _ => rfl) (fun cdv A outer s H vs Q E hr h => ?_)
  · obtain ⟨x, d, G, k, rfl, _⟩ := h
    rfl
  · have hu := hu_of hr
    obtain ⟨x, d, G, k, rfl, g, hv, q⟩ := h
    refine ⟨_, (pss_one (ps_ret (pe_and (pe_callB call_isi (by rfl) T.n_isinstance (by decide +kernel) (pa_cons (pv 0) (pa_cons (pe_bltn (v := .ty "int") (u := .type "int") (by rfl) T.n_int (by decide +kernel) rfl) pa_nil))) (pe_one (pe_not (pe_callB call_isi (by rfl) T.n_isinstance (by decide +kernel) (pa_cons (pv 0) (pa_cons (pe_bltn (v := .ty "bool") (u := .type "bool") (by rfl) T.n_bool (by decide +kernel) rfl) pa_nil)))))))), ?_⟩
    obtain ⟨t1, y1, k1⟩ := isi T "int" g hv
    obtain ⟨t2, y2, k2⟩ := isi T "bool" g hv
    refine ⟨_, rfl, x, _, t1, _, _, rfl, .ty _, y1, k1, _, rfl, ?_⟩
    cases d with
    | int i => exact ⟨_, rfl, x, _, t2, _, _, rfl, .ty _, y2, k2, _, rfl, q⟩
    | bl b => exact ⟨_, rfl, x, _, t2, _, _, rfl, .ty _, y2, k2, _, rfl, q⟩
    | seq t l => cases t <;> exact q
    | _ => exact q
/-- a key as a value -/
def keyV : Key → Val
  | .inl i => .int i
  | .inr z => .str z
theorem key_at {C : Addr} {G : Hp} (y : Key) : VAt C G 0 (kV y) (keyV y) := by
  cases y <;> rfl
def spKeyText : Sp := fun vs H Q _ => ∃ y : Key, vs = [kV y] ∧ okK y ∧ Q (.str (keyT y)) H
theorem log_of {i : Int} (h : i.natAbs < 10 ^ 21) : i.natAbs.log2 < 1920 := by
  by_cases z : i.natAbs = 0
  · rw [z]
    decide
  · exact Nat.lt_of_lt_of_le ((Nat.log2_lt z).mpr (Nat.lt_trans h (show 10 ^ 21 < 2 ^ 70 by decide))) (by decide)
theorem ok_key_text (T : Tx w K mg) : Gd P w K base mg CX0 1 (He.fAd K d_key_text.at_) ["key"] [] spKeyText := by
  refine mkGd (T.f_key_text) sc_key_text (fun vs H Q E h => ?_) (fun _ _ _ _ _ _ us hl => match us, hl with | [_], _ => rfl) (fun cdv A outer s H vs Q E hr h => ?_)
  · obtain ⟨y, rfl, _⟩ := h
    rfl
  · have hu := hu_of hr
    obtain ⟨y, rfl, ok, q⟩ := h
    refine ⟨_, (pss_cons (ps_if (pt_val (pe_callB call_isi (by rfl) T.n_isinstance (by decide +kernel) (pa_cons (pv 0) (pa_cons (pe_bltn (v := .ty "str") (u := .type "str") (by rfl) T.n_str (by decide +kernel) rfl) pa_nil)))) (pss_one (ps_ret (pv 0))) pss_nil)
      (pss_one (ps_ret (pe_callTy call_str_int (by rfl) T.n_str (by decide +kernel) (pa_cons (pv 0) pa_nil))))), ?_⟩
    obtain ⟨t1, y1, k1⟩ := isi T "str" (G := H) (Same.refl H) (key_at y)
    refine ⟨_, rfl, kV y, _, t1, _, _, rfl, .ty _, y1, k1, _, rfl, ?_⟩
    cases y with
    | inl i => exact iteF ⟨_, rfl, _, rfl, log_of ok, q⟩
    | inr z => exact iteT ⟨_, rfl, q⟩
end
end Kt
set_option Elab.async false
set_option linter.all false
set_option maxRecDepth 100000
set_option maxHeartbeats 4000000
namespace Kt
open PySem PySem.Spec PyProof.Rows L2 Rz _root_.TL
section
variable {P : Program} {w : World} {K : PySem.W.Frag} {mg : Str → Option Value} {base : Heap}
/-- an error of the class at C stands at a, its dict at dx with the fields fs -/
def ErrAt (H : Hp) (a C dx : Addr) (fs : List (Str × V)) : Prop := H a = some (exo a C (some dx)) ∧ H dx = some (exd dx fs)
def spErr (K : PySem.W.Frag) (ns : List Str) : Sp := fun vs H Q _ => ∃ (a C : Addr) (ys : List V), vs = .ref a :: ys ∧ ys.length = ns.length ∧ H a = some (exo a C none) ∧ OexC K C ∧ (∀ f ∈ ns, PySem.W.findIn K (.ref C) f = some none) ∧
  ∀ dx H', H dx = none → dx ≠ a → ErrAt H' a C dx (ns.zip ys).reverse → (∀ b o, b ≠ a → H b = some o → H' b = some o) → Q .non H'
theorem ok_Unwritable_init (T : Tx w K mg) : Gd P w K base mg CX0 1 (He.fAd K d_Unwritable_init.at_) ["self", "reason", "path"] [] (spErr K ["reason", "path"]) := by
  refine mkGd (T.f_Unwritable_init) sc_Unwritable_init (fun vs H Q E h => ?_) (fun _ _ _ _ _ _ us hl => match us, hl with | [_, _, _], _ => rfl) (fun cdv A outer s H vs Q E hr h => ?_)
  · obtain ⟨a, C, ys, rfl, hl, _⟩ := h
    rw [List.length_cons, hl]
    rfl
  · obtain ⟨a, C, ys, rfl, hl, ha, O, hf, k⟩ := h
    match ys, hl with
    | [y0, y1], _ =>
    refine ⟨_, (pss_cons (ps_ost (pv 0) (pv 1))
      (pss_one (ps_ost (pv 0) (pv 2)))), ?_⟩
    refine ⟨_, rfl, _, rfl, a, C, rfl, O, hf _ (by simp), .inl ⟨ha, fun dx hd hn => ?_⟩⟩
    refine ⟨_, rfl, _, rfl, a, C, rfl, O, hf _ (by simp), .inr ⟨dx, _, upd_same, (by rw [upd_ne hn]; exact upd_same), (by show 1 ≤ 900; decide), ?_⟩⟩
    exact k dx _ hd hn ⟨by rw [upd_ne hn.symm]; exact upd_same, upd_same⟩ fun b o hb e => by rw [upd_ne (ne_of_none e hd), upd_ne hb, upd_ne (ne_of_none e hd)]; exact e
theorem ok_Unreadable_init (T : Tx w K mg) : Gd P w K base mg CX0 1 (He.fAd K d_Unreadable_init.at_) ["self", "reason", "path"] [] (spErr K ["reason", "path"]) := by
  refine mkGd (T.f_Unreadable_init) sc_Unreadable_init (fun vs H Q E h => ?_) (fun _ _ _ _ _ _ us hl => match us, hl with | [_, _, _], _ => rfl) (fun cdv A outer s H vs Q E hr h => ?_)
  · obtain ⟨a, C, ys, rfl, hl, _⟩ := h
    rw [List.length_cons, hl]
    rfl
  · obtain ⟨a, C, ys, rfl, hl, ha, O, hf, k⟩ := h
    match ys, hl with
    | [y0, y1], _ =>
    refine ⟨_, (pss_cons (ps_ost (pv 0) (pv 1))
      (pss_one (ps_ost (pv 0) (pv 2)))), ?_⟩
    refine ⟨_, rfl, _, rfl, a, C, rfl, O, hf _ (by simp), .inl ⟨ha, fun dx hd hn => ?_⟩⟩
    refine ⟨_, rfl, _, rfl, a, C, rfl, O, hf _ (by simp), .inr ⟨dx, _, upd_same, (by rw [upd_ne hn]; exact upd_same), (by show 1 ≤ 900; decide), ?_⟩⟩
    exact k dx _ hd hn ⟨by rw [upd_ne hn.symm]; exact upd_same, upd_same⟩ fun b o hb e => by rw [upd_ne (ne_of_none e hd), upd_ne hb, upd_ne (ne_of_none e hd)]; exact e
def spFresh (K : PySem.W.Frag) (k : Nat) : Sp := fun vs H Q _ => ∃ x d ps, vs = [x] ∧ Has H ps ∧ VAt (CT K) (cut H ps) k x d ∧ Ok k d ∧ ∀ H' y, Same H H' → VAt (CT K) (cut H' ps) k y d → Q y H'
theorem ok_list {k : Nat} {t : Bool} {l : List Val} (h : Ok (k + 1) (.seq t l)) : l.length ≤ 4 ∧ ∀ x ∈ l, Ok k x := by
  rcases h with h | ⟨t', l', e, h1, h2⟩ | ⟨es, e, _⟩
  · cases h
  · cases e; exact ⟨h1, h2⟩
  · cases e
theorem ok_tab {k : Nat} {es : List (Key × Val)} (h : Ok (k + 1) (.tab es)) : es.length ≤ 4 ∧ (es.map (·.1)).Nodup ∧ ∀ e ∈ es, okK e.1 ∧ Ok k e.2 := by
  rcases h with h | ⟨t', l', e, h1, h2⟩ | ⟨es', e, h1, h2, h3⟩
  · cases h
  · cases e
  · cases e; exact ⟨h1, h2, h3⟩
theorem at_list {C : Addr} {G : Hp} {k : Nat} {t : Bool} {l : List Val} {x : V} (h : VAt C G k x (.seq t l)) : ∃ j a xs, k = j + 1 ∧ x = .ref a ∧ G a = some (sqO t xs) ∧ Paired (VAt C G j) xs l := by
  cases k with
  | zero => cases h
  | succ k =>
    rcases h with h | ⟨t', l', a, xs, e, e2, h1, h2⟩ | ⟨es, p, dx, dd, od, kvs, e, _⟩
    · cases h
    · cases e; exact ⟨k, a, xs, rfl, e2, h1, h2⟩
    · cases e
theorem at_tab {C : Addr} {G : Hp} {k : Nat} {es : List (Key × Val)} {x : V} (h : VAt C G k x (.tab es)) : ∃ j p dx dd od kvs, k = j + 1 ∧ x = .ref p ∧ G p = some (.ins C dx [("held", .ref dd)]) ∧ G dd = some (.frz od (.dK kvs)) ∧ Paired (fun a b => a.1 = b.1 ∧ VAt C G j a.2 b.2) kvs es := by
  cases k with
  | zero => cases h
  | succ k =>
    rcases h with h | ⟨t', l', a, xs, e, _⟩ | ⟨es', p, dx, dd, od, kvs, e, e2, h1, h2, h3⟩
    · cases h
    · cases e
    · cases e; exact ⟨k, p, dx, dd, od, kvs, rfl, e2, h1, h2, h3⟩
theorem Paired.at {α β : Type} {F : α → β → Prop} : ∀ {l : List α} {m : List β} {i : Nat} {a : α}, Paired F l m → l[i]? = some a → ∃ b, m[i]? = some b ∧ F a b
  | _, _, _, _, .nil, h => by simp at h
  | _, _, 0, _, .cons r _, h => by simp at h; subst h; exact ⟨_, rfl, r⟩
  | _, _, i + 1, _, .cons _ t, h => by
    obtain ⟨b, h1, h2⟩ := Paired.at (i := i) t (by simpa using h)
    exact ⟨b, by simpa using h1, h2⟩
theorem Paired.taken {α β : Type} {F : α → β → Prop} : ∀ {l : List α} {m : List β} (n : Nat), Paired F l m → Paired F (l.take n) (m.take n)
  | _, _, 0, _ => .nil
  | _, _, _ + 1, .nil => .nil
  | _, _, n + 1, .cons r t => .cons r (Paired.taken n t)
theorem take_snoc {α : Type} {l : List α} {i : Nat} {a : α} (h : l[i]? = some a) : l.take (i + 1) = l.take i ++ [a] := by
  rw [List.take_add_one, h]
  rfl
theorem lt_of_at {α : Type} {l : List α} {i : Nat} {a : α} (h : l[i]? = some a) : i < l.length := (List.getElem?_eq_some_iff.mp h).1
theorem st_fresh (T : Tx w K mg) (k : Nat) (G_fresh : Gd P w K base mg CX0 k (He.fAd K d_fresh.at_) ["value"] [] (prv (spFresh K) k)) : Gd P w K base mg CX0 (k + 1) (He.fAd K d_fresh.at_) ["value"] [] ((spFresh K) k) := by
  refine mkGd (T.f_fresh) sc_fresh (fun vs H Q E h => ?_) (fun _ _ _ _ _ _ us hl => match us, hl with | [_], _ => rfl) (fun cdv A outer s H vs Q E hr h => ?_)
  · obtain ⟨x, d, ps, rfl, _⟩ := h
    rfl
  · have hu := hu_of hr
    obtain ⟨x, d, ps, rfl, hp, hv, ok, q⟩ := h
    refine ⟨_, (pss_cons (ps_if (pt_val (pe_callB call_isi (by rfl) T.n_isinstance (by decide +kernel) (pa_cons (pv 0) (pa_cons (pe_bltn (v := .ty "list") (u := .type "list") (by rfl) T.n_list (by decide +kernel) rfl) pa_nil)))) (pss_one (ps_ret (pe_lc (own := [("item", 1)]) (g := gName 1) (tt := tYes) rfl sc_fresh.nd (pi_seqB (pv 0)) (blkOk_by (own := [("item", 1)]) (N := N_fresh) (sc := defScope s_fresh) (by decide +kernel)) (fun _ _ _ _ _ => (pg_name (i := 1) sc_fresh.nd rfl (Or.inl rfl))) (fun _ _ _ _ _ => pts_nil) (fun _ _ _ _ _ => (pe_callG G_fresh T.g_fresh (hr.mono (by first | decide | omega)) pass0 (pa_cons (pv 1) pa_nil)))))) pss_nil)
      (pss_cons (ps_if (pt_val (pe_callB call_isi (by rfl) T.n_isinstance (by decide +kernel) (pa_cons (pv 0) (pa_cons (pe_bltn (v := .ty "tuple") (u := .type "tuple") (by rfl) T.n_tuple (by decide +kernel) rfl) pa_nil)))) (pss_one (ps_ret (pe_callTy call_tuple_of (by rfl) T.n_tuple (by decide +kernel) (pa_cons (pe_lc (own := [("item", 1)]) (g := gName 1) (tt := tYes) rfl sc_fresh.nd (pi_seqB (pv 0)) (blkOk_by (own := [("item", 1)]) (N := N_fresh) (sc := defScope s_fresh) (by decide +kernel)) (fun _ _ _ _ _ => (pg_name (i := 1) sc_fresh.nd rfl (Or.inl rfl))) (fun _ _ _ _ _ => pts_nil) (fun _ _ _ _ _ => (pe_callG G_fresh T.g_fresh (hr.mono (by first | decide | omega)) pass0 (pa_cons (pv 1) pa_nil)))) pa_nil)))) pss_nil)
      (pss_one (ps_ret (pv 0))))), ?_⟩
    obtain ⟨t1, y1, k1⟩ := isi T "list" cut_le hv
    obtain ⟨t2, y2, k2⟩ := isi T "tuple" cut_le hv
    refine ⟨_, rfl, x, _, t1, _, _, rfl, .ty _, y1, k1, _, rfl, ?_⟩
    have loop : ∀ {j : Nat} {b : Bool} {a D : Addr} {xs : List V} {l : List Val} {Qd : Hp → Prop} (hk : k = j + 1), SqB K b H a xs → Paired (VAt (CT K) (cut H ps) j) xs l → (∀ e ∈ l, Ok j e) → l.length ≤ 4 → H D = none →
        (∀ H' ys, Same H H' → H' D = some (.lst ys) → Paired (VAt (CT K) (cut H' (D :: ps)) j) ys l → Qd H') →
        ∃ W : Nat → Nat → Hp → Prop, (∃ m, W 0 m (upd H D (.lst []))) ∧ ∀ i m H, W i m H → ((ItB K b a).stop i H ∧ Qd H) ∨ ((ItB K b a).go i H ∧ ∃ Nx : Hp → Prop, (∀ H', Nx H' → ∃ m', m' < m ∧ W (i + 1) m' H') ∧ ∀ x' H', (ItB K b a).yld i H x' H' →
          gName 1 x' (wipe (start N_fresh [x]) [1]) H' fun σ2 H2 => wipe σ2 [1] = wipe (start N_fresh [x]) [1] ∧ tYes σ2 H2 fun c H3 => if c = true then tCall (prv (spFresh K) k) [] (fun _ _ _ => False) (tCons (tVar 1) tNil) σ2 H3 fun y H4 => ∃ acc, H4 D = some (.lst acc) ∧ acc.length < sizeLine ∧ Nx (upd H4 D (.lst (acc ++ [y]))) else Nx H3) := by
      intro j b a D xs l Qd hk hq hx hok h4 hD fin
      subst hk
      have hl := Paired.length hx
      refine lc_seqB (xs := xs) (fun i H' => Same H H' ∧ ∃ ys, H' D = some (.lst ys) ∧ ys.length ≤ 4 ∧ Paired (VAt (CT K) (cut H' (D :: ps)) j) ys (l.take i)) ⟨Same.nu hD, [], upd_same, Nat.zero_le _, by rw [List.take_zero]; exact .nil⟩ (fun i H' _ h => ?_) ?_ ?_
      · exact sqB_same h.1 hq
      · rintro i y H' hy ⟨s1, ys, hd, hy4, hp1⟩
        obtain ⟨e, he, hv1⟩ := Paired.at hx hy
        have hps : Has H' (D :: ps) := fun c hc => by
          rcases List.mem_cons.mp hc with z | z
          · rw [z, hd]; simp
          · exact hp.sx s1 c z
        refine ⟨rfl, _, rfl, y, e, D :: ps, rfl, hps, VAt.same (cut_add hD s1) hv1, hok e (List.mem_of_getElem? he), fun H2 z s2 hz => ⟨ys, s2 _ _ hd, small1000 (by omega), Same.mk'' (s1.trans s2) hD, ys ++ [z], upd_same, ?_, ?_⟩⟩
        · have q1 := Paired.length hp1
          rw [List.length_take] at q1
          have := lt_of_at hy
          rw [List.length_append, List.length_singleton]
          omega
        · rw [cut_cons, take_snoc he]
          exact Paired.snoc (Paired.mapP hp1 fun _ _ q => VAt.same (cut_sx (Sx.of s2)) q) hz
      · rintro H' ⟨s1, ys, hd, _, hp1⟩
        rw [List.take_of_length_le (by omega)] at hp1
        exact fin H' ys s1 hd hp1
    have leaf : (∀ t l, d ≠ .seq t l) → Q x H := fun no => q H x (Same.refl H) hv
    cases d with
    | seq t l =>
      obtain ⟨j, a, xs, rfl, rfl, ha, hx⟩ := at_list hv
      obtain ⟨h4, hok⟩ := ok_list ok
      have hS := sqB_of (K := K) (cut_le _ _ ha)
      cases t with
      | true =>
        refine iteT ⟨_, rfl, true, a, xs, rfl, hS, fun D hD => loop rfl hS hx hok h4 hD fun H' ys s1 hd hp1 => ?_⟩
        have nD := hp.new hD
        exact q H' (.ref D) s1 (.inr (.inl ⟨true, l, D, ys, rfl, rfl, cut_at nD hd, Paired.mapP hp1 fun _ _ q => VAt.same (cut_mono fun b hb => List.mem_cons_of_mem _ hb) q⟩))
      | false =>
        refine iteF ⟨_, rfl, _, _, t2, _, _, rfl, .ty _, y2, k2, _, rfl, iteT ?_⟩
        refine ⟨_, rfl, false, a, xs, rfl, hS, fun D hD => loop rfl hS hx hok h4 hD fun H' ys s1 hd hp1 => ?_⟩
        refine ⟨D, ys, rfl, .inl ⟨SqL.of hd, fun p hp' => ?_⟩⟩
        have np : p ∉ ps := fun z => (hp.sx s1) p z hp'
        exact q _ (.ref p) (Same.mk' s1 hp') (.inr (.inl ⟨false, l, p, ys, rfl, rfl, cut_at np upd_same, Paired.mapP hp1 fun _ _ q => VAt.same (fun b o hb => Same.nu (o := .tup ys) hp' |> fun z => cut_at (fun y => by
          have := cut_mono (ps := D :: ps) (qs := ps) (fun b hb => List.mem_cons_of_mem _ hb) b o hb
          unfold cut at this
          rw [if_pos y] at this
          cases this) (z b o (cut_le b o hb))) q⟩))
    | _ => exact iteF ⟨_, rfl, x, _, t2, _, _, rfl, .ty _, y2, k2, _, rfl, iteF ⟨_, rfl, leaf (fun _ _ z => nomatch z)⟩⟩
theorem ok_fresh (T : Tx w K mg) : ∀ k, Gd P w K base mg CX0 (k + 1) (He.fAd K d_fresh.at_) ["value"] [] ((spFresh K) k) := fun k => recGd (fun k => k) (fun l => mkGdF (T.f_fresh) sc_fresh (fun _ _ _ _ _ _ us hl => match us, hl with | [_], _ => rfl) l) (fun k G => st_fresh T k G) (by intro _; first | rfl | omega) k
end
end Kt
set_option Elab.async false
set_option linter.all false
set_option maxRecDepth 100000
set_option maxHeartbeats 4000000
namespace Kt
open PySem PySem.Spec PyProof.Rows L2 Rz _root_.TL
section
variable {P : Program} {w : World} {K : PySem.W.Frag} {mg : Str → Option Value} {base : Heap}
/-- an entry of a list of pairs -/
def EntAt (K : PySem.W.Frag) (H : Hp) (ps : List Addr) (k : Nat) (t : V) (e : Key × Val) : Prop := ∃ b y, t = .ref b ∧ H b = some (.tup [kV e.1, y]) ∧ VAt (CT K) (cut H ps) k y e.2
def okE (k : Nat) (es : List (Key × Val)) : Prop := es.length ≤ 4 ∧ (es.map (·.1)).Nodup ∧ ∀ e ∈ es, okK e.1 ∧ Ok k e.2
def spTable (K : PySem.W.Frag) (k : Nat) : Sp := fun vs H Q _ => ∃ p a dx ts es ps, vs = [.ref p, .ref a] ∧ H p = some (.ins (CT K) dx []) ∧ SqL K H a ts ∧ Has H ps ∧ p ∉ ps ∧ Paired (EntAt K H (p :: ps) k) ts es ∧ okE k es ∧
  ∀ H', (∀ b o, b ≠ p → H b = some o → H' b = some o) → VAt (CT K) (cut H' ps) (k + 1) (.ref p) (.tab es) → Q .non H'
theorem valV_out {kvs : List (Key × V)} {y : Key} (h : y ∉ kvs.map (·.1)) : valV kvs y = none := by
  induction kvs with
  | nil => rfl
  | cons a r ih =>
    rw [List.map_cons, List.mem_cons, not_or] at h
    rw [valV_neg fun z => h.1 z.symm]
    exact ih h.2
theorem nd_at {es : List (Key × Val)} {i : Nat} {e : Key × Val} (h : (es.map (·.1)).Nodup) (he : es[i]? = some e) : e.1 ∉ (es.take i).map (·.1) := fun z => by
  obtain ⟨j, hj⟩ := List.mem_iff_getElem?.mp z
  rw [List.getElem?_map, List.getElem?_take] at hj
  by_cases hji : j < i
  · rw [if_pos hji] at hj
    have h1 := lt_of_at he
    have e1 : es[j]? = some es[j] := List.getElem?_eq_getElem (by omega)
    rw [e1] at hj
    have e2 : es[i] = e := by
      have := List.getElem?_eq_getElem h1
      rw [this] at he
      exact Option.some.inj he
    have e3 : (es[j]'(by omega)).1 = e.1 := by simpa using hj
    have := List.pairwise_iff_getElem.mp h j i (by simp; omega) (by simpa using h1) hji
    simp [e2, e3] at this
  · rw [if_neg hji] at hj
    simp at hj
theorem paired_keys {R : (Key × V) → (Key × Val) → Prop} (hR : ∀ a b, R a b → a.1 = b.1) : ∀ {kvs : List (Key × V)} {es : List (Key × Val)}, Paired R kvs es → kvs.map (·.1) = es.map (·.1)
  | _, _, .nil => rfl
  | _, _, .cons r t => by rw [List.map_cons, List.map_cons, hR _ _ r, paired_keys hR t]
theorem okE_take {k : Nat} {es : List (Key × Val)} (h : okE k es) : es.length ≤ 4 := h.1
theorem ok_Table_init (T : Tx w K mg) (k : Nat) : Gd P w K base mg CX0 (k + 2) (He.fAd K d_Table_init.at_) ["self", "entries"] [] (spTable K k) := by
  have G_is_integer := ok_is_integer (P := P) (w := w) (base := base) T
  have G_fresh := ok_fresh (P := P) (w := w) (base := base) T k
  refine mkGdD (T.f_Table_init) sc_Table_init (fun vs H Q E h => ?_) (fun fd F => ?_) (fun cdv A outer s H vs Q E hr h => ?_)
  · obtain ⟨p, a, dx, ts, es, ps, rfl, _⟩ := h
    rfl
  · obtain ⟨ds, h1, h2⟩ := FunD.binds1 (ps := ["self", "entries"]) F 2 1 (by intro z; cases z) rfl fun T kV doc pm an cdv ct us its h1 h2 => match us, h1 with
      | [_, _], _ => match its, h2 with
        | [_], _ => ⟨_, rfl, rfl⟩
    cases ds with
    | nil => exact h2
    | cons d r => cases h1
  · have hu := hu_of hr
    obtain ⟨p, a, dx, ts, es, ps, rfl, hp, hS, hps, np, hE, okes, q⟩ := h
    obtain ⟨h4, hnd, hok⟩ := okes
    have hlen := Paired.length hE
    refine ⟨_, (pss_cons (ps_set (i := 2) sc_Table_init.nd rfl (Or.inl rfl) pe_dnewK)
      (pss_cons (ps_for PassesOwn.never rfl (pi_list (pv 1)) (pg_tup rfl (pgs_cons (pg_name (i := 3) sc_Table_init.nd rfl (Or.inl rfl)) (pgs_cons (pg_name (i := 4) sc_Table_init.nd rfl (Or.inl rfl)) pgs_nil)))
      (pss_cons (ps_if (PW.pt (pw_and (pt_not (pt_val (pe_callG G_is_integer T.g_is_integer (hr.mono (by first | decide | omega)) pass0 (pa_cons (pv 3) pa_nil)))) (pw_and1 (pt_not (pt_val (pe_callB call_isi (by rfl) T.n_isinstance (by decide +kernel) (pa_cons (pv 3) (pa_cons (pe_bltn (v := .ty "str") (u := .type "str") (by rfl) T.n_str (by decide +kernel) rfl) pa_nil)))))))) (pss_one ps_never) pss_nil)
      (pss_cons (ps_if (pt_cmp (pc_din hu (pv 3) (pv 2))) (pss_one ps_never) pss_nil)
      (pss_one (ps_dput hu (pv 2) (pv 3) (pe_callG G_fresh T.g_fresh (hr.mono (by first | decide | omega)) pass0 (pa_cons (pv 4) pa_nil)) rfl)))))
      (pss_one (ps_frz (ps_fld (pv 0) (pv 2) rfl))))), ?_⟩
    refine fun d hd => ⟨_, rfl, a, rfl, ⟨_, Same.seq (Same.nu hd) hS⟩, for_list (xs := ts)
      (fun i σ H' => (∃ u v, σ = [some (.ref p), some (.ref a), some (.ref d), u, v]) ∧ Same H H' ∧ ∃ kvs, H' d = some (.dK kvs) ∧ Paired (fun x e => x.1 = e.1 ∧ VAt (CT K) (cut H' (d :: p :: ps)) k x.2 e.2) kvs (es.take i)) ?_ ?_ ?_ ?_⟩
    · exact ⟨⟨_, _, rfl⟩, Same.nu hd, [], upd_same, by rw [List.take_zero]; exact .nil⟩
    · rintro i σ H' _ ⟨_, s1, _⟩
      exact Same.seq s1 hS
    · rintro i t σ H' ht ⟨⟨u, v, rfl⟩, s1, kvs, hkv, hpr⟩
      obtain ⟨e, he, b, y, rfl, hb, hy⟩ := Paired.at hE ht
      obtain ⟨ok1, ok2⟩ := hok e (List.mem_of_getElem? he)
      have hkeys := paired_keys (fun _ _ z => z.1) hpr
      have hpps : Has H (p :: ps) := fun c hc => by
        rcases List.mem_cons.mp hc with z | z
        · rw [z, hp]; simp
        · exact hps c z
      have hout : valV kvs e.1 = none := valV_out (by rw [hkeys]; exact nd_at hnd he)
      refine ⟨b, _, rfl, SqT.of (s1 _ _ hb), rfl, _, _, rfl, _, _, rfl, rfl, ?_⟩
      obtain ⟨t2, y2, k2⟩ := isi T "str" (H := H') (G := H') (Same.refl H') (key_at e.1)
      refine ⟨_, rfl, _, _, H', 0, rfl, Same.refl H', key_at e.1, _, rfl, ?_⟩
      have tail : sDPut (tVar 2) (tVar 3) (tCall (spFresh K k) [] (fun _ _ _ => False) (tCons (tVar 4) tNil)) { nx := fun σ H' => (∃ u v, σ = [some (.ref p), some (.ref a), some (.ref d), u, v]) ∧ Same H H' ∧ ∃ kvs, H' d = some (.dK kvs) ∧ Paired (fun x e => x.1 = e.1 ∧ VAt (CT K) (cut H' (d :: p :: ps)) k x.2 e.2) kvs (es.take (i + 1)), rt := fun _ _ => False } [some (.ref p), some (.ref a), some (.ref d), some (kV e.1), some y] H' := by
        have hps' : Has H' (d :: p :: ps) := fun c hc => by
          rcases List.mem_cons.mp hc with z | z
          · rw [z, hkv]; simp
          · exact hpps.sx s1 c z
        refine ⟨_, rfl, y, e.2, d :: p :: ps, rfl, hps', VAt.same (cut_add hd s1) hy, ok2, fun H2 z s2 hz => ⟨_, rfl, _, rfl, d, _, rfl, DPut.k (s2 _ _ hkv) (small1000 (by have := Paired.length hpr; rw [List.length_take] at this; omega)), ⟨_, _, rfl⟩, Same.mk'' (s1.trans s2) hd, _, upd_same, ?_⟩⟩
        rw [putK_new _ hout, take_snoc he, cut_cons]
        exact Paired.snoc (Paired.mapP hpr fun x e w => ⟨w.1, VAt.same (cut_sx (Sx.of s2)) w.2⟩) ⟨rfl, hz⟩
      obtain ⟨ek, ev⟩ := e
      cases ek with
      | inl n =>
        refine iteF ⟨_, rfl, _, rfl, d, _, rfl, DGet.k (k := Sum.inl n) hkv, _, rfl, ?_⟩
        rw [hout]
        exact iteF tail
      | inr z =>
        refine iteT ⟨_, rfl, _, _, t2, _, _, rfl, .ty _, y2, k2, _, rfl, iteF ⟨_, rfl, _, rfl, d, _, rfl, DGet.k (k := Sum.inr z) hkv, _, rfl, ?_⟩⟩
        rw [hout]
        exact iteF tail
    · rintro σ H' ⟨⟨u, v, rfl⟩, s1, kvs, hkv, hpr⟩
      rw [List.take_of_length_le (by omega)] at hpr
      have hp' := s1 _ _ hp
      have npd : p ≠ d := ne_of_none hp hd
      have nd : d ∉ ps := hps.new hd
      refine ⟨_, rfl, _, rfl, p, _, _, _, rfl, hp', T.cl_Table, T.a_Table_held, (by show 0 < 1000; decide), d, .dK kvs, by rw [upd_ne npd.symm]; exact hkv, True.intro, fun od => ?_⟩
      refine q _ (fun b o nb hb => ?_) (.inr (.inr ⟨es, p, dx, d, od, kvs, rfl, rfl, cut_at np (by rw [upd_ne npd]; exact upd_same), cut_at nd upd_same, Paired.mapP hpr fun x e z => ⟨z.1, VAt.same (fun b o hb => ?_) z.2⟩⟩))
      · rw [upd_ne (ne_of_none hb hd), upd_ne nb]
        exact s1 b o hb
      · have hb1 := cut_le b o hb
        have nb : b ∉ d :: p :: ps := fun z => by
          unfold cut at hb
          rw [if_pos z] at hb
          cases hb
        simp only [List.mem_cons, not_or] at nb
        exact cut_at nb.2.2 (by rw [upd_ne nb.1, upd_ne nb.2.1]; exact hb1)
def spEntries (K : PySem.W.Frag) (k : Nat) : Sp := fun vs H Q _ => ∃ x es ps, vs = [x] ∧ Has H ps ∧ VAt (CT K) (cut H ps) (k + 1) x (.tab es) ∧ okE k es ∧
  ∀ H' l ts, Same H H' → H l = none → H' l = some (.lst ts) → Paired (EntAt K H' (l :: ps) k) ts es → Q (.ref l) H'
theorem ent_same {K : PySem.W.Frag} {H H' : Hp} {ps qs : List Addr} {k : Nat} {t : V} {e : Key × Val} (s : Same H H') (c : Same (cut H ps) (cut H' qs)) (h : EntAt K H ps k t e) : EntAt K H' qs k t e := by
  obtain ⟨b, y, e1, h1, h2⟩ := h
  exact ⟨b, y, e1, s _ _ h1, VAt.same c h2⟩
theorem cut_put {H : Hp} {ps : List Addr} {q : Addr} {o : HO} (hq : H q = none) : Same (cut H ps) (cut (upd H q o) ps) := cut_sx (Sx.of (Same.nu hq))
theorem ok_Table_entries (T : Tx w K mg) (k : Nat) : Gd P w K base mg CX0 (k + 2) (He.fAd K d_Table_entries.at_) ["self"] [] (spEntries K k) := by
  have G_fresh := ok_fresh (P := P) (w := w) (base := base) T k
  refine mkGd (T.f_Table_entries) sc_Table_entries (fun vs H Q E h => ?_) (fun _ _ _ _ _ _ us hl => match us, hl with | [_], _ => rfl) (fun cdv A outer s H vs Q E hr h => ?_)
  · obtain ⟨x, es, ps, rfl, _⟩ := h
    rfl
  · have hu := hu_of hr
    obtain ⟨x, es, ps, rfl, hps, hv, okes, q⟩ := h
    obtain ⟨h4, hnd, hok⟩ := okes
    obtain ⟨j, p, dx, d, od, kvs, ej, rfl, hp, hd, hpr⟩ := at_tab hv
    cases ej
    have hp := cut_le _ _ hp
    have hd' := cut_le _ _ hd
    have hlen := Paired.length hpr
    refine ⟨_, (pss_one (ps_ret (pe_lc (own := [("key", 1), ("item", 2)]) (g := gTup K 2 (gCons (gName 1) (gCons (gName 2) gNil))) (tt := tYes) rfl sc_Table_entries.nd (pi_items (pe_fld (pv 0) rfl)) (blkOk_by (own := [("key", 1), ("item", 2)]) (N := N_Table_entries) (sc := defScope s_Table_entries) (by decide +kernel)) (fun _ _ _ _ _ => (pg_tup rfl (pgs_cons (pg_name (i := 1) sc_Table_entries.nd rfl (Or.inl rfl)) (pgs_cons (pg_name (i := 2) sc_Table_entries.nd rfl (Or.inl rfl)) pgs_nil)))) (fun _ _ _ _ _ => pts_nil) (fun _ _ _ _ _ => (pe_tup (pa_cons (pv 1) (pa_cons (pe_callG G_fresh T.g_fresh (hr.mono (by first | decide | omega)) pass0 (pa_cons (pv 2) pa_nil)) pa_nil))))))), ?_⟩
    refine ⟨_, rfl, p, _, _, _, _, rfl, hp, T.cl_Table, T.a_Table_held, rfl, d, od, kvs, rfl, hd', fun D hD => lc_it walk_items
      (fun i H' => Same H H' ∧ ∃ ts, H' D = some (.lst ts) ∧ Paired (EntAt K H' (D :: ps) k) ts (es.take i)) ?_ ?_ ?_ ?_⟩
    · exact ⟨Same.nu hD, [], upd_same, by rw [List.take_zero]; exact .nil⟩
    · rintro i H' _ ⟨s1, _⟩
      exact s1 _ _ hd'
    · rintro i x H1 H2 hi ⟨s1, ts, hts, hpt⟩ ⟨t, x1, x2, rfl, ht, rfl, e1, e2⟩
      dsimp only at e1 e2
      cases ekv : kvs[i]? with
      | none => rw [ekv] at e1; cases e1
      | some kv =>
      rw [ekv] at e1 e2
      cases e1
      cases e2
      obtain ⟨e, he, hk, hy⟩ := Paired.at hpr ekv
      have hDp : Has (upd H1 t (.tup [kV kv.1, kv.2])) (D :: ps) := fun c hc => by
        rcases List.mem_cons.mp hc with z | z
        · rw [z, Same.nu ht _ _ hts]; simp
        · exact hps.sx (s1.trans (Same.nu ht)) c z
      refine ⟨t, _, rfl, SqT.of upd_same, rfl, _, _, rfl, _, _, rfl, rfl, rfl, _, rfl, _, rfl, _, e.2, D :: ps, rfl, hDp, ?_, (hok e (List.mem_of_getElem? he)).2, fun H2 y s2 hy2 => ⟨(by show 2 ≤ sizeLine; decide), fun q2 hq2 => ?_⟩⟩
      · exact VAt.same (fun b o hb => (cut_put ht) b o ((cut_add hD s1) b o hb)) hy
      have sAll : Same H1 H2 := (Same.nu ht).trans s2
      have nq : D ≠ q2 := ne_of_none (sAll _ _ hts) hq2
      refine ⟨ts, (Same.nu hq2) _ _ (sAll _ _ hts), small1000 (by have := Paired.length hpt; rw [List.length_take] at this; omega), Same.mk'' ((s1.trans sAll).trans (Same.nu hq2)) hD, _, upd_same, ?_⟩
      have cc : Same (cut H1 (D :: ps)) (cut (upd (upd H2 q2 (.tup [kV kv.1, y])) D (.lst (ts ++ [.ref q2]))) (D :: ps)) := by
        rw [cut_cons]
        exact fun b o hb => cut_put hq2 b o (cut_sx (Sx.of sAll) b o hb)
      have ss : ∀ b o, b ≠ D → H1 b = some o → (upd (upd H2 q2 (.tup [kV kv.1, y])) D (.lst (ts ++ [.ref q2]))) b = some o := fun b o n hb => by
        rw [upd_ne n]
        exact (Same.nu hq2) _ _ (sAll _ _ hb)
      rw [take_snoc he]
      refine Paired.snoc (Paired.mapP hpt fun t e hh => ?_) ?_
      · obtain ⟨b, y0, e1, h1, h2⟩ := hh
        exact ⟨b, y0, e1, ss b _ (ne_of h1 hts (by intro z; cases z)) h1, VAt.same cc h2⟩
      · refine ⟨q2, y, rfl, ?_, ?_⟩
        · rw [upd_ne nq.symm, upd_same]
          show some (HO.tup [kV kv.1, y]) = _
          rw [hk]
        · rw [cut_cons]
          exact VAt.same (cut_put hq2) hy2
    · rintro H' ⟨s1, ts, hts, hpt⟩
      rw [List.take_of_length_le (by omega)] at hpt
      exact q H' D ts s1 hD hts hpt
end
end Kt
set_option Elab.async false
set_option linter.all false
set_option maxRecDepth 100000
set_option maxHeartbeats 4000000
namespace Kt
open PySem PySem.Spec PyProof.Rows L2 Rz _root_.TL
section
variable {P : Program} {w : World} {K : PySem.W.Frag} {mg : Str → Option Value} {base : Heap}
/-- the class of the passages; the code object of kept_entries and its table; the lambda's name -/
abbrev CW (K : PySem.W.Frag) : Addr := He.ga K "Passage"
abbrev keD : He.Defn := ("Writer", some "kept_entries")
abbrev keT (K : PySem.W.Frag) : Addr := (He.cT K keD).2
def lamQ : Str := d_Writer_kept_entries.qual ++ ".<locals>." ++ "<lambda>"
abbrev TT (K : PySem.W.Frag) : List (Addr × Str) := [(keT K, lamQ)]
def optF (o : Opt) : List (Str × V) := [("number_keys", .str o.nk), ("tuples", .str o.tp), ("nulls", .str o.nl), ("double_keys", .str o.dk), ("order", .str o.od), ("long_numbers", .str o.ln)]
def rdF (r : ROpt) : List (Str × V) := [("same_keys", .str r.sk), ("digit_keys", .str r.dg), ("lists", .str r.ls), ("null_items", .str r.ni)]
def PAt (K : PySem.W.Frag) (H : Hp) (p : Addr) (o : Opt) (r : ROpt) : Prop := ∃ dx, H p = some (.ins (CW K) dx (optF o ++ rdF r))
/-- a passage as a writer, as a reader -/
def WAt (K : PySem.W.Frag) (H : Hp) (p : Addr) (o : Opt) : Prop := ∃ y : Addr × ROpt, H p = some (.ins (CW K) y.1 (optF o ++ rdF y.2))
def DAt (K : PySem.W.Frag) (H : Hp) (p : Addr) (r : ROpt) : Prop := ∃ y : Addr × Opt, H p = some (.ins (CW K) y.1 (optF y.2 ++ rdF r))
theorem PAt.wr {K : PySem.W.Frag} {H : Hp} {p : Addr} {o : Opt} {r : ROpt} (h : PAt K H p o r) : WAt K H p o := let ⟨dx, e⟩ := h; ⟨(dx, r), e⟩
theorem PAt.rd {K : PySem.W.Frag} {H : Hp} {p : Addr} {o : Opt} {r : ROpt} (h : PAt K H p o r) : DAt K H p r := let ⟨dx, e⟩ := h; ⟨(dx, o), e⟩
/-- what is known of the heap is kept but for the tables of code; those are well -/
def Xt (K : PySem.W.Frag) (H H' : Hp) : Prop := LamX.ExtN H H' ∧ LamX.Tabs (TT K) H'
theorem Xt.of {K : PySem.W.Frag} {H H1 H' : Hp} (a : Xt K H H1) (s : Same H1 H') : Xt K H H' := ⟨a.1.trans (LamX.ExtN.of s), a.2.ext s⟩
theorem Xt.trans {K : PySem.W.Frag} {H H1 H' : Hp} (a : Xt K H H1) (b : Xt K H1 H') : Xt K H H' := ⟨a.1.trans b.1, b.2⟩
theorem Xt.same {K : PySem.W.Frag} {H H' : Hp} (t : LamX.Tabs (TT K) H) (s : Same H H') : Xt K H H' := ⟨LamX.ExtN.of s, t.ext s⟩
theorem PAt.x {K : PySem.W.Frag} {H H' : Hp} {p : Addr} {o : Opt} {r : ROpt} (h : PAt K H p o r) (x : LamX.ExtN H H') : PAt K H' p o r := let ⟨dx, e⟩ := h; ⟨dx, x _ _ e fun _ z => nomatch z⟩
theorem DAt.x {K : PySem.W.Frag} {H H' : Hp} {p : Addr} {r : ROpt} (h : DAt K H p r) (x : LamX.ExtN H H') : DAt K H' p r := let ⟨dx, e⟩ := h; ⟨dx, x _ _ e fun _ z => nomatch z⟩
theorem WAt.x {K : PySem.W.Frag} {H H' : Hp} {p : Addr} {o : Opt} (h : WAt K H p o) (x : LamX.ExtN H H') : WAt K H' p o := let ⟨dx, e⟩ := h; ⟨dx, x _ _ e fun _ z => nomatch z⟩
theorem VAt.x {C : Addr} {H H' : Hp} (s : LamX.ExtN H H') : ∀ {k : Nat} {v : V} {d : Val}, VAt C H k v d → VAt C H' k v d
  | 0, _, _, h => h
  | k + 1, _, _, h => by
    rcases h with h | ⟨t, l, a, xs, e1, e2, h1, h2⟩ | ⟨es, p, dx, dd, od, kvs, e1, e2, h1, h2, h3⟩
    · exact .inl h
    · exact .inr (.inl ⟨t, l, a, xs, e1, e2, s _ _ h1 (fun ps z => by cases t <;> cases z), Paired.mapP h2 fun _ _ q => VAt.x s q⟩)
    · exact .inr (.inr ⟨es, p, dx, dd, od, kvs, e1, e2, s _ _ h1 (fun _ z => nomatch z), s _ _ h2 (fun _ z => nomatch z), Paired.mapP h3 fun _ _ q => ⟨q.1, VAt.x s q.2⟩⟩)
theorem sqT_x {K : PySem.W.Frag} {H H' : Hp} {a : Addr} {xs : List V} (s : LamX.ExtN H H') (h : SqT K H a xs) : SqT K H' a xs :=
  h.imp_left fun r => r.elim (fun z => .inl (s _ _ z fun _ y => nomatch y)) fun ⟨o, z⟩ => .inr ⟨o, s _ _ z fun _ y => nomatch y⟩
/-- a def that may let an error out, its code object told -/
theorem mkGdXC {x qual : Str} {params : Arguments} {body : List Stmt} {scope : Scope} {at_ : He.Defn} {N ps : List Str} {k : Nat} {sp : Sp} (F : ∃ fd, FunD K x qual params body scope [] [] (He.fAd K at_) fd) (S : FnScope N ps scope) (len : ∀ vs H Q E, sp vs H Q E → vs.length = ps.length)
    (hb : ∀ (kV doc pm : Value) (an : Option Addr) (cdv ct : Value) (us : List Value), us.length = ps.length → bindArgs (PySem.W.fnOf x qual params body scope .none kV doc pm an cdv ct) ⟨us, []⟩ = pure (ps.zip us))
    (hbody : ∀ (c : Addr), c = He.codeOf K at_ → ∀ (A : Around) (outer : List Env) (s : Shared) (H : Hp) (vs : List V) (Q : VK) (E : XK), Room k (A.deeper (envOfC qual scope s.heap.objs.size (He.fAd K at_) (.ref c))) → sp vs H Q E →
      ∃ t, PSs (cxOf (L2N.CX P w) P w K mg base N qual scope (He.fAd K at_) (.ref c) A outer s H E) body t ∧ t { nx := fun _ H' => Q .non H', rt := Q } (start N vs) H) :
    Gd P w K base mg (L2N.CX P w) (k + 1) (He.fAd K at_) ps [] sp := by
  obtain ⟨fd, F⟩ := F
  obtain ⟨oc, od, dV, kV, doc, pm, an, cdv, ct, osl, e, lk, hcd, _, _⟩ := F.ex
  subst e
  obtain ⟨c, rfl⟩ := He.codeIn_ref hcd
  refine ⟨⟨_, [], fn_of lk hcd S len fun A outer s H vs Q E hr hsp => hbody c (He.codeOf_eq lk rfl).symm A outer s H vs Q E hr hsp, .nil, F.bindsN hb⟩, F.kp⟩
/-- raising: the heap behind it -/
theorem rais_end {H H2 : Hp} {a D d : Addr} {fs : List (Str × V)} (ha : H a = none) (hd : (upd H a (exo a D none)) d = none) (hk : ∀ b o, b ≠ a → (upd H a (exo a D none)) b = some o → H2 b = some o) :
    H d = none ∧ Same H (upd (del H2 a) d (.xd fs)) := by
  have e : d ≠ a := fun z => by
    rw [z, upd_same] at hd
    cases hd
  have hd' : H d = none := by
    rw [upd_ne e] at hd
    exact hd
  refine ⟨hd', fun b o q => ?_⟩
  have nb : b ≠ a := ne_of_none q ha
  rw [upd_ne (ne_of_none q hd'), del_ne nb]
  exact hk b o nb (by rw [upd_ne nb]; exact q)
/-- what a caught error tells -/
def XdAt (H : Hp) (d : Addr) : Prop := ∃ r pth : V, H d = some (.xd [("path", pth), ("reason", r)])
/-- raise Unwritable(r, path) -/
theorem rais_U (T : Tx w K mg) {H : Hp} {r pth : V} {E : XK} (k : ∀ d H', Same H H' → XdAt H' d → E (.ref (He.ga K "Unwritable")) (some d) H') :
    [r, pth].length ≤ 1000 ∧ ∀ a, H a = none → spErr K ["reason", "path"] (.ref a :: ([r, pth] ++ [])) (upd H a (exo a (He.ga K "Unwritable") none))
      (fun v H2 => v = .non ∧ ∃ (d : Addr) (fs : List (Str × V)), H2 a = some (exo a (He.ga K "Unwritable") (some d)) ∧ H2 d = some (exd d fs) ∧ H d = none ∧ E (.ref (He.ga K "Unwritable")) (some d) (upd (del H2 a) d (.xd fs))) (fun _ _ _ => False) := by
  refine ⟨(by show 2 ≤ 1000; decide), fun x hx => ⟨x, _, _, rfl, rfl, upd_same, T.ex'.o, ?_, fun dx H1 hdx _ he hk => ⟨rfl, dx, _, he.1, he.2, (rais_end (fs := []) hx hdx hk).1, k dx _ (rais_end hx hdx hk).2 ⟨r, pth, upd_same⟩⟩⟩⟩
  intro f hf
  simp only [List.mem_cons, List.not_mem_nil, or_false] at hf
  rcases hf with rfl | rfl
  · exact T.a_Unwritable_reason
  · exact T.a_Unwritable_path
/-- raise Unreadable(r, path) -/
theorem rais_D (T : Tx w K mg) {H : Hp} {r pth : V} {E : XK} (k : ∀ d H', Same H H' → XdAt H' d → E (.ref (He.ga K "Unreadable")) (some d) H') :
    [r, pth].length ≤ 1000 ∧ ∀ a, H a = none → spErr K ["reason", "path"] (.ref a :: ([r, pth] ++ [])) (upd H a (exo a (He.ga K "Unreadable") none))
      (fun v H2 => v = .non ∧ ∃ (d : Addr) (fs : List (Str × V)), H2 a = some (exo a (He.ga K "Unreadable") (some d)) ∧ H2 d = some (exd d fs) ∧ H d = none ∧ E (.ref (He.ga K "Unreadable")) (some d) (upd (del H2 a) d (.xd fs))) (fun _ _ _ => False) := by
  refine ⟨(by show 2 ≤ 1000; decide), fun x hx => ⟨x, _, _, rfl, rfl, upd_same, (T.exA (x := "Unreadable") (by simp [errN])).o, ?_, fun dx H1 hdx _ he hk => ⟨rfl, dx, _, he.1, he.2, (rais_end (fs := []) hx hdx hk).1, k dx _ (rais_end hx hdx hk).2 ⟨r, pth, upd_same⟩⟩⟩⟩
  intro f hf
  simp only [List.mem_cons, List.not_mem_nil, or_false] at hf
  rcases hf with rfl | rfl
  · exact T.a_Unreadable_reason
  · exact T.a_Unreadable_path
/-- the wish of a def that refuses -/
def Ref (K : PySem.W.Frag) (H : Hp) (E : XK) : Prop := ∀ d H', Xt K H H' → XdAt H' d → E (.ref (He.ga K "Unwritable")) (some d) H'
def RefD (K : PySem.W.Frag) (H : Hp) (E : XK) : Prop := ∀ d H', Same H H' → XdAt H' d → E (.ref (He.ga K "Unreadable")) (some d) H'
def EntB (K : PySem.W.Frag) (H : Hp) (k : Nat) (t : V) (e : Key × Val) : Prop := ∃ b y, t = .ref b ∧ H b = some (.tup [kV e.1, y]) ∧ VAt (CT K) H k y e.2
/-- an entry in a tuple of H', its item as it stood at H -/
def EntC (K : PySem.W.Frag) (H H' : Hp) (k : Nat) (t : V) (e : Key × Val) : Prop := ∃ b y, t = .ref b ∧ H' b = some (.tup [kV e.1, y]) ∧ VAt (CT K) H k y e.2
def spKept (K : PySem.W.Frag) (k : Nat) : Sp := fun vs H Q E => ∃ (p : Addr) (x : V) (pth : Addr) (xs : List V) (o : Opt) (es : List (Key × Val)) (G : Hp), vs = [.ref p, x, .ref pth] ∧ WAt K H p o ∧ LamX.ExtN G H ∧ VAt (CT K) G (k + 1) x (.tab es) ∧ okE k es ∧
  SqT K H pth xs ∧ xs.length ≤ 100 ∧ LamX.Tabs (TT K) H ∧ (bad o es = true → Ref K H E) ∧ (bad o es = false → ∀ H' l ts, Xt K H H' → (∀ b u, H b = some u → (∀ q, u ≠ .tbl q) → l ≠ b) → H' l = some (.lst ts) → Paired (EntC K G H' k) ts (ordE o (kept o es)) → Q (.ref l) H')
theorem at_non {C : Addr} {G : Hp} {k : Nat} {x : V} {d : Val} (h : VAt C G k x d) : decide (x = .non) = isN d := by
  have fl : Rz.flat d = some x → decide (x = .non) = isN d := fun e => by cases d <;> cases e <;> rfl
  cases k with
  | zero => exact fl h
  | succ k =>
    rcases h with h | ⟨t, l, a, xs, rfl, rfl, _⟩ | ⟨es, p, dx, dd, od, kvs, rfl, rfl, _⟩
    · exact fl h
    · rfl
    · rfl
/-- the key that the lambda gives -/
def keyOf (H : Hp) : V → Str
  | .ref b => (match H b with
    | some (.tup (.int i :: _)) => istr i
    | some (.tup (.str z :: _)) => z
    | _ => "")
  | _ => ""
theorem keyOf_at {H : Hp} {b : Addr} {e : Key} {y : V} (h : H b = some (.tup [kV e, y])) : keyOf H (.ref b) = keyT e := by
  show (match H b with
    | some (.tup (.int i :: _)) => istr i
    | some (.tup (.str z :: _)) => z
    | _ => "") = _
  rw [h]
  cases e <;> rfl
theorem paired_each {α β : Type} {R : α → β → Prop} : ∀ {l : List α} {m : List β}, Paired R l m → PySem.W.EachIs R l m
  | _, _, .nil => .nil
  | _, _, .cons h t => .cons h (paired_each t)
theorem each_paired {α β : Type} {R : α → β → Prop} : ∀ {l : List α} {m : List β}, PySem.W.EachIs R l m → Paired R l m
  | _, _, .nil => .nil
  | _, _, .cons h t => .cons h (each_paired t)
theorem sorted_paired {H : Hp} {R : V → Key × Val → Prop} {ts : List V} {es : List (Key × Val)} (h : Paired R ts es) (hk : ∀ t e, R t e → keyOf H t = keyT e.1) : Paired R (ts.mergeSort (leK (keyOf H))) (es.mergeSort leE) := by
  refine each_paired (PySem.W.sort_each (paired_each h) fun p hp q hq => ?_)
  have e1 := hk _ _ ((paired_each h).zip p hp)
  have e2 := hk _ _ ((paired_each h).zip q hq)
  unfold leK leE PySem.W.dataLe PySem.W.sortLe
  simp only [e1, e2]
theorem entB_x {K : PySem.W.Frag} {H H' : Hp} {k : Nat} {t : V} {e : Key × Val} (s : LamX.ExtN H H') (h : EntB K H k t e) : EntB K H' k t e := by
  obtain ⟨b, y, e1, h1, h2⟩ := h
  exact ⟨b, y, e1, s _ _ h1 (fun _ z => nomatch z), VAt.x s h2⟩
theorem strEq {a b : Str} : decide (V.str a = V.str b) = (a == b) := by
  by_cases h : a = b
  · subst h; simp
  · rw [decide_eq_false fun z => h (V.str.inj z)]
    exact (beq_eq_false_iff_ne.mpr h).symm
theorem bad_snoc {o : Opt} {l : List (Key × Val)} {e : Key × Val} : bad o (l ++ [e]) = (bad o l || (seen o e && (isI e.1 && o.nk == "refuse"))) := by
  unfold bad
  rw [List.any_append]
  simp
theorem kept_snoc {o : Opt} {l : List (Key × Val)} {e : Key × Val} : kept o (l ++ [e]) = kept o l ++ (if (seen o e && (!isI e.1 || o.nk == "text")) = true then [e] else []) := by
  unfold kept
  rw [List.filter_append]
  congr 1
  simp only [List.filter_cons, List.filter_nil]
theorem bad_of {o : Opt} {l : List (Key × Val)} {e : Key × Val} (h : e ∈ l) (b : (seen o e && (isI e.1 && o.nk == "refuse")) = true) : bad o l = true := List.any_eq_true.mpr ⟨e, h, b⟩
theorem int_key {y : Key} : isInt (keyV y) = isI y := by cases y <;> rfl
theorem str_key {y : Key} : isT "str" (keyV y) = !isI y := by cases y <;> rfl
theorem ok_Writer_kept_entries (T : Tx w K mg) (hTB : LamX.TabB base mg (He.codeOf K keD) (keT K)) (k : Nat) : Gd P w K base mg (L2N.CX P w) 6 (He.fAd K d_Writer_kept_entries.at_) ["self", "table", "path"] [] (spKept K k) := by
  have G_is_integer := ok_is_integer (P := P) (w := w) (base := base) T
  have G_key_text := ok_key_text (P := P) (w := w) (base := base) T
  have G_Unwritable_init := ok_Unwritable_init (P := P) (w := w) (base := base) T
  refine mkGdXC (T.f_Writer_kept_entries) sc_Writer_kept_entries (fun vs H Q E h => ?_) (fun _ _ _ _ _ _ us hl => match us, hl with | [_, _, _], _ => rfl) (fun c hc A outer s H vs Q E hr h => ?_)
  · obtain ⟨p, x, pth, xs, o, es, G, rfl, _⟩ := h
    rfl
  · have hu := hu_of hr
    subst hc
    have tk : L2N.Takes _ (fun c d _ H => E c d H) := L2N.takes_of (X := cxOf (L2N.CX P w) P w K mg base N_Writer_kept_entries d_Writer_kept_entries.qual (defScope s_Writer_kept_entries) (He.fAd K d_Writer_kept_entries.at_) (.ref (He.codeOf K keD)) A outer s H E) rfl rfl rfl rfl
    have hcode : (cxOf (L2N.CX P w) P w K mg base N_Writer_kept_entries d_Writer_kept_entries.qual (defScope s_Writer_kept_entries) (He.fAd K d_Writer_kept_entries.at_) (.ref (He.codeOf K keD)) A outer s H E).env.code = .ref (He.codeOf K keD) := rfl
    have hmT : (keT K, lamQ) ∈ TT K := List.mem_singleton.mpr rfl
    have hu1 : ∀ p ∈ TT K, p.1 = keT K → p.2 = lamQ := fun p hp _ => by rw [List.mem_singleton.mp hp]
    obtain ⟨p, x, pth, xs, o, es, G, rfl, hW, hG, hv, okes, hP, hxs, hT, qE, q⟩ := h
    obtain ⟨h4, hnd, hok⟩ := okes
    obtain ⟨dw, hW⟩ := hW
    obtain ⟨j, tp, dx, d, od, kvs, ej, rfl, hp, hd, hpr⟩ := at_tab hv
    cases ej
    have hp := hG _ _ hp fun _ z => nomatch z
    have hd := hG _ _ hd fun _ z => nomatch z
    have hlen := Paired.length hpr
    refine ⟨_, (pss_cons (ps_set (i := 3) sc_Writer_kept_entries.nd rfl (Or.inl rfl) (pe_lst pa_nil))
      (pss_cons (ps_for (passes_of rfl) rfl (pi_items (pe_fld (pv 1) rfl)) (pg_tup rfl (pgs_cons (pg_name (i := 4) sc_Writer_kept_entries.nd rfl (Or.inl rfl)) (pgs_cons (pg_name (i := 5) sc_Writer_kept_entries.nd rfl (Or.inl rfl)) pgs_nil)))
      (pss_cons (ps_if (PW.pt (pw_and (pt_cmpR op_isN (pv 5) pe_non (nomark _)) (pw_and1 (pt_cmpR op_eq (pe_fld (pv 0) rfl) pe_str (nomark _))))) (pss_one ps_continue) pss_nil)
      (pss_cons (ps_if (PW.pt (pw_and (pt_val (pe_callG G_is_integer T.g_is_integer (hr.mono (by first | decide | omega)) pass0 (pa_cons (pv 4) pa_nil))) (pw_and1 (pt_cmpR op_eq (pe_fld (pv 0) rfl) pe_str (nomark _))))) (pss_one (L2N.ps_raise rfl tk (pmk_G (T.exA (x := "Unwritable") (by simp [errN])) G_Unwritable_init T.g_Unwritable (hr.mono (by first | decide | omega)) pass0 (pa_cons pe_str (pa_cons (pe_op (r := rCatA K) op_catA (pv 2) (pe_tup (pa_cons (pv 4) pa_nil))) pa_nil))))) pss_nil)
      (pss_one (ps_if (PW.pt (pw_or (pt_val (pe_callB call_isi (by rfl) T.n_isinstance (by decide +kernel) (pa_cons (pv 4) (pa_cons (pe_bltn (v := .ty "str") (u := .type "str") (by rfl) T.n_str (by decide +kernel) rfl) pa_nil)))) (pw_or1 (pt_cmpR op_eq (pe_fld (pv 0) rfl) pe_str (nomark _))))) (pss_one (ps_expr (pe_bm PySem.F.plainAttrs_list PySem.F.slot_list_append PySem.F.type_list_append mt_append (pv 3) (pa_cons (pe_tup (pa_cons (pv 4) (pa_cons (pv 5) pa_nil))) pa_nil)))) pss_nil)))))
      (pss_cons (ps_if (pt_cmpR op_eq (pe_fld (pv 0) rfl) pe_str (nomark _)) (pss_one (ps_ret (pe_sortLam (N := ["entry"]) (a := "entry") rfl (by rfl) T.n_sorted (pa_cons (pv 3) pa_nil) hTB hcode hmT hu1 (hr.mono (by first | decide | omega)) ⟨rfl, rfl, rfl, by decide +kernel, rfl, by decide +kernel, by decide +kernel⟩ rfl (fun _ _ _ _ _ => rfl) (fun _ _ _ _ _ _ _ hr2 => (pe_callG G_key_text T.g_key_text hr2 pass0 (pa_cons (pe_ix (r := rIxT K) ix_tup (pv 0) pe_int (fun _ _ => rfl)) pa_nil)))))) pss_nil)
      (pss_one (ps_ret (pv 3)))))), ?_⟩
    refine ⟨Nat.zero_le _, fun L hL => ⟨_, rfl, tp, _, _, _, _, rfl, (Same.nu hL) _ _ hp, T.cl_Table, T.a_Table_held, rfl, d, od, kvs, rfl, (Same.nu hL) _ _ hd, for_it walk_items
      (fun i σ H' => (∃ u v, σ = [some (.ref p), some (.ref tp), some (.ref pth), some (.ref L), u, v]) ∧ Same H H' ∧ bad o (es.take i) = false ∧ ∃ ts, H' L = some (.lst ts) ∧ ts.length ≤ i ∧ Paired (EntC K G H' k) ts (kept o (es.take i))) ?_ ?_ ?_ ?_⟩⟩
    · exact ⟨⟨_, _, rfl⟩, Same.nu hL, by rw [List.take_zero]; rfl, [], upd_same, Nat.le_refl _, by rw [List.take_zero]; exact .nil⟩
    · rintro i σ H' _ ⟨_, s1, _⟩
      exact s1 _ _ hd
    · rintro i y σ H1 H2 hi ⟨⟨u, v, rfl⟩, s1, hb, ts, hts, htl, hpt⟩ ⟨t, x1, x2, rfl, ht, rfl, e1, e2⟩
      dsimp only at e1 e2
      cases ekv : kvs[i]? with
      | none => rw [ekv] at e1; cases e1
      | some kv =>
      rw [ekv] at e1 e2
      cases e1
      cases e2
      obtain ⟨e, he, hk, hy⟩ := Paired.at hpr ekv
      obtain ⟨ky, kx⟩ := kv
      dsimp only at hk hy
      subst hk
      dsimp only
      have hTs := (Same.nu (o := .tup [kV e.1, kx]) ht)
      have s2 := s1.trans hTs
      have hW2 := s2 _ _ hW
      have hL2 := hTs _ _ hts
      have em : e ∈ es := List.mem_of_getElem? he
      have hpt2 : Paired (EntC K G (upd H1 t (.tup [kV e.1, kx])) k) ts (kept o (es.take i)) := Paired.mapP hpt fun _ _ ⟨b, y, e1, h1, h2⟩ => ⟨b, y, e1, hTs _ _ h1, h2⟩
      have hy2 : VAt (CT K) (upd H1 t (.tup [kV e.1, kx])) k kx e.2 := VAt.same s2 (VAt.x hG hy)
      rw [take_snoc he]
      generalize hH2 : upd H1 t (.tup [kV e.1, kx]) = H2 at hTs s2 hW2 hL2 hpt2 hy2
      have ht2 : H2 t = some (.tup [kV e.1, kx]) := by rw [← hH2]; exact upd_same
      have go : ∀ (Z : Prop), Z → Z := fun _ z => z
      refine ⟨t, _, rfl, SqT.of ht2, rfl, _, _, rfl, _, _, rfl, rfl, ?_⟩
      obtain ⟨t2, y2, k2⟩ := isi T "str" (H := H2) (G := H2) (Same.refl H2) (key_at e.1)
      -- the end of a turn
      have third : seen o e = true → (isI e.1 && o.nk == "refuse") = false → tIfS (tOr (tB (tCB (rIsi K) (tCons (tVar 4) (tCons (tC (V.ty "str")) tNil)))) (tTest (tOp rEq (tFld K (tVar 0) "number_keys") (tC (V.str "text"))))) (tDrop (tBM K "list" rAppend (tVar 3) (tCons (tTup (tCons (tVar 4) (tCons (tVar 5) tNil))) tNil))) tNext
          { nx := fun σ H' => (∃ u v, σ = [some (.ref p), some (.ref tp), some (.ref pth), some (.ref L), u, v]) ∧ Same H H' ∧ bad o (es.take i ++ [e]) = false ∧ ∃ ts, H' L = some (.lst ts) ∧ ts.length ≤ i + 1 ∧ Paired (EntC K G H' k) ts (kept o (es.take i ++ [e])), rt := fun _ _ => False }
          [some (.ref p), some (.ref tp), some (.ref pth), some (.ref L), some (kV e.1), some kx] H2 := fun hs hr => by
        have hb2 : bad o (es.take i ++ [e]) = false := by rw [bad_snoc, hb, hs, hr]; rfl
        have app : (!isI e.1 || o.nk == "text") = true → tDrop (tBM K "list" rAppend (tVar 3) (tCons (tTup (tCons (tVar 4) (tCons (tVar 5) tNil))) tNil))
            { nx := fun σ H' => (∃ u v, σ = [some (.ref p), some (.ref tp), some (.ref pth), some (.ref L), u, v]) ∧ Same H H' ∧ bad o (es.take i ++ [e]) = false ∧ ∃ ts, H' L = some (.lst ts) ∧ ts.length ≤ i + 1 ∧ Paired (EntC K G H' k) ts (kept o (es.take i ++ [e])), rt := fun _ _ => False }
            [some (.ref p), some (.ref tp), some (.ref pth), some (.ref L), some (kV e.1), some kx] H2 := fun hk2 => by
          refine ⟨_, rfl, .inl ⟨rfl, _, SqL.of hL2⟩, _, rfl, _, rfl, (by show 2 ≤ sizeLine; decide), fun q2 hq2 => ⟨L, _, _, rfl, rfl, Same.nu hq2 _ _ hL2, small1000 (by omega), ⟨_, _, rfl⟩, Same.mk'' (s2.trans (Same.nu hq2)) hL, hb2, _, upd_same, by rw [List.length_append, List.length_singleton]; omega, ?_⟩⟩
          rw [kept_snoc, hs, hk2]
          have sx : ∀ b o', b ≠ L → H2 b = some o' → (upd (upd H2 q2 (.tup [kV e.1, kx])) L (.lst (ts ++ [.ref q2]))) b = some o' := fun b o' n hb => by
            rw [upd_ne n]
            exact Same.nu hq2 _ _ hb
          refine Paired.snoc (Paired.mapP hpt2 fun t e ⟨b, y, e1, h1, h2⟩ => ⟨b, y, e1, sx b _ (ne_of h1 hL2 (by intro z; cases z)) h1, h2⟩) ⟨q2, kx, rfl, ?_, hy⟩
          rw [upd_ne (ne_of_none hL2 hq2).symm, upd_same]
        refine ⟨_, rfl, kV e.1, _, t2, _, _, rfl, .ty _, y2, k2, _, rfl, ?_⟩
        rw [str_key]
        cases hi : isI e.1 with
        | false => exact iteT (iteT (app (by rw [hi]; rfl)))
        | true =>
          refine iteF ⟨_, rfl, p, _, _, _, _, rfl, hW2, T.cl_Writer, T.a_Writer_number_keys, rfl, rfl, _, rfl, ?_⟩
          rw [strEq]
          cases hn : (o.nk == "text") with
          | true => exact iteT (app (by rw [hn, Bool.or_true]))
          | false => exact iteF ⟨⟨_, _, rfl⟩, s2, hb2, ts, hL2, by omega, by rw [kept_snoc, hi, hn]; simpa using hpt2⟩
      have second : seen o e = true → tSeq (tIfS (tAnd (tB (tCall (spIsInt K) [] E0 (tCons (tVar 4) tNil))) (tTest (tOp rEq (tFld K (tVar 0) "number_keys") (tC (V.str "refuse"))))) (fun x σ H_1 => tMkO (He.ga K "Unwritable") (spErr K ["reason", "path"]) []
          (tCons (tC (V.str "key")) (tCons (tOp (rCatA K) (tVar 2) (tTup (tCons (tVar 4) tNil))) tNil)) σ H_1 fun cls d H' => E cls d H') tNext) (tIfS (tOr (tB (tCB (rIsi K) (tCons (tVar 4) (tCons (tC (V.ty "str")) tNil)))) (tTest (tOp rEq (tFld K (tVar 0) "number_keys") (tC (V.str "text"))))) (tDrop (tBM K "list" rAppend (tVar 3) (tCons (tTup (tCons (tVar 4) (tCons (tVar 5) tNil))) tNil))) tNext)
          { nx := fun σ H' => (∃ u v, σ = [some (.ref p), some (.ref tp), some (.ref pth), some (.ref L), u, v]) ∧ Same H H' ∧ bad o (es.take i ++ [e]) = false ∧ ∃ ts, H' L = some (.lst ts) ∧ ts.length ≤ i + 1 ∧ Paired (EntC K G H' k) ts (kept o (es.take i ++ [e])), rt := fun _ _ => False }
          [some (.ref p), some (.ref tp), some (.ref pth), some (.ref L), some (kV e.1), some kx] H2 := fun hs => by
        refine ⟨_, rfl, kV e.1, _, H2, 0, rfl, Same.refl H2, key_at e.1, _, rfl, ?_⟩
        rw [int_key]
        cases hi : isI e.1 with
        | false => exact iteF (third hs (by rw [hi]; rfl))
        | true =>
          refine iteT ⟨_, rfl, p, _, _, _, _, rfl, hW2, T.cl_Writer, T.a_Writer_number_keys, rfl, rfl, _, rfl, ?_⟩
          rw [strEq]
          cases hn : (o.nk == "refuse") with
          | false => exact iteF (third hs (by rw [hn, Bool.and_false]))
          | true =>
            have hbad : bad o es = true := bad_of em (by rw [hs, hi, hn]; rfl)
            have fin : ∀ {Hh : Hp} {pp : V}, Same H Hh → _ := fun {Hh pp} sh => rais_U T (H := Hh) (r := .str "key") (pth := pp) (E := E) fun d H' s3 hx => qE hbad d H' (Xt.same hT (sh.trans s3)) hx
            refine iteT ⟨_, rfl, _, rfl, (by show 1 ≤ sizeLine; decide), fun q2 hq2 => ?_⟩
            have s3 := s2.trans (Same.nu (o := .tup [kV e.1]) hq2)
            exact ⟨pth, q2, xs, [kV e.1], rfl, rfl, sqT_x (LamX.ExtN.of s3) hP, SqT.of upd_same, (show xs.length + 1 ≤ sizeLine from Nat.le_of_lt (small1000 (n := xs.length + 1) (by omega))), fun _ => fin s3, fun _ z => (nomatch z), fun _ _ q3 hq3 => fin (s3.trans (Same.nu hq3))⟩
      -- the first test
      refine ⟨_, rfl, rfl, _, rfl, ?_⟩
      rw [at_non hy2]
      cases hN : isN e.2 with
      | false => exact iteF (second (by unfold Rz.seen; rw [hN]; rfl))
      | true =>
        refine iteT ⟨_, rfl, p, _, _, _, _, rfl, hW2, T.cl_Writer, T.a_Writer_nulls, rfl, rfl, _, rfl, ?_⟩
        rw [strEq]
        cases hn : (o.nl == "skip") with
        | false => exact iteF (second (by unfold Rz.seen; rw [hn, Bool.and_false]; rfl))
        | true =>
          have hs : seen o e = false := by unfold Rz.seen; rw [hN, hn]; rfl
          exact iteT ⟨⟨_, _, rfl⟩, s2, by rw [bad_snoc, hb, hs]; rfl, ts, hL2, by omega, by rw [kept_snoc, hs]; simpa using hpt2⟩
    · rintro σ H' ⟨⟨u, v, rfl⟩, s1, hb, ts, hts, htl, hpt⟩
      rw [List.take_of_length_le (by omega)] at hpt hb
      have q := q hb
      have ets : ts.length = (kept o es).length := Paired.length hpt
      have hpb := hpt
      refine ⟨_, rfl, p, _, _, _, _, rfl, s1 _ _ hW, T.cl_Writer, T.a_Writer_order, rfl, rfl, _, rfl, ?_⟩
      rw [strEq]
      cases hn : (o.od == "rising") with
      | false =>
        have e1 : ordE o (kept o es) = kept o es := by unfold ordE; rw [if_neg (by simpa using hn)]
        exact iteF ⟨_, rfl, q H' L ts (Xt.same hT s1) (fun b u e _ => (ne_of_none e hL).symm) hts (by rw [e1]; exact hpb)⟩
      | true =>
        have e1 : ordE o (kept o es) = (kept o es).mergeSort leE := by unfold ordE; rw [if_pos (by simpa using hn)]
        refine iteT ⟨_, rfl, L, ts, keyOf H', rfl, SqL.of hts, hT.ext s1, fun H2 eN T2 => ⟨SqL.of (eN _ _ hts fun _ z => nomatch z), fun y hy => ?_, fun D hD => ?_⟩⟩
        · obtain ⟨j, hj⟩ := List.mem_iff_getElem?.mp hy
          obtain ⟨e, he, b, y0, rfl, h1, h2⟩ := Paired.at hpb hj
          have hm : e ∈ es := (List.mem_filter.mp (List.mem_of_getElem? he)).1
          exact ⟨_, rfl, b, _, _, _, rfl, rfl, SqT.of (eN _ _ h1 fun _ z => nomatch z), at_of (j := 0) rfl rfl, e.1, rfl, (hok e hm).1, by rw [keyOf_at h1], rfl⟩
        · refine q _ D _ (Xt.trans ⟨LamX.ExtN.of s1, hT.ext s1⟩ (Xt.of ⟨eN, T2⟩ (Same.nu hD))) (fun b u e n => (ne_of_none (eN _ _ (s1 _ _ e) n) hD).symm) upd_same ?_
          rw [e1]
          exact Paired.mapP (sorted_paired hpb fun t e ⟨b, y, e1, h1, h2⟩ => by rw [e1]; exact keyOf_at h1) fun t e ⟨b, y, e1, h1, h2⟩ => ⟨b, y, e1, (eN.trans (LamX.ExtN.of (Same.nu hD))) _ _ h1 (fun _ z => nomatch z), h2⟩
end
end Kt
set_option Elab.async false
set_option linter.all false
set_option maxRecDepth 100000
set_option maxHeartbeats 4000000
namespace Kt
open PySem PySem.Spec PyProof.Rows L2 Rz _root_.TL
section
variable {P : Program} {w : World} {K : PySem.W.Frag} {mg : Str → Option Value} {base : Heap}
theorem RwAt.x {H H' : Hp} (s : LamX.ExtN H H') : ∀ {k : Nat} {v : V} {d : Val}, RwAt H k v d → RwAt H' k v d
  | 0, _, _, h => h
  | k + 1, _, _, h => by
    rcases h with h | ⟨l, t, a, xs, e1, e2, h1, h2, h3⟩ | ⟨es, t, a, xs, e1, e2, h1, h2, h3⟩
    · exact .inl h
    · exact .inr (.inl ⟨l, t, a, xs, e1, e2, s _ _ h1 (fun _ z => nomatch z), s _ _ h2 (fun _ z => nomatch z), Paired.mapP h3 fun _ _ q => RwAt.x s q⟩)
    · exact .inr (.inr ⟨es, t, a, xs, e1, e2, s _ _ h1 (fun _ z => nomatch z), s _ _ h2 (fun _ z => nomatch z), Paired.mapP h3 fun _ _ ⟨q, n, x, g1, g2, g3, g4⟩ => ⟨q, n, x, g1, s _ _ g2 (fun _ z => nomatch z), g3, RwAt.x s g4⟩⟩)
theorem PairR.x {H H' : Hp} (s : LamX.ExtN H H') {k : Nat} {p : V} {y : Key × Val} (h : PairR H k p y) : PairR H' k p y := by
  obtain ⟨q, n, x, g1, g2, g3, g4⟩ := h
  exact ⟨q, n, x, g1, s _ _ g2 (fun _ z => nomatch z), g3, RwAt.x s g4⟩
/-- all that is known but the tables, and but for what is in ps, stands -/
def Xs (ps : List Addr) (H H' : Hp) : Prop := ∀ b o, b ∉ ps → H b = some o → (∀ q, o ≠ .tbl q) → H' b = some o
theorem Xs.of {ps : List Addr} {H H' : Hp} (s : LamX.ExtN H H') : Xs ps H H' := fun b o _ h n => s b o h n
theorem Xs.same {ps : List Addr} {H H' : Hp} (s : Same H H') : Xs ps H H' := fun b o _ h _ => s b o h
theorem Xs.trans {ps : List Addr} {H H1 H2 : Hp} (a : Xs ps H H1) (b : Xs ps H1 H2) : Xs ps H H2 := fun c o n h z => b c o n (a c o n h z) z
theorem Xs.up {ps : List Addr} {p : Addr} {H : Hp} {o : HO} (h : p ∈ ps) : Xs ps H (upd H p o) := fun b u n e _ => by rw [upd_ne fun z => n (by rw [z]; exact h)]; exact e
theorem cut_xs {H H' : Hp} {ps : List Addr} (s : Xs ps H H') : LamX.ExtN (cut H ps) (cut H' ps) := fun b o h n => by
  unfold cut at h
  split at h
  · cases h
  · rename_i m
    exact cut_at m (s b o m h n)
theorem cut_up {H : Hp} {ps : List Addr} {p : Addr} {o : HO} (h : p ∈ ps) : cut (upd H p o) ps = cut H ps := by
  funext b
  unfold cut
  by_cases m : b ∈ ps
  · rw [if_pos m, if_pos m]
  · rw [if_neg m, if_neg m, upd_ne fun z => m (by rw [z]; exact h)]
def HasX (H : Hp) (ps : List Addr) : Prop := ∀ b ∈ ps, ∃ o, H b = some o ∧ ∀ q, o ≠ .tbl q
theorem HasX.new {H : Hp} {ps : List Addr} {q : Addr} (h : HasX H ps) (n : H q = none) : q ∉ ps := fun z => by
  obtain ⟨o, e, _⟩ := h q z
  rw [n] at e
  cases e
theorem HasX.x {H H' : Hp} {ps : List Addr} (h : HasX H ps) (s : LamX.ExtN H H') : HasX H' ps := fun b hb => by
  obtain ⟨o, e, n⟩ := h b hb
  exact ⟨o, s _ _ e n, n⟩
def spRaw (K : PySem.W.Frag) (k : Nat) : Sp := fun vs H Q E => ∃ (p : Addr) (x : V) (pth : Addr) (xs : List V) (o : Opt) (d : Val) (G : Hp) (ps : List Addr), vs = [.ref p, x, .ref pth] ∧ WAt K H p o ∧ LamX.ExtN G H ∧ VAt (CT K) G k x d ∧ Ok k d ∧
  SqT K H pth xs ∧ xs.length + k ≤ 100 ∧ LamX.Tabs (TT K) H ∧ HasX H ps ∧ (rawV o k d = none → Ref K H E) ∧ ∀ z, rawV o k d = some z → ∀ H' v, Xt K H H' → RwAt (cut H' ps) k v z → Q v H'
def spPairs (K : PySem.W.Frag) (k : Nat) : Sp := fun vs H Q E => ∃ (p : Addr) (x : V) (pth : Addr) (xs : List V) (o : Opt) (es : List (Key × Val)) (G : Hp) (ps : List Addr), vs = [.ref p, x, .ref pth] ∧ WAt K H p o ∧ LamX.ExtN G H ∧ VAt (CT K) G (k + 1) x (.tab es) ∧ okE k es ∧
  SqT K H pth xs ∧ xs.length + k + 1 ≤ 100 ∧ LamX.Tabs (TT K) H ∧ HasX H ps ∧ ((bad o es = true ∨ dup o (ordE o (kept o es)) = true ∨ none ∈ (ordE o (kept o es)).map (pairT (rawV o k))) → Ref K H E) ∧
  ∀ zs, (ordE o (kept o es)).map (pairT (rawV o k)) = zs.map some → dup o (ordE o (kept o es)) = false → ∀ H' L ys, bad o es = false → Xt K H H' → H L = none → H' L = some (.lst ys) → Paired (PairR (cut H' (L :: ps)) k) ys zs → Q (.ref L) H'
theorem dup_at {o : Opt} {l : List (Key × Val)} {i : Nat} {e : Key × Val} (hd : (o.dk == "refuse") = true) (he : l[i]? = some e) (hm : keyT e.1 ∈ (l.take i).map fun e => keyT e.1) : dup o l = true := by
  unfold dup
  rw [hd, Bool.true_and, Bool.not_eq_true', decide_eq_false_iff_not]
  intro hn
  obtain ⟨j, hj⟩ := List.mem_iff_getElem?.mp hm
  rw [List.getElem?_map, List.getElem?_take] at hj
  have hi := lt_of_at he
  by_cases hji : j < i
  · rw [if_pos hji] at hj
    have e1 : l[j]? = some l[j] := List.getElem?_eq_getElem (by omega)
    rw [e1] at hj
    have e2 : l[i] = e := by
      rw [List.getElem?_eq_getElem hi] at he
      exact Option.some.inj he
    have e3 : keyT (l[j]'(by omega)).1 = keyT e.1 := by simpa using hj
    have := List.pairwise_iff_getElem.mp hn j i (by simp; omega) (by simpa using hi) hji
    simp [e2, e3] at this
  · rw [if_neg hji] at hj
    simp at hj
theorem heapAt {o : Obj} (hf : o.isFreed = false) : ∀ c : Addr, ∃ h : Heap, h.objs.size = c + 1 ∧ h.get? c = some o
  | 0 => by
    have e : (({} : Heap)).objs.size = 0 := rfl
    refine ⟨({} : Heap).push o, by rw [Heap.size_push, e], ?_⟩
    have q := Heap.get?_push_size ({} : Heap) hf
    rw [e] at q
    exact q
  | c + 1 => by
    obtain ⟨h, e, _⟩ := heapAt hf c
    refine ⟨h.push o, by rw [Heap.size_push, e], ?_⟩
    have q := Heap.get?_push_size h hf
    rw [e] at q
    exact q
theorem codeO_set {P : Program} {w : World} {c : Addr} {q : Str} {S : Key → Bool} {n : Nat} : LamX.CodeO c q ≠ SetK P w c S n := fun z => by
  unfold LamX.CodeO SetK at z
  have e := HO.ext.inj z
  obtain ⟨h, _, hg⟩ := heapAt (o := { cls := .none, data := .fields #[.none, .str q 0] }) rfl c
  have e2 := congrFun e h
  have : h.SetOf (mixKind P w) c S n := by
    rw [← e2]
    exact ⟨_, _, 0, hg, rfl, rfl⟩
  obtain ⟨o, es, ep, t, ho, _, hd, _⟩ := this
  rw [hg] at ho
  cases ho
  cases hd
theorem tabs_but {T : List (Addr × Str)} {H H' : Hp} {S : Addr} {u0 : HO} (t : LamX.Tabs T H) (h : H S = some u0) (n1 : ∀ q, u0 ≠ .tbl q) (n2 : ∀ q, LamX.CodeO S q ≠ u0) (k : ∀ c u, c ≠ S → H c = some u → H' c = some u) : LamX.Tabs T H' := fun r hr => by
  obtain ⟨q1, q2, q3, q4⟩ := t r hr
  refine ⟨q1, k _ _ (ne_of q2 h fun z => n1 _ z.symm) q2, q3, fun a b c => ?_⟩
  obtain ⟨c1, c2, c3⟩ := q4 a b c
  exact ⟨c1, c2, k _ _ (fun z => by rw [z, h] at c3; exact n2 _ (Option.some.inj c3).symm) c3⟩
/-- the loop of raw_pairs -/
def InvP (P : Program) (w : World) (K : PySem.W.Frag) (o : Opt) (k : Nat) (p : Addr) (x : V) (pth L S : Addr) (ps : List Addr) (le : List (Key × Val)) (H3 : Hp) (i : Nat) (σ : L2.St) (H' : Hp) : Prop :=
  (∃ u v y, σ = [some (.ref p), some x, some (.ref pth), some (.ref L), some (.ref S), u, v, y]) ∧ Xs [L, S] H3 H' ∧ LamX.Tabs (TT K) H' ∧ ∃ ys zs Sf n, H' L = some (.lst ys) ∧ H' S = some (SetK P w S Sf n) ∧ n ≤ i ∧ ys.length = i ∧
        (∀ nm, Sf (.inr nm) = decide (nm ∈ (le.take i).map fun e => keyT e.1)) ∧ Paired (PairR (cut H' (L :: S :: ps)) k) ys zs ∧ (le.take i).map (pairT (rawV o k)) = zs.map some ∧ ((o.dk == "refuse") = true → ((le.take i).map fun e => keyT e.1).Nodup)
end
end Kt
set_option Elab.async false
set_option linter.all false
set_option maxRecDepth 100000
set_option maxHeartbeats 4000000
namespace Kt
open PySem PySem.Spec PyProof.Rows L2 Rz _root_.TL
section
variable {P : Program} {w : World} {K : PySem.W.Frag} {mg : Str → Option Value} {base : Heap}
theorem ok_Writer_raw_pairs (T : Tx w K mg) (hTB : LamX.TabB base mg (He.codeOf K keD) (keT K)) (k lev : Nat) (hlev : 6 ≤ lev) (G_Writer_raw_at : Gd P w K base mg (L2N.CX P w) lev (He.fAd K d_Writer_raw_at.at_) ["self", "value", "path"] [] (spRaw K k)) :
    Gd P w K base mg (L2N.CX P w) (lev + 1) (He.fAd K d_Writer_raw_pairs.at_) ["self", "table", "path"] [] (spPairs K k) := by
  have G_key_text := ok_key_text (P := P) (w := w) (base := base) T
  have G_Unwritable_init := ok_Unwritable_init (P := P) (w := w) (base := base) T
  have G_Writer_kept_entries := ok_Writer_kept_entries (P := P) (w := w) (base := base) T hTB k
  refine mkGdX (T.f_Writer_raw_pairs) sc_Writer_raw_pairs (fun vs H Q E h => ?_) (fun _ _ _ _ _ _ us hl => match us, hl with | [_, _, _], _ => rfl) (fun cdv A outer s H vs Q E hr h => ?_)
  · obtain ⟨p, x, pth, xs, o, es, G, ps, rfl, _⟩ := h
    rfl
  · have hu := hu_of hr
    have tk : L2N.Takes _ (fun c d _ H => E c d H) := L2N.takes_of (X := cxOf (L2N.CX P w) P w K mg base N_Writer_raw_pairs d_Writer_raw_pairs.qual (defScope s_Writer_raw_pairs) (He.fAd K d_Writer_raw_pairs.at_) cdv A outer s H E) rfl rfl rfl rfl
    have px := L2N.passes_call (E := E) tk fun _ _ _ _ h => h
    obtain ⟨p, x, pth, xs, o, es, G, ps, rfl, hW, hG, hv, okes, hP, hxs, hT, hps, qE, q⟩ := h
    obtain ⟨dw, hW⟩ := hW
    have hok := okes.2.2
    refine ⟨_, (pss_cons (ps_set (i := 3) sc_Writer_raw_pairs.nd rfl (Or.inl rfl) (pe_lst pa_nil))
      (pss_cons (ps_set (i := 4) sc_Writer_raw_pairs.nd rfl (Or.inl rfl) (pe_callTy0 cr_set0K (by rfl) T.n_set (by decide +kernel)))
      (pss_cons (ps_for (passes_of rfl) rfl (pi_list (pe_methG (pv 0) T.cl_Writer T.m_Writer_kept_entries G_Writer_kept_entries (hr.mono (by first | decide | omega)) px (pa_cons (pv 1) (pa_cons (pv 2) pa_nil)))) (pg_tup rfl (pgs_cons (pg_name (i := 5) sc_Writer_raw_pairs.nd rfl (Or.inl rfl)) (pgs_cons (pg_name (i := 6) sc_Writer_raw_pairs.nd rfl (Or.inl rfl)) pgs_nil)))
      (pss_cons (ps_set (i := 7) sc_Writer_raw_pairs.nd rfl (Or.inl rfl) (pe_callG G_key_text T.g_key_text (hr.mono (by first | decide | omega)) pass0 (pa_cons (pv 5) pa_nil)))
      (pss_cons (ps_if (PW.pt (pw_and (pt_cmpR or_sinK (pv 7) (pv 4) (by rfl)) (pw_and1 (pt_cmpR op_eq (pe_fld (pv 0) rfl) pe_str (nomark _))))) (pss_one (L2N.ps_raise rfl tk (pmk_G (T.exA (x := "Unwritable") (by simp [errN])) G_Unwritable_init T.g_Unwritable (hr.mono (by first | decide | omega)) pass0 (pa_cons pe_str (pa_cons (pe_op (r := rCatA K) op_catA (pv 2) (pe_tup (pa_cons (pv 5) pa_nil))) pa_nil))))) pss_nil)
      (pss_cons (ps_expr (pe_saddK (pv 4) (pa_cons (pv 7) pa_nil)))
      (pss_one (ps_expr (pe_bm PySem.F.plainAttrs_list PySem.F.slot_list_append PySem.F.type_list_append mt_append (pv 3) (pa_cons (pe_tup (pa_cons (pv 7) (pa_cons (pe_methG (pv 0) T.cl_Writer T.m_Writer_raw_at G_Writer_raw_at (hr.mono (by first | decide | omega)) px (pa_cons (pv 6) (pa_cons (pe_op (r := rCatA K) op_catA (pv 2) (pe_tup (pa_cons (pv 5) pa_nil))) pa_nil))) pa_nil))) pa_nil))))))))
      (pss_one (ps_ret (pv 3)))))), ?_⟩
    refine ⟨Nat.zero_le _, fun L hL => ⟨rfl, fun S hS => ?_⟩⟩
    have nLS : L ≠ S := fun z => by rw [← z, upd_same] at hS; cases hS
    have hS0 : H S = none := by
      cases e : H S with
      | none => rfl
      | some u => rw [Same.nu hL _ _ e] at hS; cases hS
    generalize hH2 : upd (upd H L (HO.lst [])) S (SetK _ _ S (fun _ => false) 0) = H2
    have s2 : Same H H2 := by rw [← hH2]; exact (Same.nu hL).trans (Same.nu hS)
    have hL2 : H2 L = some (.lst []) := by rw [← hH2, upd_ne nLS]; exact upd_same
    have hS2 : H2 S = some (SetK P w S (fun _ => false) 0) := by rw [← hH2]; exact upd_same
    have up2 : ∀ {H'}, Xt K H2 H' → Xt K H H' := fun x => ⟨(LamX.ExtN.of s2).trans x.1, x.2⟩
    refine ⟨_, rfl, p, _, _, rfl, s2 _ _ hW, rfl, _, rfl, _, rfl, p, x, pth, xs, o, es, G, rfl, ⟨dw, s2 _ _ hW⟩, hG.trans (LamX.ExtN.of s2), hv, okes, sqT_x (LamX.ExtN.of s2) hP, by omega, hT.ext s2, fun hb d H' x hx => qE (.inl hb) d H' (up2 x) hx, fun hb H3 l ts X3 hln hl hpt => ?_⟩
    have hlen := Paired.length hpt
    have hl4 : (ordE o (kept o es)).length ≤ 4 := Nat.le_trans kept_len okes.1
    have hL3 := X3.1 _ _ hL2 fun _ z => nomatch z
    have hS3 : H3 S = some (SetK P w S (fun _ => false) 0) := X3.1 _ _ hS2 fun _ z => by unfold SetK at z; cases z
    have hW3 := X3.1 _ _ (s2 _ _ hW) fun _ z => nomatch z
    have hP3 := sqT_x ((LamX.ExtN.of s2).trans X3.1) hP
    generalize hle : ordE o (kept o es) = le at hpt hlen hl4
    rw [hle] at qE q
    have nlL : l ≠ L := hln L _ hL2 fun _ z => nomatch z
    have nlS : l ≠ S := hln S _ hS2 fun _ z => by unfold SetK at z; cases z
    have nS : ∀ {Sf n q}, SetK P w S Sf n ≠ .tbl q := fun z => by unfold SetK at z; cases z
    refine ⟨l, rfl, ⟨_, SqL.of hl⟩, for_list (xs := ts)
      (InvP P w K o k p x pth L S ps le H3) ?_ ?_ ?_ ?_⟩
    · refine ⟨⟨_, _, _, rfl⟩, Xs.same (Same.refl _), X3.2, [], [], _, 0, hL3, hS3, Nat.le_refl _, rfl, fun nm => by simp, .nil, by rw [List.take_zero]; rfl, fun _ => by rw [List.take_zero]; exact List.nodup_nil⟩
    · rintro i σ H' _ ⟨_, x1, _⟩
      exact SqL.of (x1 l _ (by simp [nlL, nlS]) hl fun _ z => nomatch z)
    · rintro i t σ H' ht ⟨⟨u, v, y0, rfl⟩, x1, T1, ys, zs, Sf, n, hLi, hSi, hn, hyl, hSf, hpr, hmap, hnd⟩
      obtain ⟨e, he, b, y, rfl, hb3, hy⟩ := Paired.at hpt ht
      have hm : e ∈ es := by rw [← hle] at he; exact kept_mem (List.mem_of_getElem? he)
      obtain ⟨ok1, ok2⟩ := hok e hm
      have nb : b ∉ [L, S] := by
        simp only [List.mem_cons, List.not_mem_nil, or_false, not_or]
        exact ⟨ne_of hb3 hL3 (by intro z; cases z), ne_of hb3 hS3 (by intro z; unfold SetK at z; cases z)⟩
      have hbi := x1 b _ nb hb3 fun _ z => nomatch z
      have npL : p ∉ [L, S] := by
        simp only [List.mem_cons, List.not_mem_nil, or_false, not_or]
        exact ⟨ne_of hW3 hL3 (by intro z; cases z), ne_of hW3 hS3 (by intro z; unfold SetK at z; cases z)⟩
      have hWi := x1 p _ npL hW3 fun _ z => nomatch z
      have hi4 : i < 4 := by have := lt_of_at he; omega
      have xG : LamX.ExtN G H' := fun c u e1 n => by
        have e2 := hG c u e1 n
        refine x1 c u ?_ (X3.1 c u (s2 c u e2) n) n
        simp only [List.mem_cons, List.not_mem_nil, or_false, not_or]
        exact ⟨ne_of_none e2 hL, ne_of_none e2 hS0⟩
      have xH : LamX.ExtN H H' := fun c u e2 n => by
        refine x1 c u ?_ (X3.1 c u (s2 c u e2) n) n
        simp only [List.mem_cons, List.not_mem_nil, or_false, not_or]
        exact ⟨ne_of_none e2 hL, ne_of_none e2 hS0⟩
      have hPi := sqT_x xH hP
      refine ⟨b, _, rfl, SqT.of hbi, rfl, _, _, rfl, _, _, rfl, rfl, ?_⟩
      refine ⟨_, rfl, e.1, rfl, ok1, ?_⟩
      have turn : ∀ {Hs : Hp} {D : Ends}, D.nx = InvP P w K o k p x pth L S ps le H3 (i + 1) → Hs S = some (SetK P w S (fun j => Sf j || decide (j = .inr (keyT e.1))) (if Sf (.inr (keyT e.1)) = true then n else n + 1)) → (∀ c u, c ≠ S → H' c = some u → Hs c = some u) → cut Hs (L :: S :: ps) = cut H' (L :: S :: ps) → Xs [L, S] H' Hs →
          ((o.dk == "refuse") = true → keyT e.1 ∉ (le.take i).map fun e => keyT e.1) →
          tDrop (tBM K "list" rAppend (tVar 3) (tCons (tTup (tCons (tVar 7) (tCons (tMeth (He.ga K "Passage") "raw_at" (spRaw K k) [] E (tVar 0) (tCons (tVar 6) (tCons (tOp (rCatA K) (tVar 2) (tTup (tCons (tVar 5) tNil))) tNil))) tNil))) tNil)) D
            [some (.ref p), some x, some (.ref pth), some (.ref L), some (.ref S), some (kV e.1), some y, some (.str (keyT e.1))] Hs := by
        intro Hs D eD hSs sS cS xS hnew
        have hLs : Hs L = some (.lst ys) := sS _ _ nLS hLi
        have xHs : LamX.ExtN H Hs := fun c u e2 n => sS c u (ne_of_none e2 hS0) (xH c u e2 n)
        have xGs : LamX.ExtN G Hs := fun c u e2 n => sS c u (fun z => by have := hG c u e2 n; rw [z, hS0] at this; cases this) (xG c u e2 n)
        have TS : LamX.Tabs (TT K) Hs := tabs_but T1 hSi (fun q z => nS z) (fun q => codeO_set) sS
        have hWs : Hs p = some (.ins (CW K) dw.1 (optF o ++ rdF dw.2)) := sS _ _ (ne_of hWi hSi (fun z => by unfold SetK at z; cases z)) hWi
        have call : ∀ (pp : Addr) (xs' : List V) (Hq : Hp) (Q' : VK), Same Hs Hq → SqT K Hq pp xs' → xs'.length ≤ xs.length + 1 → (∀ z, rawV o k e.2 = some z → ∀ H4 v, Xt K Hs H4 → RwAt (cut H4 (L :: S :: ps)) k v z → Q' v H4) → spRaw K k [.ref p, y, .ref pp] Hq Q' E := fun pp xs' Hq Q' sq hq hl q' =>
          ⟨p, y, pp, xs', o, e.2, G, L :: S :: ps, rfl, ⟨dw, sq _ _ hWs⟩, xGs.trans (LamX.ExtN.of sq), hy, ok2, hq, by omega, TS.ext sq, fun c hc => by
            rcases List.mem_cons.mp hc with z | hc
            · rw [z]; exact ⟨_, sq _ _ hLs, fun _ z => nomatch z⟩
            · rcases List.mem_cons.mp hc with z | hc
              · rw [z]; exact ⟨_, sq _ _ hSs, fun _ z => nS z⟩
              · obtain ⟨u, h1, h2⟩ := hps c hc
                exact ⟨u, sq _ _ (xHs c u h1 h2), h2⟩, fun hno d H4 X4 hx => qE (.inr (.inr (List.mem_map.mpr ⟨e, List.mem_of_getElem? he, by unfold pairT; rw [hno]; rfl⟩))) d H4 ⟨xHs.trans ((LamX.ExtN.of sq).trans X4.1), X4.2⟩ hx, fun z ez H4 v X4 hv => q' z ez H4 v ⟨(LamX.ExtN.of sq).trans X4.1, X4.2⟩ hv⟩
        have fin : ∀ z, rawV o k e.2 = some z → ∀ H4 v, Xt K Hs H4 → RwAt (cut H4 (L :: S :: ps)) k v z → (2 ≤ sizeLine ∧ ∀ q3, H4 q3 = none → rAppend (.ref L) [.ref q3] (upd H4 q3 (.tup [.str (keyT e.1), v])) fun _ H5 => D.nx [some (.ref p), some x, some (.ref pth), some (.ref L), some (.ref S), some (kV e.1), some y, some (.str (keyT e.1))] H5) := by
          intro z ez H4 v X4 hv
          refine ⟨by decide, fun q3 hq3 => ?_⟩
          have hL4 : H4 L = some (.lst ys) := X4.1 _ _ hLs fun _ z => nomatch z
          have hS4 := X4.1 _ _ hSs fun _ z => nS z
          have nq3 : q3 ∉ L :: S :: ps := HasX.new (fun c hc => by
            rcases List.mem_cons.mp hc with z | hc
            · rw [z]; exact ⟨_, hL4, fun _ z => nomatch z⟩
            · rcases List.mem_cons.mp hc with z | hc
              · rw [z]; exact ⟨_, hS4, fun _ z => nS z⟩
              · obtain ⟨u, h1, h2⟩ := hps c hc
                exact ⟨u, X4.1 _ _ (xHs c u h1 h2) h2, h2⟩) hq3
          have nu3 := Same.nu (o := .tup [.str (keyT e.1), v]) hq3
          refine ⟨L, ys, _, rfl, rfl, nu3 _ _ hL4, small1000 (by omega), ?_⟩
          rw [eD]
          have cc : LamX.ExtN (cut H4 (L :: S :: ps)) (cut (upd (upd H4 q3 (.tup [.str (keyT e.1), v])) L (.lst (ys ++ [.ref q3]))) (L :: S :: ps)) := by
            rw [cut_up (by simp)]
            exact cut_xs (Xs.same nu3)
          have cA : LamX.ExtN (cut H' (L :: S :: ps)) (cut (upd (upd H4 q3 (.tup [.str (keyT e.1), v])) L (.lst (ys ++ [.ref q3]))) (L :: S :: ps)) := by
            refine LamX.ExtN.trans ?_ cc
            rw [← cS]
            exact cut_xs (Xs.of X4.1)
          refine ⟨⟨_, _, _, rfl⟩, ((((x1.trans xS).trans (Xs.of X4.1)).trans (Xs.same nu3)).trans (Xs.up (by simp))), tabs_but (X4.2.ext nu3) (nu3 _ _ hL4) (fun _ z => nomatch z) (fun q z => nomatch z) (fun c u n e => by rw [upd_ne n]; exact e),
            ys ++ [.ref q3], zs ++ [(Sum.inr (keyT e.1), z)], _, _, upd_same, (by rw [upd_ne nLS.symm]; exact nu3 _ _ hS4), ?_, (by rw [List.length_append, hyl]; rfl), fun nm => ?_, Paired.snoc (Paired.mapP hpr fun _ _ q => PairR.x cA q) ⟨q3, keyT e.1, v, rfl, ?_, rfl, RwAt.x cc hv⟩, ?_, fun hd => ?_⟩
          · split <;> omega
          · rw [take_snoc he, List.map_append, key_rr, hSf, ← Bool.decide_or]
            exact decide_eq_decide.mpr (by simp)
          · rw [cut_up (by simp)]
            exact cut_at nq3 upd_same
          · rw [take_snoc he, List.map_append, hmap, List.map_append]
            simp only [List.map_cons, List.map_nil]
            unfold pairT
            rw [ez]
            rfl
          · rw [take_snoc he, List.map_append]
            exact List.nodup_append.mpr ⟨hnd hd, by simp, fun a ha b hb z => hnew hd (by simp only [List.map_cons, List.map_nil, List.mem_singleton] at hb; rw [← hb, ← z]; exact ha)⟩
        have hPs := sqT_x xHs hP
        refine ⟨_, rfl, .inl ⟨rfl, _, SqL.of hLs⟩, _, rfl, _, rfl, p, _, _, rfl, hWs, rfl, _, rfl, _, rfl, _, rfl, (by show 1 ≤ sizeLine; decide), fun q2 hq2 => ?_⟩
        have nu := Same.nu (o := .tup [kV e.1]) hq2
        exact ⟨pth, q2, xs, [kV e.1], rfl, rfl, sqT_x (LamX.ExtN.of nu) hPs, SqT.of upd_same, (show xs.length + 1 ≤ sizeLine from Nat.le_of_lt (small1000 (n := xs.length + 1) (by omega))),
          fun _ => call q2 [kV e.1] _ _ nu (SqT.of upd_same) (by simp) fin,
          fun _ z => (nomatch z),
          fun _ _ q3 hq3 => call q3 (xs ++ [kV e.1]) _ _ (nu.trans (Same.nu hq3)) (SqT.of upd_same) (by simp) fin⟩
      -- name in seen
      refine ⟨_, rfl, _, rfl, .inr (keyT e.1), S, Sf, n, rfl, rfl, hSi, _, rfl, ?_⟩
      have refused : ∀ {Hh : Hp} {pp : V} {r : Str}, LamX.ExtN H Hh → LamX.Tabs (TT K) Hh → Ref K H E → _ := fun {Hh pp r} sh Th hr => rais_U T (H := Hh) (r := .str r) (pth := pp) (E := E) fun d H'' s3 hx => hr d H'' ⟨sh.trans (LamX.ExtN.of s3), Th.ext s3⟩ hx
      cases hz : (Sf (.inr (keyT e.1)) && (o.dk == "refuse")) with
      | true =>
        obtain ⟨z1, z2⟩ := Bool.and_eq_true_iff.mp hz
        have hd : dup o le = true := dup_at z2 he (by rw [hSf] at z1; exact of_decide_eq_true z1)
        refine ite2 (fun _ => ⟨_, rfl, p, _, _, _, _, rfl, hWi, T.cl_Writer, T.a_Writer_double_keys, rfl, rfl, _, rfl, ?_⟩) (fun z => absurd z (by rw [z1]; simp))
        rw [strEq, z2]
        refine iteT ⟨_, rfl, _, rfl, (by show 1 ≤ sizeLine; decide), fun q2 hq2 => ?_⟩
        have nu := Same.nu (o := .tup [kV e.1]) hq2
        exact ⟨pth, q2, xs, [kV e.1], rfl, rfl, sqT_x (LamX.ExtN.of nu) hPi, SqT.of upd_same, (show xs.length + 1 ≤ sizeLine from Nat.le_of_lt (small1000 (n := xs.length + 1) (by omega))), fun _ => refused (xH.trans (LamX.ExtN.of nu)) (T1.ext nu) (qE (.inr (.inl hd))),
          fun _ z => (nomatch z), fun _ _ q3 hq3 => refused (xH.trans (LamX.ExtN.of (nu.trans (Same.nu hq3)))) (T1.ext (nu.trans (Same.nu hq3))) (qE (.inr (.inl hd)))⟩
      | false =>
        have hnew : (o.dk == "refuse") = true → keyT e.1 ∉ (le.take i).map fun e => keyT e.1 := fun z m => by
          rw [z, Bool.and_true, hSf] at hz
          exact absurd m (of_decide_eq_false hz)
        refine ite2 (fun z1 => ⟨_, rfl, p, _, _, _, _, rfl, hWi, T.cl_Writer, T.a_Writer_double_keys, rfl, rfl, _, rfl, ?_⟩) (fun _ => iteF ?_)
        · rw [strEq]
          have z1 : Sf (.inr (keyT e.1)) = true := z1
          have z2 : (o.dk == "refuse") = false := by
            rw [z1, Bool.true_and] at hz
            exact hz
          rw [z2]
          refine iteF ?_
          refine ⟨_, rfl, ⟨S, Sf, n, rfl, hSi⟩, _, rfl, S, .inr (keyT e.1), Sf, n, rfl, rfl, hSi, (by show n + 1 < 4096; omega), ?_⟩
          generalize hHs : upd H' S (SetK _ _ S _ _) = Hs
          have hSs : Hs S = some (SetK P w S (fun j => Sf j || decide (j = .inr (keyT e.1))) (if Sf (.inr (keyT e.1)) = true then n else n + 1)) := by rw [← hHs]; exact upd_same
          have sS : ∀ c u, c ≠ S → H' c = some u → Hs c = some u := fun c u n e1 => by rw [← hHs, upd_ne n]; exact e1
          have cS : cut Hs (L :: S :: ps) = cut H' (L :: S :: ps) := by rw [← hHs]; exact cut_up (by simp)
          exact turn rfl hSs sS cS (by rw [← hHs]; exact Xs.up (by simp)) hnew
        · refine ⟨_, rfl, ⟨S, Sf, n, rfl, hSi⟩, _, rfl, S, .inr (keyT e.1), Sf, n, rfl, rfl, hSi, (by show n + 1 < 4096; omega), ?_⟩
          generalize hHs : upd H' S (SetK _ _ S _ _) = Hs
          have hSs : Hs S = some (SetK P w S (fun j => Sf j || decide (j = .inr (keyT e.1))) (if Sf (.inr (keyT e.1)) = true then n else n + 1)) := by rw [← hHs]; exact upd_same
          have sS : ∀ c u, c ≠ S → H' c = some u → Hs c = some u := fun c u n e1 => by rw [← hHs, upd_ne n]; exact e1
          have cS : cut Hs (L :: S :: ps) = cut H' (L :: S :: ps) := by rw [← hHs]; exact cut_up (by simp)
          exact turn rfl hSs sS cS (by rw [← hHs]; exact Xs.up (by simp)) hnew
    · rintro σ H' ⟨⟨u, v, y0, rfl⟩, x1, T1, ys, zs, Sf, n, hLi, hSi, hn, hyl, hSf, hpr, hmap, hnd⟩
      rw [List.take_of_length_le (by omega)] at hmap hnd
      have xH : LamX.ExtN H H' := fun c u e2 n => by
        refine x1 c u ?_ (X3.1 c u (s2 c u e2) n) n
        simp only [List.mem_cons, List.not_mem_nil, or_false, not_or]
        exact ⟨ne_of_none e2 hL, ne_of_none e2 hS0⟩
      refine ⟨_, rfl, q zs hmap ?_ H' L ys hb ⟨xH, T1⟩ hL hLi (Paired.mapP hpr fun _ _ q => PairR.x (LamX.ExtN.of (cut_mono (by intro b; simp only [List.mem_cons]; rintro (h | h); exact .inl h; exact .inr (.inr h)))) q)⟩
      unfold dup
      cases hd : (o.dk == "refuse") with
      | false => rfl
      | true => rw [decide_eq_true (hnd hd)]; rfl
end
end Kt
set_option Elab.async false
set_option linter.all false
set_option maxRecDepth 100000
set_option maxHeartbeats 4000000
namespace Kt
open PySem PySem.Spec PyProof.Rows L2 Rz _root_.TL
section
variable {P : Program} {w : World} {K : PySem.W.Frag} {mg : Str → Option Value} {base : Heap}
theorem recGdN {P : Program} {w : World} {K : PySem.W.Frag} {mg : Str → Option Value} {base : Heap} {f : Addr} {ps : List Str} {CY : CXT} {sp : Nat → Sp} (lev : Nat → Nat) (zero : ∀ l, Gd P w K base mg CY l f ps [] fun _ _ _ _ => False) (step : ∀ k, Gd P w K base mg CY (lev k) f ps [] (prv sp k) → Gd P w K base mg CY (lev (k + 1)) f ps [] (sp k)) :
    ∀ k, Gd P w K base mg CY (lev (k + 1)) f ps [] (sp k)
  | 0 => step 0 (zero _)
  | k + 1 => step (k + 1) (recGdN lev zero step k)
theorem at_flat {C : Addr} {G : Hp} {k : Nat} {x : V} {d : Val} (h : VAt C G k x d) (n1 : ∀ t l, d ≠ .seq t l) (n2 : ∀ es, d ≠ .tab es) : flat d = some x := by
  cases k with
  | zero => exact h
  | succ k =>
    rcases h with h | ⟨t', l', a, xs, e, _⟩ | ⟨es', p, dx, dd, od, kvs, e, _⟩
    · exact h
    · exact absurd e (n1 _ _)
    · exact absurd e (n2 _)
theorem raw_leaf {o : Opt} {k : Nat} {d : Val} (n1 : ∀ t l, d ≠ .seq t l) (n2 : ∀ es, d ≠ .tab es) : rawV o k d = rawF o d := by
  cases k with
  | zero => rfl
  | succ k =>
    cases d with
    | seq t l => exact absurd rfl (n1 _ _)
    | tab es => exact absurd rfl (n2 _)
    | _ => rfl
theorem ok_leaf {k : Nat} {d : Val} (h : Ok k d) (n1 : ∀ t l, d ≠ .seq t l) (n2 : ∀ es, d ≠ .tab es) : okF d := by
  cases k with
  | zero => exact h
  | succ k =>
    rcases h with h | ⟨t', l', e, _⟩ | ⟨es', e, _⟩
    · exact h
    · exact absurd e (n1 _ _)
    · exact absurd e (n2 _)
theorem st_raw_at (T : Tx w K mg) (hTB : LamX.TabB base mg (He.codeOf K keD) (keT K)) (k : Nat) (G_Writer_raw_at : Gd P w K base mg (L2N.CX P w) (2 * k + 6) (He.fAd K d_Writer_raw_at.at_) ["self", "value", "path"] [] (prv (spRaw K) k)) :
    Gd P w K base mg (L2N.CX P w) (2 * (k + 1) + 6) (He.fAd K d_Writer_raw_at.at_) ["self", "value", "path"] [] (spRaw K k) := by
  have G_Unwritable_init := ok_Unwritable_init (P := P) (w := w) (base := base) T
  have G_is_integer := ok_is_integer (P := P) (w := w) (base := base) T
  have G_Writer_raw_pairs : Gd P w K base mg (L2N.CX P w) (2 * k + 7) (He.fAd K d_Writer_raw_pairs.at_) ["self", "table", "path"] [] (prv (spPairs K) k) := by
    cases k with
    | zero => exact mkGdXF (T.f_Writer_raw_pairs) sc_Writer_raw_pairs (fun _ _ _ _ _ _ us hl => match us, hl with | [_, _, _], _ => rfl) _
    | succ k => exact ok_Writer_raw_pairs T hTB k _ (by omega) G_Writer_raw_at
  refine mkGdX (T.f_Writer_raw_at) sc_Writer_raw_at (fun vs H Q E h => ?_) (fun _ _ _ _ _ _ us hl => match us, hl with | [_, _, _], _ => rfl) (fun cdv A outer s H vs Q E hr h => ?_)
  · obtain ⟨p, x, pth, xs, o, d, G, ps, rfl, _⟩ := h
    rfl
  · have hu := hu_of hr
    have tk : L2N.Takes _ (fun c d _ H => E c d H) := L2N.takes_of (X := cxOf (L2N.CX P w) P w K mg base N_Writer_raw_at d_Writer_raw_at.qual (defScope s_Writer_raw_at) (He.fAd K d_Writer_raw_at.at_) cdv A outer s H E) rfl rfl rfl rfl
    have px := L2N.passes_call (E := E) tk fun _ _ _ _ h => h
    obtain ⟨p, x, pth, xs, o, d, G, ps, rfl, hW, hG, hv0, ok, hP, hxs, hT, hps, qE, q⟩ := h
    obtain ⟨dw, hW⟩ := hW
    have hv := VAt.x hG hv0
    refine ⟨_, (pss_cons (ps_if (pt_val (pe_callB call_isi (by rfl) T.n_isinstance (by decide +kernel) (pa_cons (pv 1) (pa_cons (pe_glob (v := .ref (He.ga K "Table")) rfl T.g_Table rfl) pa_nil)))) (pss_one (ps_ret (pe_tup (pa_cons pe_str (pa_cons (pe_methG (pv 0) T.cl_Writer T.m_Writer_raw_pairs G_Writer_raw_pairs (hr.mono (by first | decide | omega)) px (pa_cons (pv 1) (pa_cons (pv 2) pa_nil))) pa_nil))))) pss_nil)
      (pss_cons (ps_if (PW.pt (pw_and (pt_val (pe_callB call_isi (by rfl) T.n_isinstance (by decide +kernel) (pa_cons (pv 1) (pa_cons (pe_bltn (v := .ty "tuple") (u := .type "tuple") (by rfl) T.n_tuple (by decide +kernel) rfl) pa_nil)))) (pw_and1 (pt_cmpR op_eq (pe_fld (pv 0) rfl) pe_str (nomark _))))) (pss_one (L2N.ps_raise rfl tk (pmk_G (T.exA (x := "Unwritable") (by simp [errN])) G_Unwritable_init T.g_Unwritable (hr.mono (by first | decide | omega)) pass0 (pa_cons pe_str (pa_cons (pv 2) pa_nil))))) pss_nil)
      (pss_cons (ps_if (pt_val (pe_callB call_isiT (by rfl) T.n_isinstance (by decide +kernel) (pa_cons (pv 1) (pa_cons (pe_tup (pa_cons (pe_bltn (v := .ty "list") (u := .type "list") (by rfl) T.n_list (by decide +kernel) rfl) (pa_cons (pe_bltn (v := .ty "tuple") (u := .type "tuple") (by rfl) T.n_tuple (by decide +kernel) rfl) pa_nil))) pa_nil)))) (pss_one (ps_ret (pe_tup (pa_cons pe_str (pa_cons (Rn.pe_lcx (own := [("index", 3), ("item", 4)]) (g := gTup K 2 (gCons (gName 3) (gCons (gName 4) gNil))) (tt := tYes) rfl rfl tk rfl sc_Writer_raw_at.nd (pi_enumB (by rfl) T.n_enumerate (pa_cons (pv 1) pa_nil)) (blkOk_by (own := [("index", 3), ("item", 4)]) (N := N_Writer_raw_at) (sc := defScope s_Writer_raw_at) (by decide +kernel)) (fun _ _ _ _ _ _ => (pg_tup rfl (pgs_cons (pg_name (i := 3) sc_Writer_raw_at.nd rfl (Or.inl rfl)) (pgs_cons (pg_name (i := 4) sc_Writer_raw_at.nd rfl (Or.inl rfl)) pgs_nil)))) (fun _ _ _ _ _ _ => pts_nil) (fun _ _ _ _ _ _ px => (pe_methG (pv 0) T.cl_Writer T.m_Writer_raw_at G_Writer_raw_at (hr.mono (by first | decide | omega)) px (pa_cons (pv 4) (pa_cons (pe_op (r := rCatA K) op_catA (pv 2) (pe_tup (pa_cons (pv 3) pa_nil))) pa_nil))))) pa_nil))))) pss_nil)
      (pss_cons (ps_if (PW.pt (pw_and (pt_val (pe_callG G_is_integer T.g_is_integer (hr.mono (by first | decide | omega)) pass0 (pa_cons (pv 1) pa_nil))) (pw_and (pt_cmpR op_gt (pe_callB call_len_str (by rfl) T.n_len PySem.boot_len (pa_cons (pe_callTy call_str_int (by rfl) T.n_str (by decide +kernel) (pa_cons (pe_callB call_abs (by rfl) T.n_abs (by decide +kernel) (pa_cons (pv 1) pa_nil)) pa_nil)) pa_nil)) (ClX.pe_cval (pe_glob (v := .ref (He.ga K "Writer")) rfl T.g_Writer rfl)) (nomark _)) (pw_and1 (pt_cmpR op_ne (pe_fld (pv 0) rfl) pe_str (nomark _)))))) (pss_cons (ps_if (pt_cmpR op_eq (pe_fld (pv 0) rfl) pe_str (nomark _)) (pss_one (L2N.ps_raise rfl tk (pmk_G (T.exA (x := "Unwritable") (by simp [errN])) G_Unwritable_init T.g_Unwritable (hr.mono (by first | decide | omega)) pass0 (pa_cons pe_str (pa_cons (pv 2) pa_nil))))) pss_nil)
      (pss_one (ps_ret (pe_callTy call_str_int (by rfl) T.n_str (by decide +kernel) (pa_cons (pv 1) pa_nil))))) pss_nil)
      (pss_one (ps_ret (pv 1))))))), ?_⟩
    obtain ⟨t1, y1, k1⟩ := isiC T (Same.refl H) hv
    obtain ⟨t2, y2, k2⟩ := isi T "tuple" (Same.refl H) hv
    obtain ⟨t3, y3, k3⟩ := isiLT T (Same.refl H) hv
    have refused : ∀ {Hh : Hp} {pp : V} {r : Str}, Same H Hh → Ref K H E → _ := fun {Hh pp r} sh hr => rais_U T (H := Hh) (r := .str r) (pth := pp) (E := E) fun d H'' s3 hx => hr d H'' ⟨LamX.ExtN.of (sh.trans s3), hT.ext (sh.trans s3)⟩ hx
    refine ⟨_, rfl, x, _, t1, _, _, rfl, .own _, y1, k1, _, rfl, ?_⟩
    cases d with
    | tab es =>
      obtain ⟨j, a, dx, dd, od, kvs, rfl, rfl, _⟩ := at_tab hv
      obtain ⟨h4, hnd, hok⟩ := ok_tab ok
      have okes : okE j es := ⟨h4, hnd, hok⟩
      refine iteT ⟨_, rfl, p, _, _, rfl, hW, rfl, _, rfl, _, rfl, p, _, pth, xs, o, es, G, ps, rfl, ⟨dw, hW⟩, hG, hv0, okes, hP, by omega, hT, hps, fun hb => qE ?_, fun zs hmap hdup H' L ys hbad X hL hLi hpr => ⟨(by show 2 ≤ sizeLine; decide), fun t ht => ?_⟩⟩
      · show (if bad o es then none else if dup o (ordE o (kept o es)) then none else (allS ((ordE o (kept o es)).map (pairT (rawV o j)))).map fun zs => Val.tab zs) = none
        split
        · rfl
        · split
          · rfl
          · rcases hb with h | h | h
            · contradiction
            · contradiction
            · rw [allS_none.mpr h]; rfl
      · have nu := Same.nu (o := .tup [.str "table", .ref L]) ht
        have nt : t ∉ ps := (hps.x X.1).new ht
        have nL : L ∉ ps := hps.new hL
        refine q (.tab zs) ?_ _ _ (X.of nu) (.inr (.inr ⟨zs, t, L, ys, rfl, rfl, cut_at nt upd_same, cut_at nL (nu _ _ hLi), Paired.mapP hpr fun _ _ q => PairR.x (LamX.ExtN.of fun b u e => ?_) q⟩))
        · show (if bad o es then none else if dup o (ordE o (kept o es)) then none else (allS ((ordE o (kept o es)).map (pairT (rawV o j)))).map fun zs => Val.tab zs) = _
          rw [if_neg (by rw [hbad]; simp), if_neg (by rw [hdup]; simp), allS_some.mpr hmap]
          rfl
        · exact cut_put ht _ _ (cut_mono (fun b hb => List.mem_cons_of_mem _ hb) _ _ e)
    | seq t l =>
      obtain ⟨j, a, vs, rfl, rfl, ha, hx⟩ := at_list hv
      obtain ⟨_, a', vs', e1, e2, ha', hx0⟩ := at_list hv0
      obtain ⟨h4, hok⟩ := ok_list ok
      have hS := sqB_of (K := K) ha
      rw [show (tyS (Val.seq t l) == "Table") = false by cases t <;> rfl]
      refine iteF ⟨_, rfl, _, _, t2, _, _, rfl, .ty _, y2, k2, _, rfl, ?_⟩
      have etx : rawV o (j + 1) (.seq t l) = if !t && o.tp == "refuse" then none else (allS (l.map (rawV o j))).map fun zs => Val.seq true zs := rfl
      have hln := Paired.length hx
      cases t with
      | true =>
        have hno : (!true && o.tp == "refuse") = false := rfl
        refine iteF ⟨_, rfl, (by show 2 ≤ sizeLine; decide), fun q1 hq1 => ?_⟩
        have nu := Same.nu (o := .tup [.ty "list", .ty "tuple"]) hq1
        obtain ⟨t3, y3, k3⟩ := isiLT T nu hv
        refine ⟨_, q1, _, t3, _, _, rfl, upd_same, .cons (.ty _) (.cons (.ty _) .nil), y3, k3, _, rfl, iteT ?_⟩
        have hS1 : SqB K true (upd H q1 (.tup [.ty "list", .ty "tuple"])) a vs := sqB_of (nu _ _ ha)
        have nT : ∀ q, sqO true vs ≠ .tbl q := fun _ z => by cases z
        have hW1 := nu _ _ hW
        refine ⟨_, rfl, true, a, vs, rfl, hS1, fun D hD => lc_enumB (fun i H' => Xs [D] (upd H q1 (.tup [.ty "list", .ty "tuple"])) H' ∧ LamX.Tabs (TT K) H' ∧ ∃ ys zs, H' D = some (.lst ys) ∧ Paired (RwAt (cut H' (D :: ps)) j) ys zs ∧ (l.take i).map (rawV o j) = zs.map some)
          ⟨Xs.same (Same.nu hD), hT.ext (nu.trans (Same.nu hD)), [], [], upd_same, .nil, by rw [List.take_zero]; rfl⟩ (fun i H' _ ⟨x1, _⟩ => sqB_of (x1 a _ (by simp [ne_of_none (nu _ _ ha) hD]) (nu _ _ ha) nT)) ?_ ?_⟩
        · rintro i y U H' hy ⟨x1, T1, ys, zs, hd, hpr, hmap⟩ hU
          obtain ⟨e, he, hye⟩ := Paired.at hx hy
          have hi4 : i < 4 := by have := lt_of_at he; omega
          have l1 := Paired.length hpr
          have l2 := congrArg List.length hmap
          rw [List.length_map, List.length_map, List.length_take] at l2
          have xH : LamX.ExtN H H' := fun c u e2 n => x1 c u (by simp [ne_of_none (nu _ _ e2) hD]) (nu _ _ e2) n
          have nuU := Same.nu (o := .tup [.int (i : Nat), y]) hU
          have xU : LamX.ExtN H (upd H' U (.tup [.int (i : Nat), y])) := xH.trans (LamX.ExtN.of nuU)
          have fin : ∀ z, rawV o j e = some z → ∀ H4 v, Xt K (upd H' U (.tup [.int (i : Nat), y])) H4 → RwAt (cut H4 (D :: ps)) j v z → ∃ acc, H4 D = some (.lst acc) ∧ acc.length < sizeLine ∧ (Xs [D] (upd H q1 (.tup [.ty "list", .ty "tuple"])) (upd H4 D (.lst (acc ++ [v]))) ∧ LamX.Tabs (TT K) (upd H4 D (.lst (acc ++ [v]))) ∧ ∃ ys zs, (upd H4 D (.lst (acc ++ [v]))) D = some (.lst ys) ∧ Paired (RwAt (cut (upd H4 D (.lst (acc ++ [v]))) (D :: ps)) j) ys zs ∧ (l.take (i + 1)).map (rawV o j) = zs.map some) := by
            intro z ez H4 v X4 hv4
            have hD4 : H4 D = some (.lst ys) := X4.1 _ _ (nuU _ _ hd) fun _ z => nomatch z
            refine ⟨ys, hD4, small1000 (by omega), ((x1.trans (Xs.same nuU)).trans (Xs.of X4.1)).trans (Xs.up (by simp)), tabs_but X4.2 hD4 (fun _ z => nomatch z) (fun q z => nomatch z) (fun c u n e => by rw [upd_ne n]; exact e), ys ++ [v], zs ++ [z], upd_same, ?_, ?_⟩
            · rw [cut_up (by simp)]
              exact Paired.snoc (Paired.mapP hpr fun _ _ q => RwAt.x (cut_xs ((Xs.same nuU).trans (Xs.of X4.1))) q) hv4
            · rw [take_snoc he, List.map_append, hmap, List.map_append]
              simp only [List.map_cons, List.map_nil]
              rw [ez]
          have call : ∀ (pp : Addr) (xs' : List V) (Hq : Hp) (Q' : VK), Same (upd H' U (.tup [.int (i : Nat), y])) Hq → SqT K Hq pp xs' → xs'.length ≤ xs.length + 1 → (∀ z, rawV o j e = some z → ∀ H4 v, Xt K (upd H' U (.tup [.int (i : Nat), y])) H4 → RwAt (cut H4 (D :: ps)) j v z → Q' v H4) → spRaw K j [.ref p, y, .ref pp] Hq Q' E := fun pp xs' Hq Q' sq hq hl q' =>
            ⟨p, y, pp, xs', o, e, H, D :: ps, rfl, ⟨dw, sq _ _ (xU _ _ hW fun _ z => nomatch z)⟩, xU.trans (LamX.ExtN.of sq), hye, hok e (List.mem_of_getElem? he), hq, by omega, (T1.ext nuU).ext sq, fun c hc => by
              rcases List.mem_cons.mp hc with z | hc
              · rw [z]; exact ⟨_, sq _ _ (nuU _ _ hd), fun _ z => nomatch z⟩
              · obtain ⟨u, h1, h2⟩ := hps c hc
                exact ⟨u, sq _ _ (xU c u h1 h2), h2⟩, fun hn d H4 X4 hx => qE (by rw [etx, hno, allS_none.mpr (List.mem_map.mpr ⟨e, List.mem_of_getElem? he, hn⟩)]; rfl) d H4 ⟨(xU.trans (LamX.ExtN.of sq)).trans X4.1, X4.2⟩ hx, fun z ez H4 v X4 hv => q' z ez H4 v ⟨(LamX.ExtN.of sq).trans X4.1, X4.2⟩ hv⟩
          have hPs := sqT_x xU hP
          refine ⟨U, _, rfl, SqT.of upd_same, rfl, _, _, rfl, _, _, rfl, rfl, rfl, _, rfl, p, _, _, rfl, xU _ _ hW (fun _ z => nomatch z), rfl, _, rfl, _, rfl, _, rfl, (by show 1 ≤ sizeLine; decide), fun q2 hq2 => ?_⟩
          have nu2 := Same.nu (o := .tup [.int (i : Nat)]) hq2
          exact ⟨pth, q2, xs, [.int (i : Nat)], rfl, rfl, sqT_x (LamX.ExtN.of nu2) hPs, SqT.of upd_same, (show xs.length + 1 ≤ sizeLine from Nat.le_of_lt (small1000 (n := xs.length + 1) (by omega))),
            fun _ => call q2 [.int (i : Nat)] _ _ nu2 (SqT.of upd_same) (by simp) fin,
            fun _ z => (nomatch z),
            fun _ _ q3 hq3 => call q3 (xs ++ [.int (i : Nat)]) _ _ (nu2.trans (Same.nu hq3)) (SqT.of upd_same) (by simp) fin⟩
        · rintro H' ⟨x1, T1, ys, zs, hd, hpr, hmap⟩
          rw [List.take_of_length_le (by omega)] at hmap
          refine ⟨(by show 2 ≤ sizeLine; decide), fun t ht => ?_⟩
          have xH : LamX.ExtN H H' := fun c u e2 n => x1 c u (by simp [ne_of_none (nu _ _ e2) hD]) (nu _ _ e2) n
          have nuT := Same.nu (o := .tup [.str "row", .ref D]) ht
          have nt : t ∉ ps := (hps.x xH).new ht
          have nD : D ∉ ps := (hps.x (LamX.ExtN.of nu)).new hD
          have e1 := congrArg List.length hmap
          rw [List.length_map, List.length_map] at e1
          exact q (.seq true zs) (by rw [etx, hno, allS_some.mpr hmap]; rfl) _ _ ⟨xH.trans (LamX.ExtN.of nuT), T1.ext nuT⟩ (.inr (.inl ⟨zs, t, D, ys, rfl, rfl, cut_at nt upd_same, cut_at nD (nuT _ _ hd), Paired.mapP hpr fun _ _ q => RwAt.x (LamX.ExtN.of fun b u e => cut_put ht _ _ (cut_mono (fun b hb => List.mem_cons_of_mem _ hb) _ _ e)) q⟩))

      | false =>
        refine iteT ⟨_, rfl, p, _, _, _, _, rfl, hW, T.cl_Writer, T.a_Writer_tuples, rfl, rfl, _, rfl, ?_⟩
        rw [strEq]
        cases ht : (o.tp == "refuse") with
        | true => exact iteT ⟨_, rfl, refused (Same.refl H) (qE (by rw [etx, ht]; rfl))⟩
        | false =>
          have hno : (!false && o.tp == "refuse") = false := ht
          refine iteF ⟨_, rfl, (by show 2 ≤ sizeLine; decide), fun q1 hq1 => ?_⟩
          have nu := Same.nu (o := .tup [.ty "list", .ty "tuple"]) hq1
          obtain ⟨t3, y3, k3⟩ := isiLT T nu hv
          refine ⟨_, q1, _, t3, _, _, rfl, upd_same, .cons (.ty _) (.cons (.ty _) .nil), y3, k3, _, rfl, iteT ?_⟩
          have hS1 : SqB K false (upd H q1 (.tup [.ty "list", .ty "tuple"])) a vs := sqB_of (nu _ _ ha)
          have nT : ∀ q, sqO false vs ≠ .tbl q := fun _ z => by cases z
          have hW1 := nu _ _ hW
          refine ⟨_, rfl, false, a, vs, rfl, hS1, fun D hD => lc_enumB (fun i H' => Xs [D] (upd H q1 (.tup [.ty "list", .ty "tuple"])) H' ∧ LamX.Tabs (TT K) H' ∧ ∃ ys zs, H' D = some (.lst ys) ∧ Paired (RwAt (cut H' (D :: ps)) j) ys zs ∧ (l.take i).map (rawV o j) = zs.map some)
            ⟨Xs.same (Same.nu hD), hT.ext (nu.trans (Same.nu hD)), [], [], upd_same, .nil, by rw [List.take_zero]; rfl⟩ (fun i H' _ ⟨x1, _⟩ => sqB_of (x1 a _ (by simp [ne_of_none (nu _ _ ha) hD]) (nu _ _ ha) nT)) ?_ ?_⟩
          · rintro i y U H' hy ⟨x1, T1, ys, zs, hd, hpr, hmap⟩ hU
            obtain ⟨e, he, hye⟩ := Paired.at hx hy
            have hi4 : i < 4 := by have := lt_of_at he; omega
            have l1 := Paired.length hpr
            have l2 := congrArg List.length hmap
            rw [List.length_map, List.length_map, List.length_take] at l2
            have xH : LamX.ExtN H H' := fun c u e2 n => x1 c u (by simp [ne_of_none (nu _ _ e2) hD]) (nu _ _ e2) n
            have nuU := Same.nu (o := .tup [.int (i : Nat), y]) hU
            have xU : LamX.ExtN H (upd H' U (.tup [.int (i : Nat), y])) := xH.trans (LamX.ExtN.of nuU)
            have fin : ∀ z, rawV o j e = some z → ∀ H4 v, Xt K (upd H' U (.tup [.int (i : Nat), y])) H4 → RwAt (cut H4 (D :: ps)) j v z → ∃ acc, H4 D = some (.lst acc) ∧ acc.length < sizeLine ∧ (Xs [D] (upd H q1 (.tup [.ty "list", .ty "tuple"])) (upd H4 D (.lst (acc ++ [v]))) ∧ LamX.Tabs (TT K) (upd H4 D (.lst (acc ++ [v]))) ∧ ∃ ys zs, (upd H4 D (.lst (acc ++ [v]))) D = some (.lst ys) ∧ Paired (RwAt (cut (upd H4 D (.lst (acc ++ [v]))) (D :: ps)) j) ys zs ∧ (l.take (i + 1)).map (rawV o j) = zs.map some) := by
              intro z ez H4 v X4 hv4
              have hD4 : H4 D = some (.lst ys) := X4.1 _ _ (nuU _ _ hd) fun _ z => nomatch z
              refine ⟨ys, hD4, small1000 (by omega), ((x1.trans (Xs.same nuU)).trans (Xs.of X4.1)).trans (Xs.up (by simp)), tabs_but X4.2 hD4 (fun _ z => nomatch z) (fun q z => nomatch z) (fun c u n e => by rw [upd_ne n]; exact e), ys ++ [v], zs ++ [z], upd_same, ?_, ?_⟩
              · rw [cut_up (by simp)]
                exact Paired.snoc (Paired.mapP hpr fun _ _ q => RwAt.x (cut_xs ((Xs.same nuU).trans (Xs.of X4.1))) q) hv4
              · rw [take_snoc he, List.map_append, hmap, List.map_append]
                simp only [List.map_cons, List.map_nil]
                rw [ez]
            have call : ∀ (pp : Addr) (xs' : List V) (Hq : Hp) (Q' : VK), Same (upd H' U (.tup [.int (i : Nat), y])) Hq → SqT K Hq pp xs' → xs'.length ≤ xs.length + 1 → (∀ z, rawV o j e = some z → ∀ H4 v, Xt K (upd H' U (.tup [.int (i : Nat), y])) H4 → RwAt (cut H4 (D :: ps)) j v z → Q' v H4) → spRaw K j [.ref p, y, .ref pp] Hq Q' E := fun pp xs' Hq Q' sq hq hl q' =>
              ⟨p, y, pp, xs', o, e, H, D :: ps, rfl, ⟨dw, sq _ _ (xU _ _ hW fun _ z => nomatch z)⟩, xU.trans (LamX.ExtN.of sq), hye, hok e (List.mem_of_getElem? he), hq, by omega, (T1.ext nuU).ext sq, fun c hc => by
                rcases List.mem_cons.mp hc with z | hc
                · rw [z]; exact ⟨_, sq _ _ (nuU _ _ hd), fun _ z => nomatch z⟩
                · obtain ⟨u, h1, h2⟩ := hps c hc
                  exact ⟨u, sq _ _ (xU c u h1 h2), h2⟩, fun hn d H4 X4 hx => qE (by rw [etx, hno, allS_none.mpr (List.mem_map.mpr ⟨e, List.mem_of_getElem? he, hn⟩)]; rfl) d H4 ⟨(xU.trans (LamX.ExtN.of sq)).trans X4.1, X4.2⟩ hx, fun z ez H4 v X4 hv => q' z ez H4 v ⟨(LamX.ExtN.of sq).trans X4.1, X4.2⟩ hv⟩
            have hPs := sqT_x xU hP
            refine ⟨U, _, rfl, SqT.of upd_same, rfl, _, _, rfl, _, _, rfl, rfl, rfl, _, rfl, p, _, _, rfl, xU _ _ hW (fun _ z => nomatch z), rfl, _, rfl, _, rfl, _, rfl, (by show 1 ≤ sizeLine; decide), fun q2 hq2 => ?_⟩
            have nu2 := Same.nu (o := .tup [.int (i : Nat)]) hq2
            exact ⟨pth, q2, xs, [.int (i : Nat)], rfl, rfl, sqT_x (LamX.ExtN.of nu2) hPs, SqT.of upd_same, (show xs.length + 1 ≤ sizeLine from Nat.le_of_lt (small1000 (n := xs.length + 1) (by omega))),
              fun _ => call q2 [.int (i : Nat)] _ _ nu2 (SqT.of upd_same) (by simp) fin,
              fun _ z => (nomatch z),
              fun _ _ q3 hq3 => call q3 (xs ++ [.int (i : Nat)]) _ _ (nu2.trans (Same.nu hq3)) (SqT.of upd_same) (by simp) fin⟩
          · rintro H' ⟨x1, T1, ys, zs, hd, hpr, hmap⟩
            rw [List.take_of_length_le (by omega)] at hmap
            refine ⟨(by show 2 ≤ sizeLine; decide), fun t ht => ?_⟩
            have xH : LamX.ExtN H H' := fun c u e2 n => x1 c u (by simp [ne_of_none (nu _ _ e2) hD]) (nu _ _ e2) n
            have nuT := Same.nu (o := .tup [.str "row", .ref D]) ht
            have nt : t ∉ ps := (hps.x xH).new ht
            have nD : D ∉ ps := (hps.x (LamX.ExtN.of nu)).new hD
            have e1 := congrArg List.length hmap
            rw [List.length_map, List.length_map] at e1
            exact q (.seq true zs) (by rw [etx, hno, allS_some.mpr hmap]; rfl) _ _ ⟨xH.trans (LamX.ExtN.of nuT), T1.ext nuT⟩ (.inr (.inl ⟨zs, t, D, ys, rfl, rfl, cut_at nt upd_same, cut_at nD (nuT _ _ hd), Paired.mapP hpr fun _ _ q => RwAt.x (LamX.ExtN.of fun b u e => cut_put ht _ _ (cut_mono (fun b hb => List.mem_cons_of_mem _ hb) _ _ e)) q⟩))

    | int i =>
      refine iteF ⟨_, rfl, x, _, t2, _, _, rfl, .ty _, y2, k2, _, rfl, iteF ?_⟩
      refine ⟨_, rfl, (by show 2 ≤ sizeLine; decide), fun q1 hq1 => ?_⟩
      have nu := Same.nu (o := .tup [.ty "list", .ty "tuple"]) hq1
      obtain ⟨t3, y3, k3⟩ := isiLT T nu hv
      have ex : x = .int i := (Option.some.inj (at_flat hv (fun _ _ z => nomatch z) (fun _ z => nomatch z))).symm
      have et : rawV o k (.int i) = rawF o (.int i) := raw_leaf (fun _ _ z => nomatch z) (fun _ z => nomatch z)
      have eo : i.natAbs < 10 ^ 21 := ok_leaf ok (fun _ _ z => nomatch z) (fun _ z => nomatch z)
      refine ⟨x, q1, _, t3, _, _, rfl, upd_same, .cons (.ty _) (.cons (.ty _) .nil), y3, k3, _, rfl, iteF ⟨_, rfl, x, _, H, k, rfl, nu, hv, _, rfl, iteT ?_⟩⟩
      subst ex
      have hW1 := nu _ _ hW
      have plain : rawF o (.int i) = some (.int i) → Q (.int i) (upd H q1 (.tup [.ty "list", .ty "tuple"])) := fun e => q (.int i) (et.trans e) _ _ (Xt.same hT nu) (.flat rfl)
      obtain ⟨dg1, dgu, dg2⟩ := T.dig
      refine ⟨_, rfl, i, rfl, _, rfl, log_of (by split <;> omega), _, rfl, ?_, _, _, _, _, rfl, dg1, dg2, _, _, rfl, rfl, ?_⟩
      · refine Nat.le_trans (istr_len (i := if i < 0 then -i else i) (by split <;> omega)) (by decide)
      refine ⟨_, rfl, ?_⟩
      refine ite2 (fun hl => ?_) (fun hl => ⟨_, rfl, plain ?_⟩)
      · have hl : longI i = true := hl
        refine ⟨_, rfl, p, _, _, _, _, rfl, hW1, T.cl_Writer, T.a_Writer_long_numbers, rfl, rfl, _, rfl, ?_⟩
        rw [strEq]
        cases hk : (o.ln == "keep") with
        | true =>
          refine iteF ⟨_, rfl, plain ?_⟩
          show (if longI i && !(o.ln == "keep") then (if o.ln = "refuse" then none else some (Val.str (istr i))) else some (.int i)) = some (.int i)
          rw [hk, Bool.not_true, Bool.and_false]
          rfl
        | false =>
          have e0 : rawF o (.int i) = if o.ln = "refuse" then none else some (Val.str (istr i)) := by
            show (if longI i && !(o.ln == "keep") then (if o.ln = "refuse" then none else some (Val.str (istr i))) else some (.int i)) = _
            rw [hk, hl]
            rfl
          refine iteT ⟨_, rfl, p, _, _, _, _, rfl, hW1, T.cl_Writer, T.a_Writer_long_numbers, rfl, rfl, _, rfl, ?_⟩
          rw [strEq]
          cases hr2 : (o.ln == "refuse") with
          | true => exact iteT ⟨_, rfl, refused nu (qE (et.trans (by rw [e0, if_pos (eq_of_beq hr2)])))⟩
          | false =>
            refine iteF ⟨_, rfl, i, rfl, log_of eo, q (.str (istr i)) (et.trans (by rw [e0, if_neg (fun z => by rw [z] at hr2; simp at hr2)])) _ _ (Xt.same hT nu) (.flat rfl)⟩
      · have hl : longI i = false := Bool.eq_false_iff.mpr hl
        show (if longI i && !(o.ln == "keep") then (if o.ln = "refuse" then none else some (Val.str (istr i))) else some (.int i)) = some (.int i)
        rw [hl]
        rfl
    | non =>
      refine iteF ⟨_, rfl, x, _, t2, _, _, rfl, .ty _, y2, k2, _, rfl, iteF ?_⟩
      refine ⟨_, rfl, (by show 2 ≤ sizeLine; decide), fun q1 hq1 => ?_⟩
      have nu := Same.nu (o := .tup [.ty "list", .ty "tuple"]) hq1
      obtain ⟨t3, y3, k3⟩ := isiLT T nu hv
      have ex := Option.some.inj (at_flat hv (fun _ _ z => nomatch z) (fun _ z => nomatch z))
      have eo := ok_leaf ok (fun _ _ z => nomatch z) (fun _ z => nomatch z)
      refine ⟨x, q1, _, t3, _, _, rfl, upd_same, .cons (.ty _) (.cons (.ty _) .nil), y3, k3, _, rfl, iteF ⟨_, rfl, x, _, H, k, rfl, nu, hv, _, rfl, iteF ⟨_, rfl, q _ (raw_leaf (fun _ _ z => nomatch z) (fun _ z => nomatch z)) _ _ (Xt.same hT nu) (.flat ?_)⟩⟩⟩
      subst ex
      rfl
    | bl b =>
      refine iteF ⟨_, rfl, x, _, t2, _, _, rfl, .ty _, y2, k2, _, rfl, iteF ?_⟩
      refine ⟨_, rfl, (by show 2 ≤ sizeLine; decide), fun q1 hq1 => ?_⟩
      have nu := Same.nu (o := .tup [.ty "list", .ty "tuple"]) hq1
      obtain ⟨t3, y3, k3⟩ := isiLT T nu hv
      have ex := Option.some.inj (at_flat hv (fun _ _ z => nomatch z) (fun _ z => nomatch z))
      have eo := ok_leaf ok (fun _ _ z => nomatch z) (fun _ z => nomatch z)
      refine ⟨x, q1, _, t3, _, _, rfl, upd_same, .cons (.ty _) (.cons (.ty _) .nil), y3, k3, _, rfl, iteF ⟨_, rfl, x, _, H, k, rfl, nu, hv, _, rfl, iteF ⟨_, rfl, q _ (raw_leaf (fun _ _ z => nomatch z) (fun _ z => nomatch z)) _ _ (Xt.same hT nu) (.flat ?_)⟩⟩⟩
      subst ex
      rfl
    | str z =>
      refine iteF ⟨_, rfl, x, _, t2, _, _, rfl, .ty _, y2, k2, _, rfl, iteF ?_⟩
      refine ⟨_, rfl, (by show 2 ≤ sizeLine; decide), fun q1 hq1 => ?_⟩
      have nu := Same.nu (o := .tup [.ty "list", .ty "tuple"]) hq1
      obtain ⟨t3, y3, k3⟩ := isiLT T nu hv
      have ex := Option.some.inj (at_flat hv (fun _ _ z => nomatch z) (fun _ z => nomatch z))
      have eo := ok_leaf ok (fun _ _ z => nomatch z) (fun _ z => nomatch z)
      refine ⟨x, q1, _, t3, _, _, rfl, upd_same, .cons (.ty _) (.cons (.ty _) .nil), y3, k3, _, rfl, iteF ⟨_, rfl, x, _, H, k, rfl, nu, hv, _, rfl, iteF ⟨_, rfl, q _ (raw_leaf (fun _ _ z => nomatch z) (fun _ z => nomatch z)) _ _ (Xt.same hT nu) (.flat ?_)⟩⟩⟩
      subst ex
      rfl
theorem ok_Writer_raw_at (T : Tx w K mg) (hTB : LamX.TabB base mg (He.codeOf K keD) (keT K)) : ∀ k, Gd P w K base mg (L2N.CX P w) (2 * (k + 1) + 6) (He.fAd K d_Writer_raw_at.at_) ["self", "value", "path"] [] (spRaw K k) :=
  recGdN (fun k => 2 * k + 6) (fun l => mkGdXF (T.f_Writer_raw_at) sc_Writer_raw_at (fun _ _ _ _ _ _ us hl => match us, hl with | [_, _, _], _ => rfl) l) (fun k G => st_raw_at T hTB k G)
end
end Kt
set_option Elab.async false
set_option linter.all false
set_option maxRecDepth 100000
set_option maxHeartbeats 4000000
namespace Kt
open PySem PySem.Spec PyProof.Rows L2 Rz _root_.TL
section
variable {P : Program} {w : World} {K : PySem.W.Frag} {mg : Str → Option Value} {base : Heap}
theorem tl_neg {i : Int} (h : i < 0) : tl (istr i) = 45 :: numL i.natAbs := by
  unfold istr
  rw [tl_ofString, PyProof.Rows.toString_neg h, String.toList_append, List.map_append]
  have e : (0 : Int) - i = ((i.natAbs : Nat) : Int) := by omega
  rw [e]
  have e2 := tl_num i.natAbs
  rw [tl_ofString] at e2
  rw [e2]
  rfl
theorem int_istr {i : Int} (h : i.natAbs < 10 ^ 21) : intText? (istr i) = some i := by
  have hl : (numL i.natAbs).length ≤ 21 := numL_len (by decide) h
  by_cases h0 : i < 0
  · have e := tl_neg h0
    have r := intText_neg (x := istr i) (cs := numL i.natAbs) e (numL_digits _) (numL_ne _) (by rw [len_tl, e, List.length_cons]; omega)
    rw [numL_val] at r
    rw [r]
    congr 1
    omega
  · obtain ⟨n, rfl⟩ : ∃ n : Nat, i = n := ⟨i.toNat, by omega⟩
    exact int_num (by simp at hl ⊢; omega)
/-- len of a table's dict, frozen or not -/
theorem call_lenDf {X : Cx} : CallR X (.builtin "len") (fun xs H Q => ∃ a kvs, xs = [V.ref a] ∧ Rd H a (.dK kvs) ∧ Q (.int kvs.length) H) := by
  intro pins s σ H xs us Q I r h
  obtain ⟨a, kvs, rfl, ha, q⟩ := h
  obtain ⟨u, rfl, ru⟩ := vals1 r
  cases ru
  exact d_len I ha fun t s' I' => ⟨.int kvs.length, H, I', ⟨t, rfl⟩, q⟩
def spIsDK : Sp := fun vs H Q _ => ∃ z : Str, vs = [.str z] ∧ z.length ≤ 60 ∧ Q (.bl (isDK z)) H
theorem rmp_len (z y : Str) : (Txt.removeprefix z y).length ≤ z.length := by
  rw [PySem.StrLaws.removeprefix_eq]
  split
  · show (List.toArray _).size ≤ _
    rw [List.size_toArray, List.length_take]
    omega
  · exact Nat.le_refl _
theorem ok_is_digit_key (T : Tx w K mg) : Gd P w K base mg CX0 1 (He.fAd K d_is_digit_key.at_) ["key"] [] spIsDK := by
  refine mkGd (T.f_is_digit_key) sc_is_digit_key (fun vs H Q E h => ?_) (fun _ _ _ _ _ _ us hl => match us, hl with | [_], _ => rfl) (fun cdv A outer s H vs Q E hr h => ?_)
  · obtain ⟨z, rfl, _⟩ := h
    rfl
  · have hu := hu_of hr
    obtain ⟨z, rfl, hz, q⟩ := h
    obtain ⟨tMD, hMD⟩ := T.MOST_DIGITS
    refine ⟨_, (pss_cons (ps_if (pt_not (pt_val (pe_callB call_isi (by rfl) T.n_isinstance (by decide +kernel) (pa_cons (pv 0) (pa_cons (pe_bltn (v := .ty "str") (u := .type "str") (by rfl) T.n_str (by decide +kernel) rfl) pa_nil))))) (pss_one (ps_ret pe_bl)) pss_nil)
      (pss_cons (ps_set (i := 1) sc_is_digit_key.nd rfl (Or.inl rfl) (pe_bm PySem.F.plainAttrs_str PySem.F.slot_str_removeprefix PySem.F.type_str_removeprefix mt_removeprefix (pv 0) (pa_cons pe_str pa_nil)))
      (pss_cons (ps_if (PW.pt (pw_or (pt_not (pt_truth (pe_m0 PySem.F.slot_str_isdigit PySem.F.type_str_isdigit mt_isdigit (pv 1)) (by intro _; rfl))) (pw_or1 (pt_cmpR op_gt (pe_callB call_len_str (by rfl) T.n_len PySem.boot_len (pa_cons (pv 1) pa_nil)) (pe_glob (v := .int 30) rfl hMD ⟨_, rfl⟩) (nomark _))))) (pss_one (ps_ret pe_bl)) pss_nil)
      (pss_one (ps_ret (pe_or (pe_cmpR op_eq (pv 0) pe_str (nomark _)) (pe_one (pe_cmpR op_ne (pe_ix ix_str (pv 1) pe_int (fun _ _ => rfl)) pe_str (nomark _))))))))), ?_⟩
    have hzl : z.length ≤ sizeLine := Nat.le_trans hz (by decide)
    obtain ⟨t1, y1, k1⟩ := isi T "str" (G := H) (k := 0) (x := .str z) (d := .str z) (Same.refl H) rfl
    refine ⟨_, rfl, .str z, _, t1, _, _, rfl, .ty _, y1, k1, _, rfl, ?_⟩
    refine iteF ⟨_, rfl, rfl, _, _, rfl, rfl, hzl, ?_⟩
    have hgl : (Txt.removeprefix z "-").length ≤ sizeLine := Nat.le_trans (rmp_len _ _) hzl
    unfold isDK at q
    generalize Txt.removeprefix z "-" = g at hgl q ⊢
    refine ⟨_, rfl, ⟨_, rfl⟩, _, rfl, rfl, trivial, _, rfl, ?_⟩
    cases hd : Txt.isdigit g with
    | false =>
      rw [hd] at q
      exact iteT q
    | true =>
      rw [hd] at q
      refine iteF ⟨_, rfl, g, rfl, hgl, _, _, rfl, rfl, _, rfl, ?_⟩
      cases hl : decide ((30 : Int) < (g.length : Int)) with
      | true =>
        rw [hl] at q
        exact iteT q
      | false =>
        rw [hl] at q
        refine iteF ⟨_, rfl, rfl, _, rfl, ?_⟩
        cases h0 : decide (V.str z = V.str "0") with
        | true =>
          rw [h0] at q
          exact iteT q
        | false =>
          rw [h0] at q
          cases h3 : tl g with
          | nil =>
            unfold Txt.isdigit at hd
            rw [len_tl, h3] at hd
            simp at hd
          | cons a r =>
            rw [h3] at q
            exact iteF ⟨_, rfl, g, 0, a, rfl, rfl, hgl, by show atI (tl g) 0 = _; rw [h3]; exact atI_nat (j := 0) rfl, rfl, q⟩
def spBK (K : PySem.W.Frag) : Sp := fun vs H Q _ => ∃ (p : Addr) (n : Str) (r : ROpt), vs = [.ref p, .str n] ∧ DAt K H p r ∧ okN n ∧ Q (kV (bk r (.inr n))) H
theorem ok_Reader_built_key (T : Tx w K mg) : Gd P w K base mg CX0 2 (He.fAd K d_Reader_built_key.at_) ["self", "name"] [] (spBK K) := by
  have G_is_digit_key := ok_is_digit_key (P := P) (w := w) (base := base) T
  refine mkGd (T.f_Reader_built_key) sc_Reader_built_key (fun vs H Q E h => ?_) (fun _ _ _ _ _ _ us hl => match us, hl with | [_, _], _ => rfl) (fun cdv A outer s H vs Q E hr h => ?_)
  · obtain ⟨p, n, r, rfl, _⟩ := h
    rfl
  · have hu := hu_of hr
    obtain ⟨p, n, r, rfl, ⟨y, hp⟩, hn, q⟩ := h
    refine ⟨_, (pss_cons (ps_if (PW.pt (pw_and (pt_cmpR op_eq (pe_fld (pv 0) rfl) pe_str (nomark _)) (pw_and1 (pt_truth (pe_callG G_is_digit_key T.g_is_digit_key (hr.mono (by first | decide | omega)) pass0 (pa_cons (pv 1) pa_nil)) (by intro _; rfl))))) (pss_one (ps_ret (pe_callTy call_int_str (by rfl) T.n_int (by decide +kernel) (pa_cons (pv 1) pa_nil)))) pss_nil)
      (pss_one (ps_ret (pv 1)))), ?_⟩
    refine ⟨_, rfl, p, _, _, _, _, rfl, hp, T.cl_Reader, T.a_Reader_digit_keys, rfl, rfl, _, rfl, ?_⟩
    rw [strEq]
    have e : bk r (.inr n) = if r.dg == "number" && isDK n then .inl ((intText? n).getD 0) else .inr n := rfl
    cases hd : (r.dg == "number") with
    | false =>
      rw [e, hd] at q
      exact iteF ⟨_, rfl, q⟩
    | true =>
      refine iteT ⟨_, rfl, n, rfl, Nat.le_trans hn.1 (by decide), _, rfl, ?_⟩
      cases hk : isDK n with
      | false =>
        rw [e, hd, hk] at q
        exact iteF ⟨_, rfl, q⟩
      | true =>
        obtain ⟨i, rfl, hi⟩ := hn.2 hk
        rw [e, hd, hk, int_istr hi] at q
        exact iteT ⟨_, rfl, _, i, rfl, int_istr hi, Nat.le_trans hn.1 (by decide), q⟩
end
end Kt
set_option Elab.async false
set_option linter.all false
set_option maxRecDepth 100000
set_option maxHeartbeats 4000000
namespace Kt
open PySem PySem.Spec PyProof.Rows L2 Rz _root_.TL
section
variable {P : Program} {w : World} {K : PySem.W.Frag} {mg : Str → Option Value} {base : Heap}
theorem bk_eq {r : ROpt} {x : Str} : bk r (.inr x) = if (r.dg == "number" && isDK x) = true then .inl ((intText? x).getD 0) else .inr x := rfl
theorem bk_ok {r : ROpt} {x : Str} (h : okN x) : okK (bk r (.inr x)) := by
  rw [bk_eq]
  cases e : (r.dg == "number" && isDK x) with
  | false => exact h
  | true =>
    rw [if_pos rfl]
    obtain ⟨i, rfl, hi⟩ := h.2 (Bool.and_eq_true_iff.mp e).2
    rw [int_istr hi]
    exact hi
theorem bk_inj {r : ROpt} {x y : Str} (hx : okN x) (hy : okN y) (e : bk r (.inr x) = bk r (.inr y)) : x = y := by
  rw [bk_eq, bk_eq] at e
  cases ex : (r.dg == "number" && isDK x) with
  | false =>
    cases ey : (r.dg == "number" && isDK y) with
    | false =>
      rw [ex, ey] at e
      exact Sum.inr.inj e
    | true =>
      rw [ex, ey] at e
      cases e
  | true =>
    cases ey : (r.dg == "number" && isDK y) with
    | false =>
      rw [ex, ey] at e
      cases e
    | true =>
      obtain ⟨i, rfl, hi⟩ := hx.2 (Bool.and_eq_true_iff.mp ex).2
      obtain ⟨j, rfl, hj⟩ := hy.2 (Bool.and_eq_true_iff.mp ey).2
      rw [ex, ey, int_istr hi, int_istr hj] at e
      have e2 : i = j := Sum.inl.inj e
      rw [e2]
theorem anyK {l : List (Key × Val)} {y : Key} : (l.any fun x => decide (x.1 = y)) = true ↔ y ∈ l.map (·.1) := by
  rw [List.any_eq_true, List.mem_map]
  constructor
  · rintro ⟨x, hx, e⟩
    exact ⟨x, hx, of_decide_eq_true e⟩
  · rintro ⟨x, hx, e⟩
    exact ⟨x, hx, decide_eq_true e⟩
theorem fput_props {r : ROpt} {l : List (Key × Val)} {e : Key × Val} (hn : (l.map (·.1)).Nodup) : ((fput r l e).map (·.1)).Nodup ∧ (∀ k, k ∈ (fput r l e).map (·.1) ↔ k ∈ l.map (·.1) ∨ k = e.1) ∧ (fput r l e).length ≤ l.length + 1 ∧ ∀ x ∈ fput r l e, x.2 ∈ l.map (·.2) ∨ x.2 = e.2 := by
  unfold fput
  by_cases h : (l.any fun x => decide (x.1 = e.1)) = true
  · rw [if_pos h]
    have hm := anyK.mp h
    have same : ∀ k, k ∈ l.map (·.1) ↔ k ∈ l.map (·.1) ∨ k = e.1 := fun k => ⟨.inl, fun z => z.elim id fun z => by rw [z]; exact hm⟩
    by_cases hl : (r.sk == "last") = true
    · rw [if_pos hl]
      have ek : (l.map fun x => if x.1 = e.1 then (x.1, e.2) else x).map (·.1) = l.map (·.1) := by
        rw [List.map_map]
        refine List.map_congr_left fun x _ => ?_
        show (if x.1 = e.1 then (x.1, e.2) else x).1 = x.1
        split <;> rfl
      rw [ek]
      refine ⟨hn, same, by rw [List.length_map]; omega, fun x hx => ?_⟩
      obtain ⟨y, hy, rfl⟩ := List.mem_map.mp hx
      split
      · exact .inr rfl
      · exact .inl (List.mem_map.mpr ⟨y, hy, rfl⟩)
    · rw [if_neg hl]
      exact ⟨hn, same, by omega, fun x hx => .inl (List.mem_map.mpr ⟨x, hx, rfl⟩)⟩
  · rw [if_neg h]
    have hm : e.1 ∉ l.map (·.1) := fun z => h (anyK.mpr z)
    rw [List.map_append]
    refine ⟨List.nodup_append.mpr ⟨hn, by simp, fun a ha b hb z => hm ?_⟩, fun k => by simp, by simp, fun x hx => ?_⟩
    · have hb : b = e.1 := by simpa using hb
      rw [← hb, ← z]
      exact ha
    · rcases List.mem_append.mp hx with z | z
      · exact .inl (List.mem_map.mpr ⟨x, z, rfl⟩)
      · rw [List.mem_singleton.mp z]; exact .inr rfl
theorem fold_props {r : ROpt} : ∀ (zs l : List (Key × Val)), (l.map (·.1)).Nodup → ((zs.foldl (fput r) l).map (·.1)).Nodup ∧ (∀ k, k ∈ (zs.foldl (fput r) l).map (·.1) ↔ k ∈ l.map (·.1) ∨ k ∈ zs.map (·.1)) ∧ (zs.foldl (fput r) l).length ≤ l.length + zs.length ∧ ∀ x ∈ zs.foldl (fput r) l, x.2 ∈ l.map (·.2) ∨ x.2 ∈ zs.map (·.2)
  | [], l, hn => ⟨hn, fun k => by simp, by simp, fun x hx => .inl (List.mem_map.mpr ⟨x, hx, rfl⟩)⟩
  | e :: zs, l, hn => by
    obtain ⟨a1, a2, a3, a4⟩ := fput_props (r := r) (e := e) hn
    obtain ⟨b1, b2, b3, b4⟩ := fold_props zs (fput r l e) a1
    rw [List.foldl_cons]
    refine ⟨b1, fun k => ?_, by rw [List.length_cons]; omega, fun x hx => ?_⟩
    · rw [b2, a2, List.map_cons, List.mem_cons, or_assoc]
    · rw [List.map_cons, List.mem_cons]
      rcases b4 x hx with z | z
      · obtain ⟨y, hy, ey⟩ := List.mem_map.mp z
        rcases a4 y hy with q | q
        · exact .inl (by rw [← ey]; exact q)
        · exact .inr (.inl (by rw [← ey]; exact q))
      · exact .inr (.inr z)
theorem fputs_props {r : ROpt} (zs : List (Key × Val)) : ((fputs r zs).map (·.1)).Nodup ∧ (∀ k, k ∈ (fputs r zs).map (·.1) ↔ k ∈ zs.map (·.1)) ∧ (fputs r zs).length ≤ zs.length ∧ ∀ x ∈ fputs r zs, x.2 ∈ zs.map (·.2) := by
  obtain ⟨a, b, c, d⟩ := fold_props (r := r) zs [] .nil
  unfold fputs
  exact ⟨a, fun k => by have := b k; simpa using this, by simpa using c, fun x hx => by have := d x hx; simpa using this⟩
theorem fputs_snoc {r : ROpt} {zs : List (Key × Val)} {e : Key × Val} : fputs r (zs ++ [e]) = fput r (fputs r zs) e := by
  unfold fputs
  rw [List.foldl_append]
  rfl
theorem put_paired {R : V → Val → Prop} {y : V} {z : Val} {n : Key} (hR : R y z) : ∀ {kvs : List (Key × V)} {l : List (Key × Val)}, Paired (fun a b => a.1 = b.1 ∧ R a.2 b.2) kvs l → Paired (fun a b => a.1 = b.1 ∧ R a.2 b.2) (kvs.map fun kv => if kv.1 = n then (kv.1, y) else kv) (l.map fun x => if x.1 = n then (x.1, z) else x)
  | _, _, .nil => .nil
  | _, _, .cons (a := a) (b := b) h t => .cons (by
      obtain ⟨h1, h2⟩ := h
      show (if a.1 = n then (a.1, y) else a).1 = (if b.1 = n then (b.1, z) else b).1 ∧ R (if a.1 = n then (a.1, y) else a).2 (if b.1 = n then (b.1, z) else b).2
      by_cases e : b.1 = n
      · rw [if_pos (h1.trans e), if_pos e]; exact ⟨h1, hR⟩
      · rw [if_neg (fun q => e (h1.symm.trans q)), if_neg e]; exact ⟨h1, h2⟩) (put_paired hR t)
theorem outB_ok {r : ROpt} {k : Nat} {zs : List (Key × Val)} (hl : zs.length ≤ 4) (hz : ∀ e ∈ zs, (∃ x, e.1 = .inr x ∧ okN x) ∧ Ok k e.2) : okE k (outB r zs) := by
  obtain ⟨a, b, c, d⟩ := fputs_props (r := r) zs
  have key : ∀ e ∈ fputs r zs, (∃ x, e.1 = .inr x ∧ okN x) ∧ Ok k e.2 := fun e he => by
    refine ⟨?_, ?_⟩
    · obtain ⟨e', h1, h2⟩ := List.mem_map.mp ((b e.1).mp (List.mem_map.mpr ⟨e, he, rfl⟩))
      obtain ⟨x, h3, h4⟩ := (hz e' h1).1
      exact ⟨x, by rw [← h2, h3], h4⟩
    · obtain ⟨e', h1, h2⟩ := List.mem_map.mp (d e he)
      rw [← h2]
      exact (hz e' h1).2
  unfold outB
  refine ⟨?_, ?_, fun e he => ?_⟩
  · rw [List.length_map]
    exact Nat.le_trans (List.length_filter_le _ _) (Nat.le_trans c hl)
  · have e0 : (((fputs r zs).filter (heldB r)).map fun e => (bk r e.1, e.2)).map (·.1) = (((fputs r zs).filter (heldB r)).map (·.1)).map (bk r) := by
      rw [List.map_map, List.map_map]
      rfl
    rw [e0]
    have hs : (((fputs r zs).filter (heldB r)).map (·.1)).Nodup := a.sublist (List.filter_sublist.map _)
    refine List.Pairwise.map (bk r) (S := fun a b => a ≠ b) (fun a b q => q) ?_
    refine (List.pairwise_map.mpr ((List.pairwise_map.mp hs).imp_of_mem fun {u v} hu hv q z => ?_))
    obtain ⟨x, h1, h2⟩ := (key u (List.mem_filter.mp hu).1).1
    obtain ⟨y, h3, h4⟩ := (key v (List.mem_filter.mp hv).1).1
    rw [h1, h3] at z
    exact q (by rw [h1, h3, bk_inj h2 h4 z])
  · obtain ⟨e', h1, rfl⟩ := List.mem_map.mp he
    obtain ⟨⟨x, h2, h3⟩, h4⟩ := key e' (List.mem_filter.mp h1).1
    exact ⟨by show okK (bk r e'.1); rw [h2]; exact bk_ok h3, h4⟩
theorem bld_ok {r : ROpt} : ∀ {k : Nat} {d z : Val}, Rok k d → bldV r k d = some z → Ok k z
  | 0, _, _, h, e => by cases e; exact h
  | k + 1, d, z, h, e => by
    rcases h with h | ⟨l, ed, hl, hx⟩ | ⟨es, ed, hl, hx⟩
    · cases d with
      | seq t l => cases h
      | tab es => cases h
      | _ => cases e; exact .inl h
    · subst ed
      simp only [bldV] at e
      cases q : allS (l.map (bldV r k)) with
      | none => rw [q] at e; cases e
      | some zs =>
        rw [q] at e
        cases e
        refine .inr (.inl ⟨_, zs, rfl, by rw [allS_len q, List.length_map]; exact hl, fun y hy => ?_⟩)
        obtain ⟨x, hxl, ex⟩ := allS_mem q hy
        exact bld_ok (hx x hxl) ex
    · subst ed
      simp only [bldV] at e
      split at e
      · cases e
      · cases q : allS (es.map (pairB (bldV r k))) with
        | none => rw [q] at e; cases e
        | some zs =>
          rw [q] at e
          cases e
          obtain ⟨h1, h2, h3⟩ := outB_ok (r := r) (k := k) (zs := zs) (by rw [allS_len q, List.length_map]; exact hl) fun y hy => by
            obtain ⟨x, hxl, ex⟩ := allS_mem q hy
            obtain ⟨hk, hv⟩ := hx x hxl
            unfold pairB at ex
            cases q3 : bldV r k x.2 with
            | none => rw [q3] at ex; cases ex
            | some w =>
              rw [q3] at ex
              cases ex
              exact ⟨hk, bld_ok hv q3⟩
          exact .inr (.inr ⟨_, rfl, h1, h2, h3⟩)
theorem carry_ok {o : Opt} {r : ROpt} {k : Nat} {d z : Val} (h : Ok k d) (e : carry o r k d = some z) : Ok k z := by
  unfold carry at e
  cases q : rawV o k d with
  | none => rw [q] at e; cases e
  | some u =>
    rw [q] at e
    exact bld_ok (raw_ok h q) e
end
end Kt
set_option Elab.async false
set_option linter.all false
set_option maxRecDepth 100000
set_option maxHeartbeats 4000000
namespace Kt
open PySem PySem.Spec PyProof.Rows L2 Rz _root_.TL
section
variable {P : Program} {w : World} {K : PySem.W.Frag} {mg : Str → Option Value} {base : Heap}
def spBuilt (K : PySem.W.Frag) (k : Nat) : Sp := fun vs H Q E => ∃ (p : Addr) (v : V) (pth : Addr) (xs : List V) (r : ROpt) (d : Val) (G : Hp) (ps : List Addr), vs = [.ref p, v, .ref pth] ∧ DAt K H p r ∧ Same G H ∧ RwAt G k v d ∧ Rok k d ∧
  SqT K H pth xs ∧ xs.length + k ≤ 100 ∧ Has H ps ∧ (bldV r k d = none → RefD K H E) ∧ ∀ z, bldV r k d = some z → ∀ H' y, Same H H' → VAt (CT K) (cut H' ps) k y z → Q y H'
def okR (k : Nat) (es : List (Key × Val)) : Prop := es.length ≤ 4 ∧ ∀ e ∈ es, (∃ x, e.1 = .inr x ∧ okN x) ∧ Rok k e.2
def spBTab (K : PySem.W.Frag) (k : Nat) : Sp := fun vs H Q E => ∃ (p a : Addr) (pth : Addr) (xs : List V) (r : ROpt) (es : List (Key × Val)) (ts : List V) (G : Hp) (ps : List Addr), vs = [.ref p, .ref a, .ref pth] ∧ DAt K H p r ∧ Same G H ∧ G a = some (.lst ts) ∧ Paired (PairR G k) ts es ∧ okR k es ∧
  SqT K H pth xs ∧ xs.length + k + 1 ≤ 100 ∧ Has H ps ∧ (bldV r (k + 1) (.tab es) = none → RefD K H E) ∧ ∀ z, bldV r (k + 1) (.tab es) = some z → ∀ H' y, Same H H' → VAt (CT K) (cut H' ps) (k + 1) y z → Q y H'
theorem DAt.s {K : PySem.W.Frag} {H H' : Hp} {p : Addr} {r : ROpt} (h : DAt K H p r) (s : Same H H') : DAt K H' p r := let ⟨y, e⟩ := h; ⟨y, s _ _ e⟩
theorem sqT_s {K : PySem.W.Frag} {H H' : Hp} {a : Addr} {xs : List V} (s : Same H H') (h : SqT K H a xs) : SqT K H' a xs := sqT_x (LamX.ExtN.of s) h
theorem put_eq {R : V → Val → Prop} {r : ROpt} {y : V} {z : Val} {n : Key} {kvs : List (Key × V)} {l : List (Key × Val)} (hR : R y z) (h : Paired (fun a b => a.1 = b.1 ∧ R a.2 b.2) kvs l) (hl : n ∉ l.map (·.1) ∨ (r.sk == "last") = true) :
    Paired (fun a b => a.1 = b.1 ∧ R a.2 b.2) (putK kvs n y) (fput r l (n, z)) := by
  have hk := paired_keys (R := fun a b => a.1 = b.1 ∧ R a.2 b.2) (fun _ _ q => q.1) h
  unfold putK fput
  have ea : (kvs.any fun kv => decide (kv.1 = n)) = (l.any fun x => decide (x.1 = n)) := by
    have e1 : (kvs.any fun kv => decide (kv.1 = n)) = (kvs.map (·.1)).any fun k => decide (k = n) := by rw [List.any_map]; rfl
    have e2 : (l.any fun x => decide (x.1 = n)) = (l.map (·.1)).any fun k => decide (k = n) := by rw [List.any_map]; rfl
    rw [e1, e2, hk]
  rw [ea]
  dsimp only
  by_cases hm : (l.any fun x => decide (x.1 = n)) = true
  · rw [if_pos hm, if_pos hm, if_pos (hl.resolve_left fun q => q (anyK.mp hm))]
    exact put_paired hR h
  · rw [if_neg hm, if_neg hm]
    exact Paired.snoc h ⟨rfl, hR⟩
theorem fput_stay {r : ROpt} {l : List (Key × Val)} {n : Key} {z : Val} (hm : n ∈ l.map (·.1)) (hl : (r.sk == "last") = false) : fput r l (n, z) = l := by
  unfold fput
  rw [if_pos (anyK.mpr hm), if_neg (by rw [hl]; simp)]
/-- the loop of built_table -/
def InvB (K : PySem.W.Frag) (r : ROpt) (k : Nat) (p a pth d : Addr) (ps : List Addr) (es : List (Key × Val)) (H : Hp) (i : Nat) (σ : L2.St) (H' : Hp) : Prop :=
  (∃ u v y, σ = [some (.ref p), some (.ref a), some (.ref pth), some (.ref d), u, v, y]) ∧ Same H H' ∧ ∃ kvs zs, H' d = some (.dK kvs) ∧ (es.take i).map (pairB (bldV r k)) = zs.map some ∧ ((r.sk == "refuse") = true → ((es.take i).map (·.1)).Nodup) ∧
    Paired (fun x e => x.1 = e.1 ∧ VAt (CT K) (cut H' (d :: ps)) k x.2 e.2) kvs (fputs r zs)
theorem zs_keys {r : ROpt} {k : Nat} : ∀ {l zs : List (Key × Val)}, l.map (pairB (bldV r k)) = zs.map some → zs.map (·.1) = l.map (·.1)
  | [], [], _ => rfl
  | [], _ :: _, h => by cases h
  | _ :: _, [], h => by cases h
  | e :: l, z :: zs, h => by
    injection h with h1 h2
    have e1 : z.1 = e.1 := by
      unfold pairB at h1
      cases q : bldV r k e.2 with
      | none => rw [q] at h1; cases h1
      | some w => rw [q] at h1; cases h1; rfl
    rw [List.map_cons, List.map_cons, e1, zs_keys h2]
theorem ok_built_table (T : Tx w K mg) (k lev : Nat) (hlev : k + 5 ≤ lev) (G_Reader_built_at : Gd P w K base mg (L2N.CX P w) lev (He.fAd K d_Reader_built_at.at_) ["self", "raw", "path"] [] (spBuilt K k)) :
    Gd P w K base mg (L2N.CX P w) (lev + 1) (He.fAd K d_Reader_built_table.at_) ["self", "pairs", "path"] [] (spBTab K k) := by
  have G_Unreadable_init := ok_Unreadable_init (P := P) (w := w) (base := base) T
  have G_Reader_built_key := ok_Reader_built_key (P := P) (w := w) (base := base) T
  have G_Table_init := ok_Table_init (P := P) (w := w) (base := base) T k
  refine mkGdX (T.f_Reader_built_table) sc_Reader_built_table (fun vs H Q E h => ?_) (fun _ _ _ _ _ _ us hl => match us, hl with | [_, _, _], _ => rfl) (fun cdv A outer s H vs Q E hr h => ?_)
  · obtain ⟨p, a, pth, xs, r, es, ts, G, ps, rfl, _⟩ := h
    rfl
  · have hu := hu_of hr
    have tk : L2N.Takes _ (fun c d _ H => E c d H) := L2N.takes_of (X := cxOf (L2N.CX P w) P w K mg base N_Reader_built_table d_Reader_built_table.qual (defScope s_Reader_built_table) (He.fAd K d_Reader_built_table.at_) cdv A outer s H E) rfl rfl rfl rfl
    have px := L2N.passes_call (E := E) tk fun _ _ _ _ h => h
    obtain ⟨p, a, pth, xs, r, es, ts, G, ps, rfl, hW, hG, ha, hpt, ⟨h4, hok⟩, hP, hxs, hps, qE, q⟩ := h
    have ha := hG _ _ ha
    have hlen := Paired.length hpt
    have eb : bldV r (k + 1) (.tab es) = if dubB r es then none else (allS (es.map (pairB (bldV r k)))).map fun zs => .tab (outB r zs) := rfl
    refine ⟨_, (pss_cons (ps_set (i := 3) sc_Reader_built_table.nd rfl (Or.inl rfl) pe_dnewK)
      (pss_cons (ps_frz (ps_for (passes_of rfl) rfl (pi_list (pv 1)) (pg_tup rfl (pgs_cons (pg_name (i := 4) sc_Reader_built_table.nd rfl (Or.inl rfl)) (pgs_cons (pg_name (i := 5) sc_Reader_built_table.nd rfl (Or.inl rfl)) pgs_nil)))
      (pss_cons (ps_if (PW.pt (pw_and (pt_cmp (pc_din hu (pv 4) (pv 3))) (pw_and1 (pt_cmpR op_eq (pe_fld (pv 0) rfl) pe_str (nomark _))))) (pss_one (L2N.ps_raise rfl tk (pmk_G (T.exA (x := "Unreadable") (by simp [errN])) G_Unreadable_init T.g_Unreadable (hr.mono (by first | decide | omega)) pass0 (pa_cons pe_str (pa_cons (pe_op (r := rCatA K) op_catA (pv 2) (pe_tup (pa_cons (pv 4) pa_nil))) pa_nil))))) pss_nil)
      (pss_cons (ps_set (i := 6) sc_Reader_built_table.nd rfl (Or.inl rfl) (pe_methG (pv 0) T.cl_Reader T.m_Reader_built_at G_Reader_built_at (hr.mono (by first | decide | omega)) px (pa_cons (pv 5) (pa_cons (pe_op (r := rCatA K) op_catA (pv 2) (pe_tup (pa_cons (pv 4) pa_nil))) pa_nil))))
      (pss_one (ps_if (PW.pt (pw_or (pt_cmp (pc_dnotin hu (pv 4) (pv 3))) (pw_or1 (pt_cmpR op_eq (pe_fld (pv 0) rfl) pe_str (nomark _))))) (pss_one (ps_dput hu (pv 3) (pv 4) (pv 6) rfl)) pss_nil))))))
      (pss_one (ps_ret (pe_makeG T.mk_Table G_Table_init (hr.mono (by first | decide | omega)) T.g_Table pass0 (pa_cons (Rn.pe_lcx (own := [("name", 4), ("item", 6)]) (g := gTup K 2 (gCons (gName 4) (gCons (gName 6) gNil))) rfl rfl tk rfl sc_Reader_built_table.nd (pi_items (pv 3)) (blkOk_by (own := [("name", 4), ("item", 6)]) (N := N_Reader_built_table) (sc := defScope s_Reader_built_table) (by decide +kernel)) (fun _ _ _ _ _ _ => (pg_tup rfl (pgs_cons (pg_name (i := 4) sc_Reader_built_table.nd rfl (Or.inl rfl)) (pgs_cons (pg_name (i := 6) sc_Reader_built_table.nd rfl (Or.inl rfl)) pgs_nil)))) (fun _ _ _ _ _ _ => pts_one (PW.pt (pw_or (pt_cmpR op_notN (pv 6) pe_non (nomark _)) (pw_or1 (pt_cmpR op_eq (show PE _ _ (tFld K (tVar 0) "null_items") from (pe_fld (pv 0) rfl)) pe_str (nomark _)))))) (fun _ _ _ _ _ _ px => (pe_tup (pa_cons (pe_methG (pv 0) T.cl_Reader T.m_Reader_built_key G_Reader_built_key (hr.mono (by first | decide | omega)) pass0 (pa_cons (pv 4) pa_nil)) (pa_cons (pv 6) pa_nil))))) pa_nil)))))), ?_⟩
    refine fun d hd => ?_
    have s0 : Same H (upd H d (.dK [])) := Same.nu hd
    refine ⟨_, rfl, a, rfl, ⟨_, SqL.of (s0 _ _ ha)⟩, for_list (xs := ts) (InvB K r k p a pth d ps es H) ?_ ?_ ?_ ?_⟩
    · exact ⟨⟨_, _, _, rfl⟩, s0, [], [], upd_same, by rw [List.take_zero]; rfl, fun _ => by rw [List.take_zero]; exact .nil, .nil⟩
    · rintro i σ H' _ ⟨_, s1, _⟩
      exact SqL.of (s1 _ _ ha)
    · rintro i t σ H' ht ⟨⟨u, v, y0, rfl⟩, s1, kvs, zs, hkv, hmap, hnd, hpr⟩
      obtain ⟨e, he, b, n, x, rfl, hb, en, hx⟩ := Paired.at hpt ht
      obtain ⟨⟨n', en', hn⟩, hR⟩ := hok e (List.mem_of_getElem? he)
      rw [en] at en'
      cases en'
      have hi4 : i < 4 := by have := lt_of_at he; omega
      have hb' := s1 _ _ (hG _ _ hb)
      have hkeys := paired_keys (fun _ _ z => z.1) hpr
      have ek : (fputs r zs).map (·.1) = kvs.map (·.1) := hkeys.symm
      have hmem : ∀ key, (valV kvs key).isSome = true ↔ key ∈ (es.take i).map (·.1) := fun key => by
        rw [← zs_keys hmap, ← (fputs_props (r := r) zs).2.1 key, ek]
        constructor
        · intro h
          cases q : valV kvs key with
          | none => rw [q] at h; cases h
          | some v => exact valV_in q
        · intro h
          cases q : valV kvs key with
          | none => exact absurd h (valV_not q)
          | some v => rfl
      have hklen : kvs.length ≤ i := by
        have h1 := (fputs_props (r := r) zs).2.2.1
        have h2 := congrArg List.length hmap
        rw [List.length_map, List.length_map, List.length_take] at h2
        have h3 := congrArg List.length ek
        rw [List.length_map, List.length_map] at h3
        omega
      have hPi := sqT_s s1 hP
      refine ⟨b, _, rfl, SqT.of hb', rfl, _, _, rfl, _, _, rfl, rfl, ?_⟩
      obtain ⟨yW, hW0⟩ := hW
      have hWi := s1 _ _ hW0
      have hno : (bldV r k e.2 = none) → bldV r (k + 1) (.tab es) = none := fun z => by
        rw [eb]
        split
        · rfl
        · rw [allS_none.mpr (List.mem_map.mpr ⟨e, List.mem_of_getElem? he, by unfold pairB; rw [z]; rfl⟩)]; rfl
      have call : ∀ (pp : Addr) (xs' : List V) (Hq : Hp) (Q' : VK), Same H' Hq → SqT K Hq pp xs' → xs'.length ≤ xs.length + 1 → (∀ z, bldV r k e.2 = some z → ∀ H4 y, Same H' H4 → VAt (CT K) (cut H4 (d :: ps)) k y z → Q' y H4) → spBuilt K k [.ref p, x, .ref pp] Hq Q' E := fun pp xs' Hq Q' sq hq hl q' =>
        ⟨p, x, pp, xs', r, e.2, G, d :: ps, rfl, ⟨yW, sq _ _ hWi⟩, (hG.trans s1).trans sq, hx, hR, hq, by omega, fun c hc => by
          rcases List.mem_cons.mp hc with z | hc
          · rw [z, sq _ _ hkv]; simp
          · exact hps.sx (s1.trans sq) c hc, fun z d4 H4 s4 hx4 => qE (hno z) d4 H4 ((s1.trans sq).trans s4) hx4, fun z ez H4 y s4 hv => q' z ez H4 y (sq.trans s4) hv⟩
      have nu := fun {q2 : Addr} (hq2 : H' q2 = none) => Same.nu (o := .tup [.str n]) hq2
      -- the rest of a turn
      have rest : ∀ R1 R2 R3, ((r.sk == "refuse") = true → Sum.inr n ∉ (es.take i).map (·.1)) → ∀ z, bldV r k e.2 = some z → ∀ (H4 : Hp) (y : V), Same H' H4 → VAt (CT K) (cut H4 (d :: ps)) k y z →
          tIfS (tOr (tB (tDNotIn (tVar 4) (tVar 3))) (tTest (tOp rEq (tFld K (tVar 0) "same_keys") (tC (V.str "last"))))) (sDPut (tVar 3) (tVar 4) (tVar 6)) tNext { nx := InvB K r k p a pth d ps es H (i + 1), rt := R1, bk := R2, ct := R3 }
            [some (.ref p), some (.ref a), some (.ref pth), some (.ref d), some (.str n), some x, some y] H4 := fun R1 R2 R3 hnew z ez H4 y s4 hv => by
        have hkv4 := s4 _ _ hkv
        have hpr4 : Paired (fun x e => x.1 = e.1 ∧ VAt (CT K) (cut H4 (d :: ps)) k x.2 e.2) kvs (fputs r zs) := Paired.mapP hpr fun _ _ w => ⟨w.1, VAt.same (cut_sx (Sx.of s4)) w.2⟩
        have emap : (es.take (i + 1)).map (pairB (bldV r k)) = (zs ++ [(Sum.inr n, z)]).map some := by
          rw [take_snoc he, List.map_append, hmap, List.map_append]
          simp only [List.map_cons, List.map_nil]
          unfold pairB
          rw [ez, en]
          rfl
        have end2 : (r.sk == "refuse") = true → ((es.take (i + 1)).map (·.1)).Nodup := fun hrf => by
          rw [take_snoc he, List.map_append]
          refine List.nodup_append.mpr ⟨hnd hrf, by simp, fun a1 h1 b1 h2 z => hnew hrf ?_⟩
          simp only [List.map_cons, List.map_nil, List.mem_singleton] at h2
          rw [← en, ← h2, ← z]
          exact h1
        have put : Sum.inr n ∉ (fputs r zs).map (·.1) ∨ (r.sk == "last") = true → sDPut (tVar 3) (tVar 4) (tVar 6) { nx := InvB K r k p a pth d ps es H (i + 1), rt := R1, bk := R2, ct := R3 } [some (.ref p), some (.ref a), some (.ref pth), some (.ref d), some (.str n), some x, some y] H4 := fun hl =>
          ⟨_, rfl, _, rfl, _, rfl, d, _, rfl, DPut.k (k := Sum.inr n) hkv4 (small1000 (by omega)), ⟨_, _, _, rfl⟩, Same.mk'' (s1.trans s4) hd, _, _, upd_same, emap, end2, by rw [fputs_snoc, cut_cons]; exact put_eq hv hpr4 hl⟩
        refine ⟨_, rfl, _, rfl, d, _, rfl, DGet.k (k := Sum.inr n) hkv4, _, rfl, ?_⟩
        cases hs : (valV kvs (Sum.inr n)).isSome with
        | false =>
          have hm : Sum.inr n ∉ (fputs r zs).map (·.1) := fun z => by
            have := (hmem (.inr n)).mpr (by rw [← zs_keys hmap]; exact ((fputs_props (r := r) zs).2.1 _).mp z)
            rw [hs] at this
            cases this
          exact iteT (put (.inl hm))
        | true =>
          refine iteF ⟨_, rfl, p, _, _, _, _, rfl, s4 _ _ hWi, T.cl_Reader, T.a_Reader_same_keys, rfl, rfl, _, rfl, ?_⟩
          rw [strEq]
          cases hl : (r.sk == "last") with
          | true => exact iteT (put (.inr hl))
          | false =>
            have hm : Sum.inr n ∈ (fputs r zs).map (·.1) := ((fputs_props (r := r) zs).2.1 _).mpr (by rw [zs_keys hmap]; exact (hmem _).mp hs)
            exact iteF ⟨⟨_, _, _, rfl⟩, s1.trans s4, kvs, _, hkv4, emap, end2, by rw [fputs_snoc, fput_stay hm hl]; exact hpr4⟩
      have refused : ∀ {Hh : Hp} {pp : V}, bldV r (k + 1) (.tab es) = none → Same H' Hh → _ := fun {Hh pp} hb sh => rais_D T (H := Hh) (r := .str "double") (pth := pp) (E := E) fun d' H'' s3 hx => qE hb d' H'' ((s1.trans sh).trans s3) hx
      refine ⟨_, rfl, _, rfl, d, _, rfl, DGet.k (k := Sum.inr n) hkv, _, rfl, ?_⟩
      have next : ((r.sk == "refuse") = true → Sum.inr n ∉ (es.take i).map (·.1)) → ∀ D : Ends, D.nx = InvB K r k p a pth d ps es H (i + 1) → tSeq (tAsg (tMeth (He.ga K "Passage") "built_at" (spBuilt K k) [] E (tVar 0) (tCons (tVar 5) (tCons (tOp (rCatA K) (tVar 2) (tTup (tCons (tVar 4) tNil))) tNil))) (gName 6))
          (tIfS (tOr (tB (tDNotIn (tVar 4) (tVar 3))) (tTest (tOp rEq (tFld K (tVar 0) "same_keys") (tC (V.str "last"))))) (sDPut (tVar 3) (tVar 4) (tVar 6)) tNext) D
            [some (.ref p), some (.ref a), some (.ref pth), some (.ref d), some (.str n), some x, y0] H' := fun hnew D eD => by
        obtain ⟨nx, R1, R2, R3⟩ := D
        have eD : nx = _ := eD
        subst eD
        have fin := rest R1 R2 R3 hnew
        refine ⟨_, rfl, p, _, _, rfl, hWi, rfl, _, rfl, _, rfl, _, rfl, (by show 1 ≤ sizeLine; decide), fun q2 hq2 => ?_⟩
        exact ⟨pth, q2, xs, [.str n], rfl, rfl, sqT_s (nu hq2) hPi, SqT.of upd_same, (show xs.length + 1 ≤ sizeLine from Nat.le_of_lt (small1000 (n := xs.length + 1) (by omega))),
          fun _ => call q2 [.str n] _ _ (nu hq2) (SqT.of upd_same) (by simp) fin,
          fun _ z => (nomatch z),
          fun _ _ q3 hq3 => call q3 (xs ++ [.str n]) _ _ ((nu hq2).trans (Same.nu hq3)) (SqT.of upd_same) (by simp) fin⟩
      cases hz : ((valV kvs (Sum.inr n)).isSome && (r.sk == "refuse")) with
      | true =>
        obtain ⟨z1, z2⟩ := Bool.and_eq_true_iff.mp hz
        have hb : bldV r (k + 1) (.tab es) = none := by
          rw [eb, if_pos]
          unfold dubB
          rw [z2, Bool.true_and, Bool.not_eq_true', decide_eq_false_iff_not]
          exact fun z => nd_at z he (by rw [en]; exact (hmem _).mp z1)
        refine ite2 (fun _ => ⟨_, rfl, p, _, _, _, _, rfl, hWi, T.cl_Reader, T.a_Reader_same_keys, rfl, rfl, _, rfl, ?_⟩) (fun z => absurd z1 z)
        rw [strEq, z2]
        refine iteT ⟨_, rfl, _, rfl, (by show 1 ≤ sizeLine; decide), fun q2 hq2 => ?_⟩
        exact ⟨pth, q2, xs, [.str n], rfl, rfl, sqT_s (nu hq2) hPi, SqT.of upd_same, (show xs.length + 1 ≤ sizeLine from Nat.le_of_lt (small1000 (n := xs.length + 1) (by omega))), fun _ => refused hb (nu hq2),
          fun _ z => (nomatch z), fun _ _ q3 hq3 => refused hb ((nu hq2).trans (Same.nu hq3))⟩
      | false =>
        have hnew : (r.sk == "refuse") = true → Sum.inr n ∉ (es.take i).map (·.1) := fun z m => by
          rw [z, Bool.and_true, (hmem _).mpr m] at hz
          cases hz
        refine ite2 (fun z1 => ⟨_, rfl, p, _, _, _, _, rfl, hWi, T.cl_Reader, T.a_Reader_same_keys, rfl, rfl, _, rfl, ?_⟩) (fun _ => iteF (next hnew _ rfl))
        rw [strEq]
        have z1 : (valV kvs (Sum.inr n)).isSome = true := z1
        have z2 : (r.sk == "refuse") = false := by
          rw [z1, Bool.true_and] at hz
          exact hz
        rw [z2]
        exact iteF (next hnew _ rfl)
    · rintro σ H0 ⟨⟨u, v, y0, rfl⟩, s1, kvs, zs, hkv, hmap, hnd, hpr⟩
      rw [List.take_of_length_le (by omega)] at hmap hnd
      have hdub : dubB r es = false := by
        unfold dubB
        cases hrf : (r.sk == "refuse") with
        | false => rfl
        | true => rw [decide_eq_true (hnd hrf)]; rfl
      have q := q (.tab (outB r zs)) (by rw [eb, hdub, if_neg (by simp), allS_some.mpr hmap]; rfl)
      refine ⟨d, .dK kvs, hkv, True.intro, fun od => ?_⟩
      have hf : (upd H0 d (.frz od (.dK kvs))) d = some (.frz od (.dK kvs)) := upd_same
      have sf : Same H (upd H0 d (.frz od (.dK kvs))) := Same.mk'' s1 hd
      have hprF : Paired (fun x e => x.1 = e.1 ∧ VAt (CT K) (cut (upd H0 d (.frz od (.dK kvs))) (d :: ps)) k x.2 e.2) kvs (fputs r zs) := by rw [cut_cons]; exact hpr
      generalize upd H0 d (.frz od (.dK kvs)) = H1 at hf sf hprF ⊢
      have hzs : ∀ e ∈ zs, (∃ x, e.1 = .inr x ∧ okN x) ∧ Ok k e.2 := fun y hy => by
        obtain ⟨x, hxl, ex⟩ := allS_mem (allS_some.mpr hmap) hy
        obtain ⟨hk, hv⟩ := hok x hxl
        unfold pairB at ex
        cases q3 : bldV r k x.2 with
        | none => rw [q3] at ex; cases ex
        | some w =>
          rw [q3] at ex
          cases ex
          exact ⟨hk, bld_ok hv q3⟩
      have hz4 : zs.length ≤ 4 := by
        have := congrArg List.length hmap
        rw [List.length_map, List.length_map] at this
        omega
      have okes := outB_ok (r := r) (k := k) hz4 hzs
      have hlk := Paired.length hprF
      obtain ⟨yW, hW0⟩ := hW
      have hpsD : ∀ {D : Addr}, H1 D = none → Has H1 ps := fun _ => hps.sx sf
      refine ⟨_, rfl, d, od, kvs, rfl, hf, fun D hD => lc_it walk_items
        (fun i H' => Same H1 H' ∧ ∃ ts, H' D = some (.lst ts) ∧ ts.length ≤ i ∧ Paired (EntAt K H' (D :: ps) k) ts ((((fputs r zs).take i).filter (heldB r)).map fun e => (bk r e.1, e.2))) ?_ ?_ ?_ ?_⟩
      · exact ⟨Same.nu hD, [], upd_same, Nat.le_refl _, by rw [List.take_zero]; exact .nil⟩
      · rintro i H' _ ⟨s2, _⟩
        exact s2 _ _ hf
      · rintro i x H2 H3 hi ⟨s2, ts', hts, htl, hpt'⟩ ⟨t, x1, x2, rfl, ht, rfl, e1, e2⟩
        dsimp only at e1 e2
        cases ekv : kvs[i]? with
        | none => rw [ekv] at e1; cases e1
        | some kv =>
        rw [ekv] at e1 e2
        cases e1
        cases e2
        obtain ⟨e, he, hk, hy⟩ := Paired.at hprF ekv
        have em : e ∈ fputs r zs := List.mem_of_getElem? he
        have hi4 : i < 4 := by
          have := lt_of_at he
          have := (fputs_props (r := r) zs).2.2.1
          omega
        obtain ⟨ky, kx⟩ := kv
        dsimp only at hk hy
        subst hk
        obtain ⟨x, hx, hn⟩ : ∃ x, e.1 = .inr x ∧ okN x := by
          obtain ⟨e', h1, h2⟩ := List.mem_map.mp (((fputs_props (r := r) zs).2.1 e.1).mp (List.mem_map.mpr ⟨e, em, rfl⟩))
          obtain ⟨x, h3, h4⟩ := (hzs e' h1).1
          exact ⟨x, by rw [← h2, h3], h4⟩
        have nuT := Same.nu (o := .tup [kV e.1, kx]) ht
        have sT := s2.trans nuT
        have etk : (((fputs r zs).take (i + 1)).filter (heldB r)).map (fun e => (bk r e.1, e.2)) = (((fputs r zs).take i).filter (heldB r)).map (fun e => (bk r e.1, e.2)) ++ (if heldB r e = true then [(bk r e.1, e.2)] else []) := by
          rw [take_snoc he, List.filter_append, List.map_append]
          congr 1
          cases hb : heldB r e <;> simp [hb]
        have hpt2 : Paired (EntAt K (upd H2 t (.tup [kV e.1, kx])) (D :: ps) k) ts' ((((fputs r zs).take i).filter (heldB r)).map fun e => (bk r e.1, e.2)) := Paired.mapP hpt' fun _ _ h => ent_same nuT (cut_put ht) h
        have hW2 := sT _ _ (sf _ _ hW0)
        have hD2 := nuT _ _ hts
        have hy2 : VAt (CT K) (cut (upd H2 t (.tup [kV e.1, kx])) (D :: ps)) k kx e.2 := VAt.same (fun b o hb => cut_add hD sT b o (cut_mono (fun c hc => List.mem_cons_of_mem _ hc) b o hb)) hy
        have hnn := at_non hy
        generalize hH4 : upd H2 t (.tup [kV e.1, kx]) = H4 at nuT sT hpt2 hW2 hD2 hy2
        have ht4 : H4 t = some (.tup [kV e.1, kx]) := by rw [← hH4]; exact upd_same
        refine ⟨t, _, rfl, SqT.of ht4, rfl, _, _, rfl, _, _, rfl, rfl, rfl, ?_⟩
        have yes : heldB r e = true → tTup (tCons (tMeth (He.ga K "Passage") "built_key" (spBK K) [] E0 (tVar 0) (tCons (tVar 4) tNil)) (tCons (tVar 6) tNil)) [some (.ref p), some (.ref a), some (.ref pth), some (.ref d), some (kV e.1), none, some kx] H4 fun y H4 =>
            ∃ acc, H4 D = some (.lst acc) ∧ acc.length < sizeLine ∧ Same H1 (upd H4 D (.lst (acc ++ [y]))) ∧ ∃ ts, upd H4 D (.lst (acc ++ [y])) D = some (.lst ts) ∧ ts.length ≤ i + 1 ∧
              Paired (EntAt K (upd H4 D (.lst (acc ++ [y]))) (D :: ps) k) ts ((((fputs r zs).take (i + 1)).filter (heldB r)).map fun e => (bk r e.1, e.2)) := fun hb => by
          refine ⟨_, rfl, p, _, _, rfl, hW2, rfl, _, rfl, p, x, r, by rw [hx]; rfl, ⟨yW, hW2⟩, hn, _, rfl, (by show 2 ≤ sizeLine; decide), fun q2 hq2 => ?_⟩
          have nq := Same.nu (o := .tup [kV (bk r (Sum.inr x)), kx]) hq2
          have nD : D ≠ q2 := ne_of_none hD2 hq2
          refine ⟨ts', nq _ _ hD2, small1000 (by omega), Same.mk'' (sT.trans nq) hD, _, upd_same, by rw [List.length_append, List.length_singleton]; omega, ?_⟩
          rw [etk, if_pos hb]
          have cc : Same (cut H4 (D :: ps)) (cut (upd (upd H4 q2 (.tup [kV (bk r (Sum.inr x)), kx])) D (.lst (ts' ++ [.ref q2]))) (D :: ps)) := by
            rw [cut_cons]
            exact cut_put hq2
          refine Paired.snoc (Paired.mapP hpt2 fun t e h => ?_) ⟨q2, kx, rfl, ?_, VAt.same cc hy2⟩
          · obtain ⟨b, y, e1, h1, h2⟩ := h
            exact ⟨b, y, e1, by rw [upd_ne (ne_of h1 hD2 (by intro z; cases z))]; exact nq _ _ h1, VAt.same cc h2⟩
          · rw [upd_ne nD.symm, upd_same, hx]
        refine ⟨_, rfl, rfl, _, rfl, ?_⟩
        rw [hnn]
        cases hN : isN e.2 with
        | false =>
          have hb : heldB r e = true := by unfold heldB; rw [hN]; rfl
          exact iteT (iteT (yes hb))
        | true =>
          refine iteF ⟨_, rfl, p, _, _, _, _, rfl, hW2, T.cl_Reader, T.a_Reader_null_items, rfl, rfl, _, rfl, ?_⟩
          rw [strEq]
          cases hk : (r.ni == "keep") with
          | true =>
            have hb : heldB r e = true := by unfold heldB; rw [hk, Bool.or_true]
            exact iteT (yes hb)
          | false =>
            have hb : heldB r e = false := by unfold heldB; rw [hN, hk]; rfl
            exact iteF ⟨sT, ts', hD2, by omega, by rw [etk, hb]; simpa using hpt2⟩
      · rintro H' ⟨s2, ts', hts, htl, hpt'⟩
        rw [List.take_of_length_le (by omega)] at hpt'
        have hE : Paired (EntAt K H' (D :: ps) k) ts' (outB r zs) := hpt'
        refine fun x dx hx hd2 hn' => ?_
        have s3 : Same H' (upd (upd H' dx (.own x)) x (.ins (CT K) dx [])) := Same.mk'' (Same.nu hd2) hx
        have hps' : Has H' ps := (hps.sx sf).sx s2
        have hnx : x ∉ ps := hps'.new hx
        refine ⟨x, D, dx, ts', outB r zs, ps, rfl, upd_same, SqL.of (s3 _ _ hts), hps'.sx s3, hnx, Paired.mapP hE fun _ _ h => ?_, okes, fun H5 kp hv => ⟨rfl, ?_⟩⟩
        · obtain ⟨b, y, e1, h1, h2⟩ := h
          refine ⟨b, y, e1, s3 _ _ h1, VAt.same (fun c o e => ?_) h2⟩
          have e2 := cut_le _ _ e
          unfold cut at e
          split at e
          · cases e
          · rename_i nc
            refine cut_at (fun z => ?_) (s3 _ _ e2)
            rcases List.mem_cons.mp z with z | z
            · rw [z, hx] at e2; cases e2
            · exact nc (List.mem_cons_of_mem _ z)
        · have s4 : Same H' H5 := fun b o e => kp b o (ne_of_none e hx) (s3 _ _ e)
          exact q H5 _ ((sf.trans s2).trans s4) hv
end
end Kt
set_option Elab.async false
set_option linter.all false
set_option maxRecDepth 100000
set_option maxHeartbeats 4000000
namespace Kt
open PySem PySem.Spec PyProof.Rows L2 Rz _root_.TL
section
variable {P : Program} {w : World} {K : PySem.W.Frag} {mg : Str → Option Value} {base : Heap}
theorem rw_cases {H : Hp} {k : Nat} {v : V} {d : Val} (h : RwAt H k v d) : flat d = some v ∨ ∃ j, k = j + 1 ∧ ((∃ l t a xs, d = .seq true l ∧ v = .ref t ∧ H t = some (.tup [.str "row", .ref a]) ∧ H a = some (.lst xs) ∧ Paired (RwAt H j) xs l) ∨
    ∃ es t a xs, d = .tab es ∧ v = .ref t ∧ H t = some (.tup [.str "table", .ref a]) ∧ H a = some (.lst xs) ∧ Paired (PairR H j) xs es) := by
  cases k with
  | zero => exact .inl h
  | succ k =>
    rcases h with h | h | h
    · exact .inl h
    · exact .inr ⟨k, rfl, .inl h⟩
    · exact .inr ⟨k, rfl, .inr h⟩
theorem bld_leaf {r : ROpt} {k : Nat} {d : Val} (n1 : ∀ t l, d ≠ .seq t l) (n2 : ∀ es, d ≠ .tab es) : bldV r k d = some d := by
  cases k with
  | zero => rfl
  | succ k =>
    cases d with
    | seq t l => exact absurd rfl (n1 _ _)
    | tab es => exact absurd rfl (n2 _)
    | _ => rfl
theorem rok_row {k : Nat} {l : List Val} (h : Rok (k + 1) (.seq true l)) : l.length ≤ 4 ∧ ∀ x ∈ l, Rok k x := by
  rcases h with h | ⟨l', e, h1, h2⟩ | ⟨es, e, _⟩
  · cases h
  · cases e; exact ⟨h1, h2⟩
  · cases e
theorem rok_tab {k : Nat} {es : List (Key × Val)} (h : Rok (k + 1) (.tab es)) : okR k es := by
  rcases h with h | ⟨l', e, h1, h2⟩ | ⟨es, e, h1, h2⟩
  · cases h
  · cases e
  · cases e; exact ⟨h1, h2⟩
theorem st_built_at (T : Tx w K mg) (k : Nat) (G_Reader_built_at : Gd P w K base mg (L2N.CX P w) (2 * k + 4) (He.fAd K d_Reader_built_at.at_) ["self", "raw", "path"] [] (prv (spBuilt K) k)) :
    Gd P w K base mg (L2N.CX P w) (2 * (k + 1) + 4) (He.fAd K d_Reader_built_at.at_) ["self", "raw", "path"] [] (spBuilt K k) := by
  have G_Reader_built_table : Gd P w K base mg (L2N.CX P w) (2 * k + 5) (He.fAd K d_Reader_built_table.at_) ["self", "pairs", "path"] [] (prv (spBTab K) k) := by
    cases k with
    | zero => exact mkGdXF (T.f_Reader_built_table) sc_Reader_built_table (fun _ _ _ _ _ _ us hl => match us, hl with | [_, _, _], _ => rfl) _
    | succ k => exact ok_built_table T k _ (by omega) G_Reader_built_at
  refine mkGdX (T.f_Reader_built_at) sc_Reader_built_at (fun vs H Q E h => ?_) (fun _ _ _ _ _ _ us hl => match us, hl with | [_, _, _], _ => rfl) (fun cdv A outer s H vs Q E hr h => ?_)
  · obtain ⟨p, v, pth, xs, r, d, G, ps, rfl, _⟩ := h
    rfl
  · have hu := hu_of hr
    have tk : L2N.Takes _ (fun c d _ H => E c d H) := L2N.takes_of (X := cxOf (L2N.CX P w) P w K mg base N_Reader_built_at d_Reader_built_at.qual (defScope s_Reader_built_at) (He.fAd K d_Reader_built_at.at_) cdv A outer s H E) rfl rfl rfl rfl
    have px := L2N.passes_call (E := E) tk fun _ _ _ _ h => h
    obtain ⟨p, v, pth, xs, r, d, G, ps, rfl, hW, hG, hv, ok, hP, hxs, hps, qE, q⟩ := h
    obtain ⟨yW, hW⟩ := hW
    refine ⟨_, (pss_cons (ps_if (pt_not (pt_val (pe_callB call_isi (by rfl) T.n_isinstance (by decide +kernel) (pa_cons (pv 1) (pa_cons (pe_bltn (v := .ty "tuple") (u := .type "tuple") (by rfl) T.n_tuple (by decide +kernel) rfl) pa_nil))))) (pss_one (ps_ret (pv 1))) pss_nil)
      (pss_cons (ps_asg (pv 1) (pg_tup rfl (pgs_cons (pg_name (i := 3) sc_Reader_built_at.nd rfl (Or.inl rfl)) (pgs_cons (pg_name (i := 4) sc_Reader_built_at.nd rfl (Or.inl rfl)) pgs_nil))))
      (pss_cons (ps_if (pt_cmpR op_eq (pv 3) pe_str (nomark _)) (pss_one (ps_ret (pe_methG (pv 0) T.cl_Reader T.m_Reader_built_table G_Reader_built_table (hr.mono (by first | decide | omega)) px (pa_cons (pv 4) (pa_cons (pv 2) pa_nil))))) pss_nil)
      (pss_cons (Rn.ps_setLcx (i := 7) (own := [("index", 5), ("item", 6)]) (g := gTup K 2 (gCons (gName 5) (gCons (gName 6) gNil))) (tt := tYes) rfl rfl tk rfl sc_Reader_built_at.nd rfl rfl (sw_true rfl rfl rfl (by decide +kernel)) (pi_enumB (by rfl) T.n_enumerate (pa_cons (pv 4) pa_nil)) (blkOk_by (own := [("index", 5), ("item", 6)]) (N := N_Reader_built_at) (sc := defScope s_Reader_built_at) (by decide +kernel)) (fun _ _ _ _ _ _ => (pg_tup rfl (pgs_cons (pg_name (i := 5) sc_Reader_built_at.nd rfl (Or.inl rfl)) (pgs_cons (pg_name (i := 6) sc_Reader_built_at.nd rfl (Or.inl rfl)) pgs_nil)))) (fun _ _ _ _ _ _ => pts_nil) (fun _ _ _ _ _ _ px => (pe_methG (pv 0) T.cl_Reader T.m_Reader_built_at G_Reader_built_at (hr.mono (by first | decide | omega)) px (pa_cons (pv 6) (pa_cons (pe_op (r := rCatA K) op_catA (pv 2) (pe_tup (pa_cons (pv 5) pa_nil))) pa_nil)))))
      (pss_cons (ps_if (pt_cmpR op_eq (pe_fld (pv 0) rfl) pe_str (nomark _)) (pss_one (ps_ret (pe_callTy call_tuple_of (by rfl) T.n_tuple (by decide +kernel) (pa_cons (pv 7) pa_nil)))) pss_nil)
      (pss_one (ps_ret (pv 7)))))))), ?_⟩
    rcases rw_cases hv with hf | ⟨j, rfl, ⟨l, t, a, ys0, rfl, rfl, ht, ha, hx⟩ | ⟨es, t, a, ts, rfl, rfl, ht, ha, hx⟩⟩
    · obtain ⟨t2, y2, k2⟩ := isi T "tuple" (G := H) (k := 0) (x := v) (d := d) (Same.refl H) hf
      have ek : isT "tuple" d = false := by cases d <;> first | rfl | cases hf
      rw [ek] at k2
      have el : bldV r k d = some d := bld_leaf (fun t l z => by subst z; cases hf) (fun es z => by subst z; cases hf)
      exact ⟨_, rfl, v, _, t2, _, _, rfl, .ty _, y2, k2, _, rfl, iteT ⟨_, rfl, q d el H v (Same.refl H) (VAt.flat hf)⟩⟩
    · have ht' := hG _ _ ht
      have ha' := hG _ _ ha
      obtain ⟨h4, hok⟩ := rok_row ok
      have hln := Paired.length hx
      have eb : bldV r (j + 1) (.seq true l) = (allS (l.map (bldV r j))).map fun zs => Val.seq (!(r.ls == "tuple")) zs := rfl
      refine ⟨_, rfl, .ref t, _, .type "tuple", _, _, rfl, .ty _, .base (.tup ht'), kits (by decide) (by decide), _, rfl, iteF ?_⟩
      refine ⟨_, rfl, t, _, rfl, SqT.of ht', rfl, _, _, rfl, _, _, rfl, rfl, ?_⟩
      refine ⟨_, rfl, rfl, _, rfl, ite2 (fun z => absurd z (by decide +kernel)) (fun _ => ?_)⟩
      have hS1 : SqB K true H a ys0 := sqB_of ha'
      refine ⟨_, rfl, true, a, ys0, rfl, hS1, fun D hD => lc_enumB (fun i H' => Same H H' ∧ ∃ ys zs, H' D = some (.lst ys) ∧ Paired (VAt (CT K) (cut H' (D :: ps)) j) ys zs ∧ (l.take i).map (bldV r j) = zs.map some)
        ⟨Same.nu hD, [], [], upd_same, .nil, by rw [List.take_zero]; rfl⟩ (fun i H' _ ⟨s1, _⟩ => sqB_same s1 hS1) ?_ ?_⟩
      · rintro i y U H' hy ⟨s1, ys, zs, hd, hpr, hmap⟩ hU
        obtain ⟨e, he, hye⟩ := Paired.at hx hy
        have hi4 : i < 4 := by have := lt_of_at he; omega
        have l1 := Paired.length hpr
        have l2 := congrArg List.length hmap
        rw [List.length_map, List.length_map, List.length_take] at l2
        have nuU := Same.nu (o := .tup [.int (i : Nat), y]) hU
        have sU := s1.trans nuU
        have fin : ∀ z, bldV r j e = some z → ∀ H4 v, Same (upd H' U (.tup [.int (i : Nat), y])) H4 → VAt (CT K) (cut H4 (D :: ps)) j v z → ∃ acc, H4 D = some (.lst acc) ∧ acc.length < sizeLine ∧ (Same H (upd H4 D (.lst (acc ++ [v]))) ∧ ∃ ys zs, (upd H4 D (.lst (acc ++ [v]))) D = some (.lst ys) ∧ Paired (VAt (CT K) (cut (upd H4 D (.lst (acc ++ [v]))) (D :: ps)) j) ys zs ∧ (l.take (i + 1)).map (bldV r j) = zs.map some) := by
          intro z ez H4 v s4 hv4
          refine ⟨ys, s4 _ _ (nuU _ _ hd), small1000 (by omega), Same.mk'' (sU.trans s4) hD, ys ++ [v], zs ++ [z], upd_same, ?_, ?_⟩
          · rw [cut_cons]
            exact Paired.snoc (Paired.mapP hpr fun _ _ q => VAt.same (cut_sx (Sx.of (nuU.trans s4))) q) hv4
          · rw [take_snoc he, List.map_append, hmap, List.map_append]
            simp only [List.map_cons, List.map_nil]
            rw [ez]
        have call : ∀ (pp : Addr) (xs' : List V) (Hq : Hp) (Q' : VK), Same (upd H' U (.tup [.int (i : Nat), y])) Hq → SqT K Hq pp xs' → xs'.length ≤ xs.length + 1 → (∀ z, bldV r j e = some z → ∀ H4 v, Same (upd H' U (.tup [.int (i : Nat), y])) H4 → VAt (CT K) (cut H4 (D :: ps)) j v z → Q' v H4) → spBuilt K j [.ref p, y, .ref pp] Hq Q' E := fun pp xs' Hq Q' sq hq hl q' =>
          ⟨p, y, pp, xs', r, e, G, D :: ps, rfl, ⟨yW, sq _ _ (sU _ _ hW)⟩, (hG.trans sU).trans sq, hye, hok e (List.mem_of_getElem? he), hq, by omega, fun c hc => by
            rcases List.mem_cons.mp hc with z | hc
            · rw [z, sq _ _ (nuU _ _ hd)]; simp
            · exact hps.sx (sU.trans sq) c hc, fun hn d4 H4 s4 hx4 => qE (by rw [eb, allS_none.mpr (List.mem_map.mpr ⟨e, List.mem_of_getElem? he, hn⟩)]; rfl) d4 H4 ((sU.trans sq).trans s4) hx4, fun z ez H4 v s4 hv => q' z ez H4 v (sq.trans s4) hv⟩
        have hPs := sqT_s sU hP
        refine ⟨U, _, rfl, SqT.of upd_same, rfl, _, _, rfl, _, _, rfl, rfl, rfl, _, rfl, p, _, _, rfl, sU _ _ hW, rfl, _, rfl, _, rfl, _, rfl, (by show 1 ≤ sizeLine; decide), fun q2 hq2 => ?_⟩
        have nu2 := Same.nu (o := .tup [.int (i : Nat)]) hq2
        exact ⟨pth, q2, xs, [.int (i : Nat)], rfl, rfl, sqT_s nu2 hPs, SqT.of upd_same, (show xs.length + 1 ≤ sizeLine from Nat.le_of_lt (small1000 (n := xs.length + 1) (by omega))),
          fun _ => call q2 [.int (i : Nat)] _ _ nu2 (SqT.of upd_same) (by simp) fin,
          fun _ z => (nomatch z),
          fun _ _ q3 hq3 => call q3 (xs ++ [.int (i : Nat)]) _ _ (nu2.trans (Same.nu hq3)) (SqT.of upd_same) (by simp) fin⟩
      · rintro H' ⟨s1, ys, zs, hd, hpr, hmap⟩
        rw [List.take_of_length_le (by omega)] at hmap
        have q := q (.seq (!(r.ls == "tuple")) zs) (by rw [eb, allS_some.mpr hmap]; rfl)
        have nD : D ∉ ps := hps.new hD
        have hpr2 : Paired (VAt (CT K) (cut H' ps) j) ys zs := Paired.mapP hpr fun _ _ h => VAt.same (cut_mono fun b hb => List.mem_cons_of_mem _ hb) h
        refine ⟨_, rfl, p, _, _, _, _, rfl, s1 _ _ hW, T.cl_Reader, T.a_Reader_lists, rfl, rfl, _, rfl, ?_⟩
        rw [strEq]
        cases hl : (r.ls == "tuple") with
        | true =>
          rw [hl] at q
          refine iteT ⟨_, rfl, D, ys, rfl, .inl ⟨SqL.of hd, fun q2 hq2 => ?_⟩⟩
          have nq : q2 ∉ ps := (hps.sx s1).new hq2
          exact q _ (.ref q2) (s1.trans (Same.nu hq2)) (.inr (.inl ⟨false, zs, q2, ys, rfl, rfl, cut_at nq upd_same, Paired.mapP hpr2 fun _ _ h => VAt.same (cut_put hq2) h⟩))
        | false =>
          rw [hl] at q
          exact iteF ⟨_, rfl, q H' (.ref D) s1 (.inr (.inl ⟨true, zs, D, ys, rfl, rfl, cut_at nD hd, hpr2⟩))⟩
    · have ht' := hG _ _ ht
      refine ⟨_, rfl, .ref t, _, .type "tuple", _, _, rfl, .ty _, .base (.tup ht'), kits (by decide) (by decide), _, rfl, iteF ?_⟩
      refine ⟨_, rfl, t, _, rfl, SqT.of ht', rfl, _, _, rfl, _, _, rfl, rfl, ?_⟩
      refine ⟨_, rfl, rfl, _, rfl, ite2 (fun _ => ?_) (fun z => absurd (by decide +kernel) z)⟩
      exact ⟨_, rfl, p, _, _, rfl, hW, rfl, _, rfl, _, rfl, p, a, pth, xs, r, es, ts, G, ps, rfl, ⟨yW, hW⟩, hG, ha, hx, rok_tab ok, hP, by omega, hps, qE, q⟩
theorem ok_Reader_built_at (T : Tx w K mg) : ∀ k, Gd P w K base mg (L2N.CX P w) (2 * (k + 1) + 4) (He.fAd K d_Reader_built_at.at_) ["self", "raw", "path"] [] (spBuilt K k) :=
  recGdN (fun k => 2 * k + 4) (fun l => mkGdXF (T.f_Reader_built_at) sc_Reader_built_at (fun _ _ _ _ _ _ us hl => match us, hl with | [_, _, _], _ => rfl) l) (fun k G => st_built_at T k G)
end
end Kt
set_option Elab.async false
set_option linter.all false
set_option maxRecDepth 100000
set_option maxHeartbeats 4000000
namespace Kt
open PySem PySem.Spec PyProof.Rows L2 Rz _root_.TL
section
variable {P : Program} {w : World} {K : PySem.W.Frag} {mg : Str → Option Value} {base : Heap}
def spRawV (K : PySem.W.Frag) (k : Nat) : Sp := fun vs H Q E => ∃ (p : Addr) (x : V) (o : Opt) (d : Val), vs = [.ref p, x] ∧ WAt K H p o ∧ VAt (CT K) H k x d ∧ Ok k d ∧ LamX.Tabs (TT K) H ∧ (rawV o k d = none → Ref K H E) ∧ ∀ z, rawV o k d = some z → ∀ H' v, Xt K H H' → RwAt H' k v z → Q v H'
theorem ok_Writer_raw (T : Tx w K mg) (hTB : LamX.TabB base mg (He.codeOf K keD) (keT K)) (k : Nat) (hk : k ≤ 6) : Gd P w K base mg (L2N.CX P w) (2 * (k + 1) + 7) (He.fAd K d_Writer_raw.at_) ["self", "value"] [] (spRawV K k) := by
  have G_Writer_raw_at := ok_Writer_raw_at (P := P) (w := w) (base := base) T hTB k
  refine mkGdX (T.f_Writer_raw) sc_Writer_raw (fun vs H Q E h => ?_) (fun _ _ _ _ _ _ us hl => match us, hl with | [_, _], _ => rfl) (fun cdv A outer s H vs Q E hr h => ?_)
  · obtain ⟨p, x, o, d, rfl, _⟩ := h
    rfl
  · have hu := hu_of hr
    have tk : L2N.Takes _ (fun c d _ H => E c d H) := L2N.takes_of (X := cxOf (L2N.CX P w) P w K mg base N_Writer_raw d_Writer_raw.qual (defScope s_Writer_raw) (He.fAd K d_Writer_raw.at_) cdv A outer s H E) rfl rfl rfl rfl
    have px := L2N.passes_call (E := E) tk fun _ _ _ _ h => h
    obtain ⟨p, x, o, d, rfl, hW, hv, ok, hT, qE, q⟩ := h
    obtain ⟨dw, hW⟩ := hW
    refine ⟨_, (pss_one (ps_ret (pe_methG (pv 0) T.cl_Writer T.m_Writer_raw_at G_Writer_raw_at (hr.mono (by first | decide | omega)) px (pa_cons (pv 1) (pa_cons (pe_tup pa_nil) pa_nil))))), ?_⟩
    refine ⟨_, rfl, p, _, _, rfl, hW, rfl, _, rfl, Nat.zero_le _, fun pth hp => ?_⟩
    have nu := Same.nu (o := .tup []) hp
    exact ⟨p, x, pth, [], o, d, H, [], rfl, ⟨dw, nu _ _ hW⟩, LamX.ExtN.of nu, hv, ok, SqT.of upd_same, by simp; omega, hT.ext nu, fun _ h => by simp at h, fun hn d H' X hx => qE hn d H' ⟨(LamX.ExtN.of nu).trans X.1, X.2⟩ hx, fun z ez H' v X hv' =>
      q z ez H' v ⟨(LamX.ExtN.of nu).trans X.1, X.2⟩ (by rw [cut_nil] at hv'; exact hv')⟩
def spBuild (K : PySem.W.Frag) (k : Nat) : Sp := fun vs H Q E => ∃ (p : Addr) (v : V) (r : ROpt) (d : Val), vs = [.ref p, v] ∧ DAt K H p r ∧ RwAt H k v d ∧ Rok k d ∧ (bldV r k d = none → RefD K H E) ∧ ∀ z, bldV r k d = some z → ∀ H' y, Same H H' → VAt (CT K) H' k y z → Q y H'
theorem ok_Reader_build (T : Tx w K mg) (k : Nat) (hk : k ≤ 6) : Gd P w K base mg (L2N.CX P w) (2 * (k + 1) + 5) (He.fAd K d_Reader_build.at_) ["self", "raw"] [] (spBuild K k) := by
  have G_Reader_built_at := ok_Reader_built_at (P := P) (w := w) (base := base) T k
  refine mkGdX (T.f_Reader_build) sc_Reader_build (fun vs H Q E h => ?_) (fun _ _ _ _ _ _ us hl => match us, hl with | [_, _], _ => rfl) (fun cdv A outer s H vs Q E hr h => ?_)
  · obtain ⟨p, x, r, d, rfl, _⟩ := h
    rfl
  · have hu := hu_of hr
    have tk : L2N.Takes _ (fun c d _ H => E c d H) := L2N.takes_of (X := cxOf (L2N.CX P w) P w K mg base N_Reader_build d_Reader_build.qual (defScope s_Reader_build) (He.fAd K d_Reader_build.at_) cdv A outer s H E) rfl rfl rfl rfl
    have px := L2N.passes_call (E := E) tk fun _ _ _ _ h => h
    obtain ⟨p, v, r, d, rfl, ⟨yW, hW⟩, hv, ok, qE, q⟩ := h
    refine ⟨_, (pss_one (ps_ret (pe_methG (pv 0) T.cl_Reader T.m_Reader_built_at G_Reader_built_at (hr.mono (by first | decide | omega)) px (pa_cons (pv 1) (pa_cons (pe_tup pa_nil) pa_nil))))), ?_⟩
    refine ⟨_, rfl, p, _, _, rfl, hW, rfl, _, rfl, Nat.zero_le _, fun pth hp => ?_⟩
    have nu := Same.nu (o := .tup []) hp
    exact ⟨p, v, pth, [], r, d, H, [], rfl, ⟨yW, nu _ _ hW⟩, nu, hv, ok, SqT.of upd_same, by simp; omega, Has.nil, fun hn d H' s' hx => qE hn d H' (nu.trans s') hx, fun z ez H' y s' hy => q z ez H' y (nu.trans s') (VAt.same cut_le hy)⟩
/-- Refused(side, reason, path), made while an error is handled -/
theorem okH_Refused_init (T : Tx w K mg) : ∃ fd, L2H.FnH P w K mg base CX0 1 (He.fAd K d_Refused_init.at_) fd ["self", "side", "reason", "path"] (spErr K ["side", "reason", "path"]) ∧ Binds K fd ["self", "side", "reason", "path"] [] := by
  obtain ⟨fd, F⟩ := T.f_Refused_init
  obtain ⟨oc, od, dV, kV, doc, pm, an, cdv, ct, osl, e, lk, hcd, _, _⟩ := F.ex
  subst e
  refine ⟨_, L2H.fn_ofH lk hcd sc_Refused_init (fun vs H Q E h => ?_) (fun A outer s H vs Q E pp hot hr h => ?_), F.bindsN fun _ _ _ _ _ _ us hl => match us, hl with | [_, _, _, _], _ => rfl⟩
  · obtain ⟨a, C, ys, rfl, hl, _⟩ := h
    rw [List.length_cons, hl]
    rfl
  · obtain ⟨a, C, ys, rfl, hl, ha, O, hf, k⟩ := h
    match ys, hl with
    | [y0, y1, y2], _ =>
    refine ⟨_, (pss_cons (ps_ost (pv 0) (pv 1))
      (pss_cons (ps_ost (pv 0) (pv 2))
      (pss_one (ps_ost (pv 0) (pv 3))))), ?_⟩
    refine ⟨_, rfl, _, rfl, a, C, rfl, O, hf _ (by simp), .inl ⟨ha, fun dx hd hn => ?_⟩⟩
    refine ⟨_, rfl, _, rfl, a, C, rfl, O, hf _ (by simp), .inr ⟨dx, _, upd_same, (by rw [upd_ne hn]; exact upd_same), (by show 1 ≤ 900; decide), ?_⟩⟩
    refine ⟨_, rfl, _, rfl, a, C, rfl, O, hf _ (by simp), .inr ⟨dx, _, (by rw [upd_ne hn.symm]; exact upd_same), upd_same, (by show 2 ≤ 900; decide), ?_⟩⟩
    exact k dx _ hd hn ⟨by rw [upd_ne hn.symm, upd_ne hn.symm]; exact upd_same, upd_same⟩ fun b o hb e => by rw [upd_ne (ne_of_none e hd), upd_ne (ne_of_none e hd), upd_ne hb, upd_ne (ne_of_none e hd)]; exact e
end
end Kt
set_option Elab.async false
set_option linter.all false
set_option maxRecDepth 100000
set_option maxHeartbeats 4000000
namespace Kt
open PySem PySem.Spec PyProof.Rows L2 Rz _root_.TL
section
variable {P : Program} {w : World} {K : PySem.W.Frag} {mg : Str → Option Value} {base : Heap}
/-- a def that may let an error out, whatever its context -/
theorem mkGdXL {x qual : Str} {params : Arguments} {body : List Stmt} {scope : Scope} {f : Addr} {N ps : List Str} {k : Nat} {sp : Sp} (F : ∃ fd, FunD K x qual params body scope [] [] f fd) (S : FnScope N ps scope) (len : ∀ vs H Q E, sp vs H Q E → vs.length = ps.length)
    (hb : ∀ (kV doc pm : Value) (an : Option Addr) (cdv ct : Value) (us : List Value), us.length = ps.length → bindArgs (PySem.W.fnOf x qual params body scope .none kV doc pm an cdv ct) ⟨us, []⟩ = pure (ps.zip us))
    (hbody : ∀ (cdv : Value) (A : Around) (outer : List Env) (s : Shared) (H : Hp) (vs : List V) (Q : VK) (E : XK), Room k (A.deeper (envOfC qual scope s.heap.objs.size f cdv)) → sp vs H Q E →
      ∃ t, PSs (cxOf (L2.CX P w) P w K mg base N qual scope f cdv A outer s H E) body t ∧ t { nx := fun _ H' => Q .non H', rt := Q } (start N vs) H) :
    Gd P w K base mg (L2.CX P w) (k + 1) f ps [] sp := by
  obtain ⟨fd, F⟩ := F
  exact ⟨⟨fd, [], F.ok S len hbody, .nil, F.bindsN hb⟩, F.kp⟩
theorem xf_of {C fI : Addr} (h : ExAll K C fI) : XfC K C := ⟨h.e.hg, h.e.hk, h.e.hs, h.e.hd⟩
theorem rais_R (T : Tx w K mg) {H : Hp} {r1 r pth : V} {E : XK} (k : ∀ d H', Same H H' → E (.ref (He.ga K "Refused")) (some d) H') :
    [r1, r, pth].length ≤ 1000 ∧ ∀ a, H a = none → spErr K ["side", "reason", "path"] (.ref a :: ([r1, r, pth] ++ [])) (upd H a (exo a (He.ga K "Refused") none))
      (fun v H2 => v = .non ∧ ∃ (d : Addr) (fs : List (Str × V)), H2 a = some (exo a (He.ga K "Refused") (some d)) ∧ H2 d = some (exd d fs) ∧ H d = none ∧ E (.ref (He.ga K "Refused")) (some d) (upd (del H2 a) d (.xd fs))) (fun _ _ _ => False) := by
  refine ⟨(by show 3 ≤ 1000; decide), fun x hx => ⟨x, _, _, rfl, rfl, upd_same, (T.exA (x := "Refused") (by simp [errN])).o, ?_, fun dx H1 hdx _ he hk => ⟨rfl, dx, _, he.1, he.2, (rais_end (fs := []) hx hdx hk).1, k dx _ (rais_end hx hdx hk).2⟩⟩⟩
  intro f hf
  simp only [List.mem_cons, List.not_mem_nil, or_false] at hf
  rcases hf with rfl | rfl | rfl
  · exact T.a_Refused_side
  · exact T.a_Refused_reason
  · exact T.a_Refused_path
def RefC (K : PySem.W.Frag) (H : Hp) (E : XK) : Prop := ∀ d H', Xt K H H' → E (.ref (He.ga K "Refused")) (some d) H'
def spCarry (K : PySem.W.Frag) (k : Nat) : Sp := fun vs H Q E => ∃ (p : Addr) (x : V) (o : Opt) (r : ROpt) (d : Val), vs = [.ref p, x] ∧ PAt K H p o r ∧ VAt (CT K) H k x d ∧ Ok k d ∧ LamX.Tabs (TT K) H ∧ (Rz.carry o r k d = none → RefC K H E) ∧ ∀ z, Rz.carry o r k d = some z → ∀ H' y, Xt K H H' → VAt (CT K) H' k y z → Q y H'
theorem ok_Passage_carry (T : Tx w K mg) (hTB : LamX.TabB base mg (He.codeOf K keD) (keT K)) (k : Nat) (hk : k ≤ 6) : Gd P w K base mg (L2.CX P w) (2 * (k + 1) + 8) (He.fAd K d_Passage_carry.at_) ["self", "value"] [] (spCarry K k) := by
  have G_Writer_raw := ok_Writer_raw (P := P) (w := w) (base := base) T hTB k hk
  have G_Reader_build := ok_Reader_build (P := P) (w := w) (base := base) T k hk
  obtain ⟨fdR, F_Refused, hb_Refused⟩ := okH_Refused_init (P := P) (w := w) (base := base) T
  have rEx := T.exA (x := "Refused") (by simp [errN])
  have uEx := T.exA (x := "Unwritable") (by simp [errN])
  have dEx := T.exA (x := "Unreadable") (by simp [errN])
  have xf_Unwritable := xf_of uEx
  have xf_Unreadable := xf_of dEx
  refine mkGdXL (T.f_Passage_carry) sc_Passage_carry (fun vs H Q E h => ?_) (fun _ _ _ _ _ _ us hl => match us, hl with | [_, _], _ => rfl) (fun cdv A outer s H vs Q E hr h => ?_)
  · obtain ⟨p, x, o, r, d, rfl, _⟩ := h
    rfl
  · have hu := hu_of hr
    have tk : L2.Takes _ (fun c d _ H => E c d H) := L2.takes_of (X := cxOf (L2.CX P w) P w K mg base N_Passage_carry d_Passage_carry.qual (defScope s_Passage_carry) (He.fAd K d_Passage_carry.at_) cdv A outer s H E) rfl rfl rfl rfl
    obtain ⟨p, x, o, r, d, rfl, hW, hv, ok, hT, qE, q⟩ := h
    refine ⟨_, (pss_cons (Rn.ps_try_asX (i := 3) rfl rfl sc_Passage_carry.nd rfl rfl ⟨rfl, by decide, .inl T.g_Unwritable⟩ (L2H.passesAt_of rfl) tk (fun W pn xe tkN _ => (pss_one (ps_set (i := 2) sc_Passage_carry.nd rfl (Or.inl rfl) (pe_methXS (pv 0) T.cl_Writer T.m_Writer_raw G_Writer_raw (hr.mono (by first | decide | omega)) (fun σ => L2N.passAt tkN σ) (pa_cons (pv 1) pa_nil))))) (fun a oe cls d pn xe hz hf tkS hot => (pss_one (Rn.ps_raiseC (i := 3) hz hf tkS (L2H.pmk5_oexH rEx.o rEx.iC rEx.tI F_Refused (L2H.roomH_mark (hr.mono (by first | decide | omega)) _) hot hb_Refused pass0 rfl T.g_Refused (pa_cons pe_str (pa_cons (PE.nox (pe_xf xf_Unwritable T.a_Unwritable_reason hz.zc hf (pv 3))) (pa_cons (PE.nox (pe_xf xf_Unwritable T.a_Unwritable_path hz.zc hf (pv 3))) pa_nil)))) rfl rfl))))
      (pss_one (Rn.ps_try_asX (i := 4) rfl rfl sc_Passage_carry.nd rfl rfl ⟨rfl, by decide, .inl T.g_Unreadable⟩ (L2H.passesAt_of rfl) tk (fun W pn xe tkN _ => (pss_one (ps_ret (pe_methXS (pv 0) T.cl_Reader T.m_Reader_build G_Reader_build (hr.mono (by first | decide | omega)) (fun σ => L2N.passAt tkN σ) (pa_cons (pv 2) pa_nil))))) (fun a oe cls d pn xe hz hf tkS hot => (pss_one (Rn.ps_raiseC (i := 4) hz hf tkS (L2H.pmk5_oexH rEx.o rEx.iC rEx.tI F_Refused (L2H.roomH_mark (hr.mono (by first | decide | omega)) _) hot hb_Refused pass0 rfl T.g_Refused (pa_cons pe_str (pa_cons (PE.nox (pe_xf xf_Unreadable T.a_Unreadable_reason hz.zc hf (pv 4))) (pa_cons (PE.nox (pe_xf xf_Unreadable T.a_Unreadable_path hz.zc hf (pv 4))) pa_nil)))) rfl rfl)))))), ?_⟩
    have hW' := hW
    obtain ⟨dx, hWp⟩ := hW
    have ec : Rz.carry o r k d = (rawV o k d).bind (bldV r k) := rfl
    refine ⟨_, rfl, p, _, _, rfl, hWp, rfl, _, rfl, p, x, o, d, rfl, hW'.wr, hv, ok, hT, fun hn d1 H' X hx => ⟨true, T.exm_Unwritable, fun _ a ha => ?_, fun z => nomatch z⟩, fun z ez H' v X hv' => ?_⟩
    · obtain ⟨r1, pth, hx⟩ := hx
      have qE := qE (by rw [ec, hn]; rfl)
      have rU := raises_own (X := cxOf (L2.CX P w) P w K mg base N_Passage_carry d_Passage_carry.qual (defScope s_Passage_carry) (He.fAd K d_Passage_carry.at_) cdv A outer s H E) uEx.o.exC uEx.o.tyC
      exact ⟨_, rfl, rfl, rfl, d1, _, _, rfl, hx, rfl, _, rfl, rfl, rfl, d1, _, _, rfl, hx, rfl, rais_R T (r1 := .str "writer") (r := r1) (pth := pth) (H := H') (E := fun c dd Hh => (List.set (L2.start N_Passage_carry [V.ref p, x]) 3 (some (V.ref a)))[3]? = some (some (V.ref a)) ∧ Raises (cxOf (L2.CX P w) P w K mg base N_Passage_carry d_Passage_carry.qual (defScope s_Passage_carry) (He.fAd K d_Passage_carry.at_) cdv A outer s H E) (.ref (He.ga K "Unwritable")) ∧ E c dd Hh) fun d2 H2 s2 => ⟨rfl, rU, qE d2 H2 (X.of s2)⟩⟩
    · have ez2 : Rz.carry o r k d = bldV r k z := by rw [ec, ez]; rfl
      have hWd := hW'.rd.x X.1
      obtain ⟨yW, hWd⟩ := hWd
      refine ⟨_, rfl, p, _, _, rfl, hWd, rfl, _, rfl, p, v, r, z, rfl, ⟨yW, hWd⟩, hv', raw_ok ok ez, fun hn d1 H2 s2 hx => ⟨true, T.exm_Unreadable, fun _ a ha => ?_, fun z => nomatch z⟩, fun z2 e2 H2 y s2 hy => q z2 (ez2.trans e2) H2 y (X.of s2) hy⟩
      obtain ⟨r1, pth, hx⟩ := hx
      have qE := qE (ez2.trans hn)
      have rU := raises_own (X := cxOf (L2.CX P w) P w K mg base N_Passage_carry d_Passage_carry.qual (defScope s_Passage_carry) (He.fAd K d_Passage_carry.at_) cdv A outer s H E) dEx.o.exC dEx.o.tyC
      exact ⟨_, rfl, rfl, rfl, d1, _, _, rfl, hx, rfl, _, rfl, rfl, rfl, d1, _, _, rfl, hx, rfl, rais_R T (r1 := .str "reader") (r := r1) (pth := pth) (H := H2) (E := fun c dd Hh => (List.set (List.set (L2.start N_Passage_carry [V.ref p, x]) 2 (some v)) 4 (some (V.ref a)))[4]? = some (some (V.ref a)) ∧ Raises (cxOf (L2.CX P w) P w K mg base N_Passage_carry d_Passage_carry.qual (defScope s_Passage_carry) (He.fAd K d_Passage_carry.at_) cdv A outer s H E) (.ref (He.ga K "Unreadable")) ∧ E c dd Hh) fun d2 H3 s3 => ⟨rfl, rU, qE d2 H3 (X.of (s2.trans s3))⟩⟩
end
end Kt
set_option Elab.async false
set_option linter.all false
set_option maxRecDepth 100000
set_option maxHeartbeats 4000000
namespace Kt
open PySem PySem.Spec PyProof.Rows L2 Rz _root_.TL
section
variable {P : Program} {w : World} {K : PySem.W.Frag} {mg : Str → Option Value} {base : Heap}
theorem inV_str {z : Str} {l : List Str} (h : z ∈ l) : inV (.str z) (l.map V.str) = true := by
  unfold inV
  rw [List.any_map]
  exact List.any_eq_true.mpr ⟨z, h, by show eqV (.str z) (.str z) = true; simp [eqV]⟩
theorem flat_strs (l : List Str) : (l.map V.str).all flatV = true := by
  rw [List.all_map]
  exact List.all_eq_true.mpr fun _ _ => rfl
def optL (o : Opt) : List Str := [o.nk, o.tp, o.nl, o.dk, o.od, o.ln]
def rptL (r : ROpt) : List Str := [r.sk, r.dg, r.ls, r.ni]
/-- each of zs is allowed at its place -/
def Alw (l : List (Str × List Str)) (zs : List Str) : Prop := zs.length = l.length ∧ ∀ j z, zs[j]? = some z → j < l.length ∧ z ∈ (l.getD j ("", [])).2
theorem optL_ok {o : Opt} (h : o.ok) : Alw woN (optL o) := by
  obtain ⟨h1, h2, h3, h4, h5, h6⟩ := h
  refine ⟨rfl, fun j z e => ?_⟩
  match j, e with
  | 0, e => cases e; exact ⟨by decide, h1⟩
  | 1, e => cases e; exact ⟨by decide, h2⟩
  | 2, e => cases e; exact ⟨by decide, h3⟩
  | 3, e => cases e; exact ⟨by decide, h4⟩
  | 4, e => cases e; exact ⟨by decide, h5⟩
  | 5, e => cases e; exact ⟨by decide, h6⟩
  | j + 6, e => simp [optL] at e
theorem rptL_ok {r : ROpt} (h : r.ok) : Alw roN (rptL r) := by
  obtain ⟨h1, h2, h3, h4⟩ := h
  refine ⟨rfl, fun j z e => ?_⟩
  match j, e with
  | 0, e => cases e; exact ⟨by decide, h1⟩
  | 1, e => cases e; exact ⟨by decide, h2⟩
  | 2, e => cases e; exact ⟨by decide, h3⟩
  | 3, e => cases e; exact ⟨by decide, h4⟩
  | j + 4, e => simp [rptL] at e
/-- a table of options at x, told by l -/
def OpT (K : PySem.W.Frag) (x : Str) (l : List (Str × List Str)) : Prop := ∀ H : Hp, SqT K H (He.ga K x) ((List.range l.length).map fun j => .ref (opI K x j)) ∧ ∀ j, j < l.length → SqT K H (opI K x j) [.str (l.getD j ("", [])).1, .ref (itA K (opI K x j) 1)] ∧ SqT K H (itA K (opI K x j) 1) ((l.getD j ("", [])).2.map V.str)
def spCheck (K : PySem.W.Frag) : Sp := fun vs H Q _ => ∃ (x : Str) (l : List (Str × List Str)) (b : Addr) (zs : List Str), vs = [.ref (He.ga K x), .ref b] ∧ OpT K x l ∧ SqT K H b (zs.map V.str) ∧ Alw l zs ∧ ∀ H', Same H H' → Q .non H'
theorem ok_check_options (T : Tx w K mg) : Gd P w K base mg CX0 1 (He.fAd K d_check_options.at_) ["options", "given"] [] (spCheck K) := by
  refine mkGd (T.f_check_options) sc_check_options (fun vs H Q E h => ?_) (fun _ _ _ _ _ _ us hl => match us, hl with | [_, _], _ => rfl) (fun cdv A outer s H vs Q E hr h => ?_)
  · obtain ⟨x, l, b, zs, rfl, _⟩ := h
    rfl
  · have hu := hu_of hr
    obtain ⟨x, l, b, zs, rfl, hO, hb, ⟨hz, ho⟩, q⟩ := h
    refine ⟨_, (pss_one (ps_for PassesOwn.never rfl (RZ.pi_zipA (by rfl) T.n_zip (pa_cons (pv 0) (pa_cons (pv 1) pa_nil))) (pg_tup rfl (pgs_cons (pg_tup rfl (pgs_cons (pg_name (i := 2) sc_check_options.nd rfl (Or.inl rfl)) (pgs_cons (pg_name (i := 3) sc_check_options.nd rfl (Or.inl rfl)) pgs_nil))) (pgs_cons (pg_name (i := 4) sc_check_options.nd rfl (Or.inl rfl)) pgs_nil)))
      (pss_one (ps_if (pt_cmpR op_notIn_seq (pv 4) (pv 3) (by rfl)) (pss_one ps_never) pss_nil)))), ?_⟩
    refine ⟨_, rfl, _, rfl, _, b, _, _, rfl, .inr ⟨(hO H).1, hb, RZ.for_zipT (by rw [List.length_map, List.length_map, List.length_range, hz]) (fun i σ H' => (∃ u v y, σ = [some (.ref (He.ga K x)), some (.ref b), u, v, y]) ∧ Same H H') ⟨⟨_, _, _, rfl⟩, Same.refl H⟩ (fun i σ H' h => ⟨(hO H').1, sqT_x (LamX.ExtN.of h.2) hb⟩) ?_ fun σ H' h => q H' h.2⟩⟩
    rintro i y1 y U σ H' hx hy ⟨⟨u, v, y0, rfl⟩, s1⟩ hU
    rw [List.getElem?_map] at hy
    cases ez : zs[i]? with
    | none => rw [ez] at hy; cases hy
    | some z =>
    rw [ez] at hy
    cases hy
    obtain ⟨hj, hm⟩ := ho i z ez
    have ex : y1 = .ref (opI K x i) := by
      rw [List.getElem?_map, List.getElem?_range hj] at hx
      exact (Option.some.inj hx).symm
    subst ex
    have hin : inV (.str z) ((l.getD i ("", [])).2.map V.str) = true := inV_str hm
    refine ⟨U, _, rfl, SqT.of upd_same, rfl, _, _, rfl, ⟨opI K x i, _, rfl, ((hO _).2 i hj).1, rfl, _, _, rfl, _, _, rfl, rfl, _, _, rfl, rfl, _, rfl, _, rfl, itA K (opI K x i) 1, _, rfl, .inr ((hO _).2 i hj).2, rfl, flat_strs _, _, rfl, ?_⟩⟩
    rw [hin]
    exact iteF ⟨⟨_, _, _, rfl⟩, s1.trans (Same.nu hU)⟩
def wNames : List Str := ["number_keys", "tuples", "nulls", "double_keys", "order", "long_numbers"]
def rNames : List Str := ["same_keys", "digit_keys", "lists", "null_items"]
def spWInit (K : PySem.W.Frag) : Sp := fun vs H Q _ => ∃ (a dx : Addr) (o : Opt), vs = V.ref a :: (optL o).map V.str ∧ H a = some (.ins (CW K) dx []) ∧ o.ok ∧ ∀ H', Sx [a] H H' → H' a = some (.ins (CW K) dx (optF o)) → Q .non H'
theorem ok_Writer_init (T : Tx w K mg) : ∃ fd mv, FnOk P w K mg base CX0 2 (He.fAd K d_Writer_init.at_) fd ("self" :: wNames) (spWInit K) ∧ KBn K fd ("self" :: wNames) 1 wNames (fun us ws => us ++ mv ++ ws) (fun vs zs => vs ++ [] ++ zs) := by
  have G_check_options := ok_check_options (P := P) (w := w) (base := base) T
  obtain ⟨fd, F⟩ := T.f_Writer_init
  obtain ⟨mv, hk⟩ := F.kbinds0 (ps := "self" :: wNames) 1 wNames [] (fun a b c => a ++ b ++ c) (fun z => by cases z) (fun _ z => nomatch z) (fun r1 r2 r3 => Vals.append (Vals.append r1 r2) r3) (fun D doc pm an cdv ct us mv ws l1 l2 l3 => by
    match us, mv, ws, l1, l2, l3 with
    | [_], [], [_, _, _, _, _, _], _, _, _ => rfl)
  refine ⟨fd, mv, F.ok sc_Writer_init (fun vs H Q E h => ?_) fun cdv A outer s H vs Q E hr h => ?_, hk⟩
  · obtain ⟨a, dx, o, rfl, _⟩ := h
    rfl
  · have hu := hu_of hr
    obtain ⟨a, dx, o, rfl, ha, ho, q⟩ := h
    refine ⟨_, PSs.nox (pss_cons (ps_expr (pe_callG G_check_options T.g_check_options (hr.mono (by first | decide | omega)) pass0 (pa_cons (pe_glob (v := .ref (He.ga K "WRITER_OPTIONS")) rfl T.g_WRITER_OPTIONS rfl) (pa_cons (pe_tup (pa_cons (pv 1) (pa_cons (pv 2) (pa_cons (pv 3) (pa_cons (pv 4) (pa_cons (pv 5) (pa_cons (pv 6) pa_nil))))))) pa_nil))))
      (pss_cons (ps_fld (pv 0) (pv 1) rfl)
      (pss_cons (ps_fld (pv 0) (pv 2) rfl)
      (pss_cons (ps_fld (pv 0) (pv 3) rfl)
      (pss_cons (ps_fld (pv 0) (pv 4) rfl)
      (pss_cons (ps_fld (pv 0) (pv 5) rfl)
      (pss_one (ps_fld (pv 0) (pv 6) rfl)))))))), ?_⟩
    refine ⟨_, rfl, _, rfl, _, rfl, _, rfl, _, rfl, _, rfl, (by show 6 ≤ sizeLine; decide), fun g hg => ?_⟩
    have nu := Same.nu (o := .tup ((optL o).map V.str)) hg
    refine ⟨"WRITER_OPTIONS", woN, g, optL o, rfl, fun H => T.wo H, SqT.of upd_same, optL_ok ho, fun H2 s2 => ?_⟩
    have h0 := s2 _ _ (nu _ _ ha)
    refine ⟨_, rfl, _, rfl, a, _, _, _, rfl, h0, T.cl_Writer, T.a_Writer_number_keys, (by decide), ?_⟩
    refine ⟨_, rfl, _, rfl, a, _, _, _, rfl, upd_same, T.cl_Writer, T.a_Writer_tuples, (by show 1 < 1000; decide), ?_⟩
    refine ⟨_, rfl, _, rfl, a, _, _, _, rfl, upd_same, T.cl_Writer, T.a_Writer_nulls, (by show 2 < 1000; decide), ?_⟩
    refine ⟨_, rfl, _, rfl, a, _, _, _, rfl, upd_same, T.cl_Writer, T.a_Writer_double_keys, (by show 3 < 1000; decide), ?_⟩
    refine ⟨_, rfl, _, rfl, a, _, _, _, rfl, upd_same, T.cl_Writer, T.a_Writer_order, (by show 4 < 1000; decide), ?_⟩
    refine ⟨_, rfl, _, rfl, a, _, _, _, rfl, upd_same, T.cl_Writer, T.a_Writer_long_numbers, (by show 5 < 1000; decide), ?_⟩
    refine q _ (fun b u n e => ?_) upd_same
    have n : b ≠ a := fun z => n (by simp [z])
    rw [upd_ne n, upd_ne n, upd_ne n, upd_ne n, upd_ne n, upd_ne n]
    exact s2 _ _ (nu _ _ e)
def spRInit (K : PySem.W.Frag) : Sp := fun vs H Q _ => ∃ (a dx : Addr) (o : Opt) (r : ROpt), vs = V.ref a :: (rptL r).map V.str ∧ H a = some (.ins (CW K) dx (optF o)) ∧ r.ok ∧ ∀ H', Sx [a] H H' → H' a = some (.ins (CW K) dx (optF o ++ rdF r)) → Q .non H'
theorem ok_Reader_init (T : Tx w K mg) : ∃ fd mv, FnOk P w K mg base CX0 2 (He.fAd K d_Reader_init.at_) fd ("self" :: rNames) (spRInit K) ∧ KBn K fd ("self" :: rNames) 1 rNames (fun us ws => us ++ mv ++ ws) (fun vs zs => vs ++ [] ++ zs) := by
  have G_check_options := ok_check_options (P := P) (w := w) (base := base) T
  obtain ⟨fd, F⟩ := T.f_Reader_init
  obtain ⟨mv, hk⟩ := F.kbinds0 (ps := "self" :: rNames) 1 rNames [] (fun a b c => a ++ b ++ c) (fun z => by cases z) (fun _ z => nomatch z) (fun r1 r2 r3 => Vals.append (Vals.append r1 r2) r3) (fun D doc pm an cdv ct us mv ws l1 l2 l3 => by
    match us, mv, ws, l1, l2, l3 with
    | [_], [], [_, _, _, _], _, _, _ => rfl)
  refine ⟨fd, mv, F.ok sc_Reader_init (fun vs H Q E h => ?_) fun cdv A outer s H vs Q E hr h => ?_, hk⟩
  · obtain ⟨a, dx, o, r, rfl, _⟩ := h
    rfl
  · have hu := hu_of hr
    obtain ⟨a, dx, o, r, rfl, ha, ho, q⟩ := h
    refine ⟨_, PSs.nox (pss_cons (ps_expr (pe_callG G_check_options T.g_check_options (hr.mono (by first | decide | omega)) pass0 (pa_cons (pe_glob (v := .ref (He.ga K "READER_OPTIONS")) rfl T.g_READER_OPTIONS rfl) (pa_cons (pe_tup (pa_cons (pv 1) (pa_cons (pv 2) (pa_cons (pv 3) (pa_cons (pv 4) pa_nil))))) pa_nil))))
      (pss_cons (ps_fld (pv 0) (pv 1) rfl)
      (pss_cons (ps_fld (pv 0) (pv 2) rfl)
      (pss_cons (ps_fld (pv 0) (pv 3) rfl)
      (pss_one (ps_fld (pv 0) (pv 4) rfl)))))), ?_⟩
    refine ⟨_, rfl, _, rfl, _, rfl, _, rfl, (by show 4 ≤ sizeLine; decide), fun g hg => ?_⟩
    have nu := Same.nu (o := .tup ((rptL r).map V.str)) hg
    refine ⟨"READER_OPTIONS", roN, g, rptL r, rfl, fun H => T.ro H, SqT.of upd_same, rptL_ok ho, fun H2 s2 => ?_⟩
    have h0 := s2 _ _ (nu _ _ ha)
    refine ⟨_, rfl, _, rfl, a, _, _, _, rfl, h0, T.cl_Reader, T.a_Reader_same_keys, (by show 6 < 1000; decide), ?_⟩
    refine ⟨_, rfl, _, rfl, a, _, _, _, rfl, upd_same, T.cl_Reader, T.a_Reader_digit_keys, (by show 7 < 1000; decide), ?_⟩
    refine ⟨_, rfl, _, rfl, a, _, _, _, rfl, upd_same, T.cl_Reader, T.a_Reader_lists, (by show 8 < 1000; decide), ?_⟩
    refine ⟨_, rfl, _, rfl, a, _, _, _, rfl, upd_same, T.cl_Reader, T.a_Reader_null_items, (by show 9 < 1000; decide), ?_⟩
    refine q _ (fun b u n e => ?_) upd_same
    have n : b ≠ a := fun z => n (by simp [z])
    rw [upd_ne n, upd_ne n, upd_ne n, upd_ne n]
    exact s2 _ _ (nu _ _ e)
def pNames : List Str := wNames ++ rNames
def spPInit (K : PySem.W.Frag) : Sp := fun vs H Q _ => ∃ (a dx : Addr) (o : Opt) (r : ROpt), vs = V.ref a :: (optL o ++ rptL r).map V.str ∧ H a = some (.ins (CW K) dx []) ∧ o.ok ∧ r.ok ∧ ∀ H', Sx [a] H H' → PAt K H' a o r → Q .non H'
theorem ok_Passage_init (T : Tx w K mg) : ∃ fd mv, FnOk P w K mg base CX0 3 (He.fAd K d_Passage_init.at_) fd ("self" :: pNames) (spPInit K) ∧ KBn K fd ("self" :: pNames) 1 pNames (fun us ws => us ++ mv ++ ws) (fun vs zs => vs ++ [] ++ zs) := by
  obtain ⟨fdW, mvW, F_Writer, hb_Writer⟩ := ok_Writer_init (P := P) (w := w) (base := base) T
  obtain ⟨fdR, mvR, F_Reader, hb_Reader⟩ := ok_Reader_init (P := P) (w := w) (base := base) T
  have iniWriter := T.iniW
  have iniReader := T.iniR
  obtain ⟨fd, F⟩ := T.f_Passage_init
  obtain ⟨mv, hk⟩ := F.kbinds0 (ps := "self" :: pNames) 1 pNames [] (fun a b c => a ++ b ++ c) (fun z => by cases z) (fun _ z => nomatch z) (fun r1 r2 r3 => Vals.append (Vals.append r1 r2) r3) (fun D doc pm an cdv ct us mv ws l1 l2 l3 => by
    match us, mv, ws, l1, l2, l3 with
    | [_], [], [_, _, _, _, _, _, _, _, _, _], _, _, _ => rfl)
  refine ⟨fd, mv, F.ok sc_Passage_init (fun vs H Q E h => ?_) fun cdv A outer s H vs Q E hr h => ?_, hk⟩
  · obtain ⟨a, dx, o, r, rfl, _⟩ := h
    rfl
  · have hu := hu_of hr
    obtain ⟨a, dx, o, r, rfl, ha, ho, hr', q⟩ := h
    refine ⟨_, PSs.nox (pss_cons (ps_expr (Rn.pe_cinit (pe_glob (v := .ref (He.ga K "Writer")) rfl T.g_Writer rfl) iniWriter.1 iniWriter.2.1 iniWriter.2.2 F_Writer (hr.mono (by first | decide | omega)) hb_Writer pass0 (pa_cons (pv 0) pa_nil) (pk_cons (pv 1) (pk_cons (pv 2) (pk_cons (pv 3) (pk_cons (pv 4) (pk_cons (pv 5) (pk_cons (pv 6) pk_nil))))))))
      (pss_one (ps_expr (Rn.pe_cinit (pe_glob (v := .ref (He.ga K "Reader")) rfl T.g_Reader rfl) iniReader.1 iniReader.2.1 iniReader.2.2 F_Reader (hr.mono (by first | decide | omega)) hb_Reader pass0 (pa_cons (pv 0) pa_nil) (pk_cons (pv 7) (pk_cons (pv 8) (pk_cons (pv 9) (pk_cons (pv 10) pk_nil)))))))), ?_⟩
    refine ⟨rfl, _, rfl, _, rfl, _, rfl, _, rfl, _, rfl, _, rfl, _, rfl, rfl, rfl, a, dx, o, rfl, ha, ho, fun H2 s2 h2 => ?_⟩
    exact ⟨rfl, _, rfl, _, rfl, _, rfl, _, rfl, _, rfl, rfl, rfl, a, dx, o, r, rfl, h2, hr', fun H3 s3 h3 => q H3 (s2.trans s3) ⟨dx, h3⟩⟩
end
end Kt
set_option Elab.async false
set_option linter.all false
set_option maxRecDepth 100000
set_option maxHeartbeats 4000000
namespace Kt
open PySem PySem.Spec PyProof.Rows L2 Rz _root_.TL
section
variable {P : Program} {w : World} {K : PySem.W.Frag} {mg : Str → Option Value} {base : Heap}
theorem op_isB {X : Cx} : OpR X (compareOp .Is) (fun x y H Q => ∃ b : Bool, y = .bl b ∧ Q (.bl (decide (x = .bl b))) H) := by
  intro pins s σ H x y v u Q I rx ry h
  obtain ⟨b, rfl, q⟩ := h
  cases (show u = Value.bool b from ry)
  show wpAny _ _ ((isSame v (Value.bool b)) >>= fun z => pure (Value.bool z)) _ _ s
  refine wpAny_bind ?_
  have go : ∀ {c : Bool}, plainIs v (.bool b) = true → (v == Value.bool b) = c → decide (x = V.bl b) = c → wpAny (model X.prog X.w) X.A (isSame v (Value.bool b)) (fun z s2 => wpAny (model X.prog X.w) X.A (pure (Value.bool z)) (EP X pins σ Q) X.xe s2) X.xe s := fun h1 h2 h3 =>
    wpAny_isSame_plain h1 (by rw [h2]; exact wpAny_pure (fin_bl I q h3))
  cases x with
  | ref a => cases rx; exact go rfl rfl rfl
  | non => cases rx; exact go rfl rfl rfl
  | bl a => cases (show v = Value.bool a from rx); cases a <;> cases b <;> exact go rfl rfl rfl
  | int i => obtain ⟨t, rfl⟩ := rx; exact go rfl rfl rfl
  | str x => obtain ⟨t, rfl⟩ := rx; exact go rfl rfl rfl
  | byt x => obtain ⟨t, rfl⟩ := rx; exact go rfl rfl rfl
  | flt x => obtain ⟨t, rfl⟩ := rx; exact go rfl rfl rfl
  | ty n => cases rx; exact go rfl rfl rfl
def kindS : Val → Str
  | .non => "null"
  | .bl b => if b then "true" else "false"
  | .int _ => "integer"
  | .str _ => "text"
  | .seq t _ => if t then "list" else "tuple"
  | .tab _ => "table"
def spKind (K : PySem.W.Frag) : Sp := fun vs H Q _ => ∃ x d G k, vs = [x] ∧ Same G H ∧ VAt (CT K) G k x d ∧ Q (.str (kindS d)) H
theorem ok_kind (T : Tx w K mg) : Gd P w K base mg CX0 1 (He.fAd K d_kind.at_) ["value"] [] (spKind K) := by
  refine mkGd (T.f_kind) sc_kind (fun vs H Q E h => ?_) (fun _ _ _ _ _ _ us hl => match us, hl with | [_], _ => rfl) (fun cdv A outer s H vs Q E hr h => ?_)
  · obtain ⟨x, d, G, k, rfl, _⟩ := h
    rfl
  · have hu := hu_of hr
    obtain ⟨x, d, G, k, rfl, g, hv, q⟩ := h
    refine ⟨_, (pss_cons (ps_if (pt_cmpR op_isN (pv 0) pe_non (nomark _)) (pss_one (ps_ret pe_str)) pss_nil)
      (pss_cons (ps_if (pt_cmpR op_isB (pv 0) pe_bl (nomark _)) (pss_one (ps_ret pe_str)) pss_nil)
      (pss_cons (ps_if (pt_cmpR op_isB (pv 0) pe_bl (nomark _)) (pss_one (ps_ret pe_str)) pss_nil)
      (pss_cons (ps_if (pt_val (pe_callB call_isi (by rfl) T.n_isinstance (by decide +kernel) (pa_cons (pv 0) (pa_cons (pe_bltn (v := .ty "str") (u := .type "str") (by rfl) T.n_str (by decide +kernel) rfl) pa_nil)))) (pss_one (ps_ret pe_str)) pss_nil)
      (pss_cons (ps_if (pt_val (pe_callB call_isi (by rfl) T.n_isinstance (by decide +kernel) (pa_cons (pv 0) (pa_cons (pe_bltn (v := .ty "list") (u := .type "list") (by rfl) T.n_list (by decide +kernel) rfl) pa_nil)))) (pss_one (ps_ret pe_str)) pss_nil)
      (pss_cons (ps_if (pt_val (pe_callB call_isi (by rfl) T.n_isinstance (by decide +kernel) (pa_cons (pv 0) (pa_cons (pe_bltn (v := .ty "tuple") (u := .type "tuple") (by rfl) T.n_tuple (by decide +kernel) rfl) pa_nil)))) (pss_one (ps_ret pe_str)) pss_nil)
      (pss_cons (ps_if (pt_val (pe_callB call_isi (by rfl) T.n_isinstance (by decide +kernel) (pa_cons (pv 0) (pa_cons (pe_glob (v := .ref (He.ga K "Table")) rfl T.g_Table rfl) pa_nil)))) (pss_one (ps_ret pe_str)) pss_nil)
      (pss_one (ps_ret pe_str))))))))), ?_⟩
    obtain ⟨t1, y1, k1⟩ := isi T "str" g hv
    obtain ⟨t2, y2, k2⟩ := isi T "list" g hv
    obtain ⟨t3, y3, k3⟩ := isi T "tuple" g hv
    obtain ⟨t4, y4, k4⟩ := isiC T g hv
    have fl : (∀ t l, d ≠ .seq t l) → (∀ es, d ≠ .tab es) → Rz.flat d = some x := fun n1 n2 => at_flat hv n1 n2
    cases d with
    | non =>
      have ex := Option.some.inj (fl (fun _ _ z => nomatch z) (fun _ z => nomatch z))
      subst ex
      exact ⟨_, rfl, rfl, _, rfl, iteT q⟩
    | bl b =>
      have ex := Option.some.inj (fl (fun _ _ z => nomatch z) (fun _ z => nomatch z))
      subst ex
      cases b with
      | true => exact ⟨_, rfl, rfl, _, rfl, iteF ⟨_, rfl, true, rfl, _, rfl, iteT q⟩⟩
      | false => exact ⟨_, rfl, rfl, _, rfl, iteF ⟨_, rfl, true, rfl, _, rfl, iteF ⟨_, rfl, false, rfl, _, rfl, iteT q⟩⟩⟩
    | int i =>
      have ex := Option.some.inj (fl (fun _ _ z => nomatch z) (fun _ z => nomatch z))
      subst ex
      exact ⟨_, rfl, rfl, _, rfl, iteF ⟨_, rfl, true, rfl, _, rfl, iteF ⟨_, rfl, false, rfl, _, rfl, iteF ⟨_, rfl, _, _, t1, _, _, rfl, .ty _, y1, k1, _, rfl, iteF ⟨_, rfl, _, _, t2, _, _, rfl, .ty _, y2, k2, _, rfl, iteF ⟨_, rfl, _, _, t3, _, _, rfl, .ty _, y3, k3, _, rfl, iteF ⟨_, rfl, _, _, t4, _, _, rfl, .own _, y4, k4, _, rfl, iteF q⟩⟩⟩⟩⟩⟩⟩
    | str z =>
      have ex := Option.some.inj (fl (fun _ _ z => nomatch z) (fun _ z => nomatch z))
      subst ex
      exact ⟨_, rfl, rfl, _, rfl, iteF ⟨_, rfl, true, rfl, _, rfl, iteF ⟨_, rfl, false, rfl, _, rfl, iteF ⟨_, rfl, _, _, t1, _, _, rfl, .ty _, y1, k1, _, rfl, iteT q⟩⟩⟩⟩
    | seq t l =>
      obtain ⟨j, a, xs, _, rfl, ha, _⟩ := at_list hv
      cases t with
      | true => exact ⟨_, rfl, rfl, _, rfl, iteF ⟨_, rfl, true, rfl, _, rfl, iteF ⟨_, rfl, false, rfl, _, rfl, iteF ⟨_, rfl, _, _, t1, _, _, rfl, .ty _, y1, k1, _, rfl, iteF ⟨_, rfl, _, _, t2, _, _, rfl, .ty _, y2, k2, _, rfl, iteT q⟩⟩⟩⟩⟩
      | false => exact ⟨_, rfl, rfl, _, rfl, iteF ⟨_, rfl, true, rfl, _, rfl, iteF ⟨_, rfl, false, rfl, _, rfl, iteF ⟨_, rfl, _, _, t1, _, _, rfl, .ty _, y1, k1, _, rfl, iteF ⟨_, rfl, _, _, t2, _, _, rfl, .ty _, y2, k2, _, rfl, iteF ⟨_, rfl, _, _, t3, _, _, rfl, .ty _, y3, k3, _, rfl, iteT q⟩⟩⟩⟩⟩⟩
    | tab es =>
      obtain ⟨j, p, dx, dd, od, kvs, _, rfl, hp, _⟩ := at_tab hv
      exact ⟨_, rfl, rfl, _, rfl, iteF ⟨_, rfl, true, rfl, _, rfl, iteF ⟨_, rfl, false, rfl, _, rfl, iteF ⟨_, rfl, _, _, t1, _, _, rfl, .ty _, y1, k1, _, rfl, iteF ⟨_, rfl, _, _, t2, _, _, rfl, .ty _, y2, k2, _, rfl, iteF ⟨_, rfl, _, _, t3, _, _, rfl, .ty _, y3, k3, _, rfl, iteF ⟨_, rfl, _, _, t4, _, _, rfl, .own _, y4, k4, _, rfl, iteT q⟩⟩⟩⟩⟩⟩⟩
def rNeP (K : PySem.W.Frag) : R2 := fun x y H Q => ∃ d e, Dp K H x d ∧ Dp K H y e ∧ d.plain = true ∧ e.plain = true ∧ d.depth ≤ 60 ∧ Q (.bl (!PyData.eqv d e)) H
theorem op_neP {X : Cx} (hu : X.A.units + 64 < cLine) : OpR X (compareOp .NotEq) (rNeP X.K) := by
  intro pins s σ H x y v u Q I rx ry h
  obtain ⟨d, e, hd, he, sd, se, hz, q⟩ := h
  obtain ⟨as, r1⟩ := Dp.reads I d x v hd rx
  obtain ⟨bs, r2⟩ := Dp.reads I e y u he ry
  exact SeqAt.ne_plain r1 r2 sd se (by omega) ⟨.bl _, H, I, rfl, q⟩
theorem for_enumB {b : Bool} {a : Addr} {xs : List V} {g : TG} {tb : TS} {D : Ends} {σ : L2.St} {H1 : Hp} (Pv : Nat → L2.St → Hp → Prop) (h0 : Pv 0 σ H1) (hl : ∀ i σ H, i ≤ xs.length → Pv i σ H → SqB K b H a xs)
    (hs : ∀ i x T σ H, xs[i]? = some x → Pv i σ H → H T = none → g (.ref T) σ (upd H T (.tup [.int (i : Nat), x])) fun σ2 H2 => tb { D with nx := Pv (i + 1), ct := Pv (i + 1), bk := D.nx } σ2 H2) (hd : ∀ σ H, Pv xs.length σ H → D.nx σ H) :
    ∃ W : Nat → Nat → L2.St → Hp → Prop, (∃ m, W 0 m σ H1) ∧ ∀ i m σ H, W i m σ H →
      ((IteB K b a).stop i H ∧ D.nx σ H) ∨ ((IteB K b a).go i H ∧ ∃ N : L2.St → Hp → Prop, (∀ σ' H', N σ' H' → ∃ m', m' < m ∧ W (i + 1) m' σ' H') ∧ ∀ x H', (IteB K b a).yld i H x H' → g x σ H' fun σ2 H2 => tb { D with nx := N, ct := N, bk := D.nx } σ2 H2) := by
  refine ⟨fun i m σ H => m = xs.length - i ∧ i ≤ xs.length ∧ Pv i σ H, ⟨xs.length, by simp, Nat.zero_le _, h0⟩, ?_⟩
  rintro i m σ H ⟨rfl, hi, p⟩
  have q := hl i σ H hi p
  by_cases hlt : i < xs.length
  · have next : ∀ σ' H', Pv (i + 1) σ' H' → ∃ m', m' < xs.length - i ∧ m' = xs.length - (i + 1) ∧ i + 1 ≤ xs.length ∧ Pv (i + 1) σ' H' := fun σ' H' p' => ⟨xs.length - (i + 1), by omega, rfl, hlt, p'⟩
    cases b with
    | true => exact .inr ⟨⟨xs, xs[i], q, by simp [hlt]⟩, Pv (i + 1), next, fun x H' ⟨T, y, e1, hT, e2, hy⟩ => by subst e1 e2; exact hs i y T σ H (hy xs q) p hT⟩
    | false => exact .inr ⟨⟨xs, xs[i], q, by simp [hlt]⟩, Pv (i + 1), next, fun x H' ⟨T, y, e1, hT, e2, hy⟩ => by subst e1 e2; exact hs i y T σ H (hy xs q) p hT⟩
  · have e : i = xs.length := by omega
    subst e
    cases b with
    | true => exact .inl ⟨⟨xs, q, Nat.le_refl _⟩, hd σ H p⟩
    | false => exact .inl ⟨⟨xs, q, Nat.le_refl _⟩, hd σ H p⟩
end
end Kt
set_option Elab.async false
set_option linter.all false
set_option maxRecDepth 100000
set_option maxHeartbeats 4000000
namespace Kt
open PySem PySem.Spec PyProof.Rows L2 Rz _root_.TL
section
variable {P : Program} {w : World} {K : PySem.W.Frag} {mg : Str → Option Value} {base : Heap}
def samPs : List Str := ["value", "other", "ordered"]
def spSame (K : PySem.W.Frag) (k : Nat) : Sp := fun vs H Q _ => ∃ (x y : V) (d e : Val), vs = [x, y, .bl true] ∧ VAt (CT K) H k x d ∧ VAt (CT K) H k y e ∧ Ok k d ∧ Ok k e ∧ ∀ (r : Bool) H', Same H H' → (r = true ↔ d = e) → Q (.bl r) H'
def spRows (K : PySem.W.Frag) (k : Nat) : Sp := fun vs H Q _ => ∃ (t t2 : Bool) (a b : Addr) (xs ys : List V) (l m : List Val), vs = [.ref a, .ref b, .bl true] ∧ SqB K t H a xs ∧ SqB K t2 H b ys ∧ Paired (VAt (CT K) H k) xs l ∧ Paired (VAt (CT K) H k) ys m ∧ (∀ x ∈ l, Ok k x) ∧ (∀ x ∈ m, Ok k x) ∧ ∀ (r : Bool) H', Same H H' → (r = true ↔ l = m) → Q (.bl r) H'
def spTabs (K : PySem.W.Frag) (k : Nat) : Sp := fun vs H Q _ => ∃ (x y : V) (es es2 : List (Key × Val)), vs = [x, y, .bl true] ∧ VAt (CT K) H (k + 1) x (.tab es) ∧ VAt (CT K) H (k + 1) y (.tab es2) ∧ okE k es ∧ okE k es2 ∧ ∀ (r : Bool) H', Same H H' → (r = true ↔ es = es2) → Q (.bl r) H'
/-- same, told for ordered = True, at most k deep -/
def SameOk (P : Program) (w : World) (K : PySem.W.Frag) (mg : Str → Option Value) (base : Heap) (lev : Nat) (sp : Sp) : Prop :=
  (∃ fd mv, FnOk P w K mg base CX0 lev (He.fAd K d_same.at_) fd samPs sp ∧ KBn K fd samPs 2 ["ordered"] (fun us ws => us ++ mv ++ ws) (fun vs zs => vs ++ [] ++ zs)) ∧ PySem.W.keepIn K (.ref (He.fAd K d_same.at_)) = true
theorem sqB_or {t : Bool} {H : Hp} {a : Addr} {xs : List V} (h : SqB K t H a xs) : SqL K H a xs ∨ SqT K H a xs := by
  cases t with
  | true => exact .inl h
  | false => exact .inr h
theorem ix_of {t : Bool} {H : Hp} {b : Addr} {ys : List V} {i : Nat} {y : V} {Q : VK} (h : SqB K t H b ys) (hy : ys[i]? = some y) (q : Q y H) : rIx K (.ref b) (.int (i : Nat)) H Q := by
  cases t with
  | true => exact .inl ⟨b, _, _, y, rfl, rfl, h, atI_nat hy, q⟩
  | false => exact .inr (.inl ⟨b, _, _, y, rfl, rfl, h, atI_nat hy, q⟩)
theorem ok_same_rows (T : Tx w K mg) (k lev : Nat) (F : SameOk P w K mg base lev (spSame K k)) : Gd P w K base mg CX0 (lev + 1) (He.fAd K d_same_rows.at_) ["value", "other", "ordered"] [] (spRows K k) := by
  obtain ⟨⟨fdS, mvS, F_same, hb_same⟩, kp_same⟩ := F
  refine mkGd (T.f_same_rows) sc_same_rows (fun vs H Q E h => ?_) (fun _ _ _ _ _ _ us hl => match us, hl with | [_, _, _], _ => rfl) (fun cdv A outer s H vs Q E hr h => ?_)
  · obtain ⟨t, t2, a, b, xs, ys, l, m, rfl, _⟩ := h
    rfl
  · have hu := hu_of hr
    obtain ⟨t, t2, a, b, xs, ys, l, m, rfl, ha, hb, hx, hy, okl, okm, q⟩ := h
    have h1 := Paired.length hx
    have h2 := Paired.length hy
    refine ⟨_, (pss_cons (ps_if (pt_cmpR op_ne (pe_callB call_len_seq (by rfl) T.n_len PySem.boot_len (pa_cons (pv 0) pa_nil)) (pe_callB call_len_seq (by rfl) T.n_len PySem.boot_len (pa_cons (pv 1) pa_nil)) (nomark _)) (pss_one (ps_ret pe_bl)) pss_nil)
      (pss_cons (ps_for PassesOwn.never rfl (pi_enumB (by rfl) T.n_enumerate (pa_cons (pv 0) pa_nil)) (pg_tup rfl (pgs_cons (pg_name (i := 3) sc_same_rows.nd rfl (Or.inl rfl)) (pgs_cons (pg_name (i := 4) sc_same_rows.nd rfl (Or.inl rfl)) pgs_nil)))
      (pss_one (ps_if (pt_not (pt_val (pe_callN F_same (hr.mono (by first | decide | omega)) rfl T.g_same kp_same hb_same pass0 (pa_cons (pv 4) (pa_cons (pe_ix (r := rIx K) ix_seq (pv 1) (pv 3) (fun _ _ => rfl)) pa_nil)) (pk_cons (pv 2) pk_nil)))) (pss_one (ps_ret pe_bl)) pss_nil)))
      (pss_one (ps_ret pe_bl)))), ?_⟩
    refine ⟨_, rfl, a, xs, rfl, sqB_or ha, _, rfl, b, ys, rfl, sqB_or hb, rfl, _, rfl, ?_⟩
    by_cases hl : xs.length = ys.length
    · refine ite2 (fun z => absurd z (by simp [hl])) (fun _ => ?_)
      refine ⟨_, rfl, t, a, xs, rfl, ha, for_enumB (fun i σ H' => (∃ u v, σ = [some (.ref a), some (.ref b), some (.bl true), u, v]) ∧ Same H H' ∧ l.take i = m.take i) ⟨⟨_, _, rfl⟩, Same.refl H, by rw [List.take_zero, List.take_zero]⟩ (fun i σ H' _ h => sqB_same h.2.1 ha) ?_ ?_⟩
      · rintro i x U σ H' hxi ⟨⟨u, v, rfl⟩, s1, htk⟩ hU
        obtain ⟨d, hd, hxd⟩ := Paired.at hx hxi
        have hi := lt_of_at hxi
        obtain ⟨y, hyi⟩ : ∃ y, ys[i]? = some y := ⟨_, List.getElem?_eq_getElem (by omega)⟩
        obtain ⟨e, he, hye⟩ := Paired.at hy hyi
        have nu := Same.nu (o := .tup [.int (i : Nat), x]) hU
        have s2 := s1.trans nu
        refine ⟨U, _, rfl, SqT.of upd_same, rfl, _, _, rfl, _, _, rfl, rfl, ?_⟩
        refine ⟨_, rfl, _, rfl, _, rfl, ix_of (sqB_same s2 hb) hyi ⟨_, rfl, rfl, rfl, x, y, d, e, rfl, VAt.same s2 hxd, VAt.same s2 hye, okl d (List.mem_of_getElem? hd), okm e (List.mem_of_getElem? he), fun r H3 s3 hr3 => ⟨_, rfl, ?_⟩⟩⟩
        cases r with
        | true =>
          refine iteF ⟨⟨_, _, rfl⟩, s2.trans s3, ?_⟩
          rw [take_snoc hd, take_snoc he, htk, hr3.mp rfl]
        | false =>
          refine iteT (q false H3 (s2.trans s3) ⟨fun z => (nomatch z), fun z => ?_⟩)
          subst z
          rw [hd] at he
          cases he
          exact absurd (hr3.mpr rfl) (by simp)
      · rintro σ H' ⟨⟨u, v, rfl⟩, s1, htk⟩
        rw [List.take_of_length_le (by omega), List.take_of_length_le (by omega)] at htk
        exact q true H' s1 ⟨fun _ => htk, fun _ => rfl⟩
    · refine ite2 (fun _ => q false H (Same.refl H) ⟨fun z => (nomatch z), fun z => absurd (by rw [z] at h1; omega) hl⟩) (fun z => absurd (by simp; omega) z)
end
end Kt
set_option Elab.async false
set_option linter.all false
set_option maxRecDepth 100000
set_option maxHeartbeats 4000000
namespace Kt
open PySem PySem.Spec PyProof.Rows L2 Rz _root_.TL
section
variable {P : Program} {w : World} {K : PySem.W.Frag} {mg : Str → Option Value} {base : Heap}
def keyD : Key → PyData
  | .inl i => .int i
  | .inr x => .str x
theorem keys_dp {H : Hp} : ∀ ks : List Key, DpAll K H (ks.map kV) (ks.map keyD)
  | [] => .nil
  | .inl i :: r => .cons (.int i) (keys_dp r)
  | .inr x :: r => .cons (.str x) (keys_dp r)
theorem keys_plain : ∀ ks : List Key, (PyData.list (ks.map keyD)).plain = true ∧ (PyData.list (ks.map keyD)).depth ≤ 60 := by
  have p : ∀ ks : List Key, PyData.plainAll (ks.map keyD) = true := fun ks => by
    induction ks with
    | nil => rfl
    | cons a r ih => cases a <;> simpa [PyData.plainAll, PyData.plain, keyD] using ih
  have dd : ∀ ks : List Key, PyData.depthAll (ks.map keyD) = 0 := fun ks => by
    induction ks with
    | nil => rfl
    | cons a r ih => cases a <;> simp [PyData.depthAll, PyData.depth, keyD, ih]
  intro ks
  exact ⟨p ks, by simp [PyData.depth, dd ks]⟩
theorem keys_eqv : ∀ (as bs : List Key), PyData.eqv (.list (as.map keyD)) (.list (bs.map keyD)) = decide (as = bs) := by
  have go : ∀ (as bs : List Key), PyData.eqvAll (as.map keyD) (bs.map keyD) = decide (as = bs) := fun as => by
    induction as with
    | nil => intro bs; cases bs <;> simp [PyData.eqvAll]
    | cons a r ih =>
      intro bs
      cases bs with
      | nil => simp [PyData.eqvAll]
      | cons b s =>
        cases a <;> cases b <;> simp [PyData.eqvAll, PyData.eqv, keyD, ih]
        all_goals
          congr 1
  intro as bs
  exact go as bs
theorem valV_at {kvs : List (Key × V)} {i : Nat} {kv : Key × V} (hn : (kvs.map (·.1)).Nodup) (h : kvs[i]? = some kv) : valV kvs kv.1 = some kv.2 := by
  induction kvs generalizing i with
  | nil => simp at h
  | cons a r ih =>
    rw [List.map_cons, List.nodup_cons] at hn
    cases i with
    | zero =>
      simp at h
      subst h
      exact valV_pos rfl
    | succ i =>
      have h : r[i]? = some kv := by simpa using h
      rw [valV_neg fun z => hn.1 (by rw [z]; exact List.mem_map.mpr ⟨kv, List.mem_of_getElem? h, rfl⟩)]
      exact ih hn.2 h
theorem tab_eq {l m : List (Key × Val)} (h1 : l.map (·.1) = m.map (·.1)) (h2 : l.map (·.2) = m.map (·.2)) : l = m := by
  induction l generalizing m with
  | nil => cases m with
    | nil => rfl
    | cons b s => simp at h1
  | cons a r ih => cases m with
    | nil => simp at h1
    | cons b s =>
      obtain ⟨a1, a2⟩ := a
      obtain ⟨b1, b2⟩ := b
      simp only [List.map_cons, List.cons.injEq] at h1 h2
      rw [ih h1.2 h2.2, h1.1, h2.1]
theorem ok_same_tables (T : Tx w K mg) (k lev : Nat) (F : SameOk P w K mg base lev (spSame K k)) : Gd P w K base mg CX0 (lev + 1) (He.fAd K d_same_tables.at_) ["value", "other", "ordered"] [] (spTabs K k) := by
  obtain ⟨⟨fdS, mvS, F_same, hb_same⟩, kp_same⟩ := F
  refine mkGd (T.f_same_tables) sc_same_tables (fun vs H Q E h => ?_) (fun _ _ _ _ _ _ us hl => match us, hl with | [_, _, _], _ => rfl) (fun cdv A outer s H vs Q E hr h => ?_)
  · obtain ⟨x, y, es, es2, rfl, _⟩ := h
    rfl
  · have hu := hu_of hr
    obtain ⟨x, y, es, es2, rfl, hx, hy, ⟨h4, hnd, hok⟩, ⟨g4, gnd, gok⟩, q⟩ := h
    obtain ⟨j, p, dx, d, od, kvs, ej, rfl, hp, hd, hpr⟩ := at_tab hx
    cases ej
    obtain ⟨j, p2, dx2, d2, od2, kvs2, ej, rfl, hp2, hd2, hpr2⟩ := at_tab hy
    cases ej
    have hk1 := paired_keys (fun _ _ z => z.1) hpr
    have hk2 := paired_keys (fun _ _ z => z.1) hpr2
    have l1 := Paired.length hpr
    have l2 := Paired.length hpr2
    refine ⟨_, (pss_cons (ps_if (pt_cmpR op_ne (pe_callB call_lenDf (by rfl) T.n_len PySem.boot_len (pa_cons (pe_fld (pv 0) rfl) pa_nil)) (pe_callB call_lenDf (by rfl) T.n_len PySem.boot_len (pa_cons (pe_fld (pv 1) rfl) pa_nil)) (nomark _)) (pss_one (ps_ret pe_bl)) pss_nil)
      (pss_cons (ps_if (PW.pt (pw_and (pt_val (pv 2)) (pw_and1 (pt_cmpR (op_neP hr.units) (pe_callTy (call_listD rfl) (by rfl) T.n_list (by decide +kernel) (pa_cons (pe_fld (pv 0) rfl) pa_nil)) (pe_callTy (call_listD rfl) (by rfl) T.n_list (by decide +kernel) (pa_cons (pe_fld (pv 1) rfl) pa_nil)) (nomark _))))) (pss_one (ps_ret pe_bl)) pss_nil)
      (pss_cons (ps_for PassesOwn.never rfl (pi_items (pe_fld (pv 0) rfl)) (pg_tup rfl (pgs_cons (pg_name (i := 3) sc_same_tables.nd rfl (Or.inl rfl)) (pgs_cons (pg_name (i := 4) sc_same_tables.nd rfl (Or.inl rfl)) pgs_nil)))
      (pss_one (ps_if (PW.pt (pw_or (pt_cmp (pc_dnotin hu (pv 3) (pe_fld (pv 1) rfl))) (pw_or1 (pt_not (pt_val (pe_callN F_same (hr.mono (by first | decide | omega)) rfl T.g_same kp_same hb_same pass0 (pa_cons (pv 4) (pa_cons (pe_dget hu (pe_fld (pv 1) rfl) (pv 3) (fun _ _ => rfl)) pa_nil)) (pk_cons (pv 2) pk_nil))))))) (pss_one (ps_ret pe_bl)) pss_nil)))
      (pss_one (ps_ret pe_bl))))), ?_⟩
    refine ⟨_, rfl, p, _, _, _, _, rfl, hp, T.cl_Table, T.a_Table_held, rfl, d, kvs, rfl, .inr ⟨od, hd⟩, _, rfl, p2, _, _, _, _, rfl, hp2, T.cl_Table, T.a_Table_held, rfl, d2, kvs2, rfl, .inr ⟨od2, hd2⟩, rfl, _, rfl, ?_⟩
    by_cases hl : kvs.length = kvs2.length
    · refine ite2 (fun z => absurd z (by simp [hl])) (fun _ => ?_)
      refine ⟨_, rfl, _, rfl, iteT ?_⟩
      refine ⟨_, rfl, p, _, _, _, _, rfl, hp, T.cl_Table, T.a_Table_held, rfl, d, kvs, rfl, .inr ⟨od, hd⟩, fun q1 hq1 => ?_⟩
      have n1 := Same.nu (o := .lst (kvs.map fun kv => kV kv.1)) hq1
      refine ⟨_, rfl, p2, _, _, _, _, rfl, n1 _ _ hp2, T.cl_Table, T.a_Table_held, rfl, d2, kvs2, rfl, .inr ⟨od2, n1 _ _ hd2⟩, fun q2 hq2 => ?_⟩
      have n2 := Same.nu (o := .lst (kvs2.map fun kv => kV kv.1)) hq2
      have e1 : (kvs.map fun kv => kV kv.1) = (es.map (·.1)).map kV := by rw [← hk1, List.map_map]; rfl
      have e2 : (kvs2.map fun kv => kV kv.1) = (es2.map (·.1)).map kV := by rw [← hk2, List.map_map]; rfl
      refine ⟨.list ((es.map (·.1)).map keyD), .list ((es2.map (·.1)).map keyD), .lst (SqL.of (by rw [n2 _ _ upd_same])) (by rw [e1]; exact keys_dp _), .lst (SqL.of upd_same) (by rw [e2]; exact keys_dp _), (keys_plain _).1, (keys_plain _).1, (keys_plain _).2, _, rfl, ?_⟩
      rw [keys_eqv]
      by_cases hk : es.map (·.1) = es2.map (·.1)
      · rw [decide_eq_true hk]
        have s0 := n1.trans n2
        generalize upd (upd H q1 _) q2 _ = H2 at s0 ⊢
        refine iteF ⟨_, rfl, p, _, _, _, _, rfl, s0 _ _ hp, T.cl_Table, T.a_Table_held, rfl, d, od, kvs, rfl, s0 _ _ hd, for_it walk_items (fun i σ H' => (∃ u v, σ = [some (.ref p), some (.ref p2), some (.bl true), u, v]) ∧ Same H H' ∧ (es.take i).map (·.2) = (es2.take i).map (·.2)) ⟨⟨_, _, rfl⟩, s0, by rw [List.take_zero, List.take_zero]⟩ (fun i σ H' _ h => h.2.1 _ _ hd) ?_ ?_⟩
        · rintro i x σ H1 H3 hi ⟨⟨u, v, rfl⟩, s1, htk⟩ ⟨t, x1, x2, rfl, ht, rfl, e1, e2⟩
          dsimp only at e1 e2
          cases ekv : kvs[i]? with
          | none => rw [ekv] at e1; cases e1
          | some kv =>
          rw [ekv] at e1 e2
          cases e1
          cases e2
          obtain ⟨e, he, hke, hve⟩ := Paired.at hpr ekv
          have hi2 := lt_of_at ekv
          obtain ⟨kv2, hkv2⟩ : ∃ kv2, kvs2[i]? = some kv2 := ⟨_, List.getElem?_eq_getElem (by omega)⟩
          obtain ⟨e', he', hke', hve'⟩ := Paired.at hpr2 hkv2
          have ekk : e'.1 = e.1 := by
            have z1 : (es.map (·.1))[i]? = some e.1 := by rw [List.getElem?_map, he]; rfl
            have z2 : (es2.map (·.1))[i]? = some e'.1 := by rw [List.getElem?_map, he']; rfl
            rw [hk, z2] at z1
            exact Option.some.inj z1
          have vv : valV kvs2 kv.1 = some kv2.2 := by
            have := valV_at (by rw [hk2]; exact gnd) hkv2
            rw [hke', ekk, ← hke] at this
            exact this
          have nt := Same.nu (o := .tup [kV kv.1, kv.2]) ht
          have s2 := s1.trans nt
          refine ⟨t, _, rfl, SqT.of upd_same, rfl, _, _, rfl, _, _, rfl, rfl, ?_⟩
          have hdg : ∀ H4, Same H H4 → DGet H4 d2 (kV kv.1) (some kv2.2) := fun H4 s4 => .inl ⟨kvs2, kv.1, .inr ⟨od2, s4 _ _ hd2⟩, rfl, vv.symm⟩
          refine ⟨_, rfl, _, rfl, p2, _, _, _, _, rfl, s2 _ _ hp2, T.cl_Table, T.a_Table_held, rfl, d2, _, rfl, hdg _ s2, _, rfl, iteF ?_⟩
          refine ⟨_, rfl, _, rfl, p2, _, _, _, _, rfl, s2 _ _ hp2, T.cl_Table, T.a_Table_held, rfl, _, rfl, d2, _, rfl, hdg _ s2, _, rfl, rfl, rfl, kv.2, kv2.2, e.2, e'.2, rfl, VAt.same s2 hve, VAt.same s2 hve', (hok e (List.mem_of_getElem? he)).2, (gok e' (List.mem_of_getElem? he')).2, fun r H5 s5 hr5 => ⟨_, rfl, ?_⟩⟩
          cases r with
          | true =>
            refine iteF ⟨⟨_, _, rfl⟩, s2.trans s5, ?_⟩
            rw [take_snoc he, take_snoc he', List.map_append, List.map_append, htk]
            simp only [List.map_cons, List.map_nil]
            rw [hr5.mp rfl]
          | false =>
            refine iteT (q false H5 (s2.trans s5) ⟨fun z => (nomatch z), fun z => ?_⟩)
            subst z
            rw [he] at he'
            cases he'
            exact absurd (hr5.mpr rfl) (by simp)
        · rintro σ H' ⟨⟨u, v, rfl⟩, s1, htk⟩
          rw [List.take_of_length_le (by omega), List.take_of_length_le (by omega)] at htk
          exact q true H' s1 ⟨fun _ => tab_eq hk htk, fun _ => rfl⟩
      · rw [decide_eq_false hk]
        exact iteT (q false _ (n1.trans n2) ⟨fun z => (nomatch z), fun z => absurd (by rw [z]) hk⟩)
    · refine ite2 (fun _ => q false H (Same.refl H) ⟨fun z => (nomatch z), fun z => absurd (by rw [z] at l1; omega) hl⟩) (fun z => absurd (by simp; omega) z)
def kindN : Val → Nat
  | .non => 0
  | .bl b => if b then 1 else 2
  | .int _ => 3
  | .str _ => 4
  | .seq t _ => if t then 5 else 6
  | .tab _ => 7
def kN (i : Nat) : Str := (["null", "true", "false", "integer", "text", "list", "tuple", "table"] : List Str).getD i ""
theorem kN_inj : ∀ i < 8, ∀ j < 8, kN i = kN j → i = j := by decide +kernel
theorem kind_n (d : Val) : kindS d = kN (kindN d) ∧ kindN d < 8 := by
  cases d with
  | bl b => cases b <;> exact ⟨rfl, by decide⟩
  | seq t l => cases t <;> exact ⟨rfl, by simp [kindN]⟩
  | _ => exact ⟨rfl, by simp [kindN]⟩
theorem kind_eq {d e : Val} (h : kindS d = kindS e) : kindN d = kindN e := by
  obtain ⟨h1, h2⟩ := kind_n d
  obtain ⟨h3, h4⟩ := kind_n e
  rw [h1, h3] at h
  exact kN_inj _ h2 _ h4 h
theorem flat_same {d e : Val} {x y : V} (hx : Rz.flat d = some x) (hy : Rz.flat e = some y) (hk : kindS d = kindS e) : scal x y = true ∧ (decide (x = y) = true ↔ d = e) := by
  have hn := kind_eq hk
  cases d <;> cases hx <;> cases e <;> cases hy <;> first
    | exact ⟨rfl, by simp⟩
    | (exfalso; simp [kindN] at hn; done)
    | (exfalso; rename_i b; cases b <;> simp [kindN] at hn; done)
    | (exfalso; rename_i b _; cases b <;> simp [kindN] at hn; done)
theorem st_same (T : Tx w K mg) (k lev : Nat) (G_same_rows : Gd P w K base mg CX0 lev (He.fAd K d_same_rows.at_) ["value", "other", "ordered"] [] (prv (spRows K) k)) (G_same_tables : Gd P w K base mg CX0 lev (He.fAd K d_same_tables.at_) ["value", "other", "ordered"] [] (prv (spTabs K) k)) (hlev : 1 ≤ lev) :
    SameOk P w K mg base (lev + 1) (spSame K k) := by
  have G_kind := ok_kind (P := P) (w := w) (base := base) T
  obtain ⟨fd, F⟩ := T.f_same
  obtain ⟨mv, hk⟩ := F.kbinds0 (ps := samPs) 2 ["ordered"] [] (fun a b c => a ++ b ++ c) (fun z => by cases z) (fun _ z => nomatch z) (fun r1 r2 r3 => Vals.append (Vals.append r1 r2) r3) (fun D doc pm an cdv ct us mv ws l1 l2 l3 => by
    match us, mv, ws, l1, l2, l3 with
    | [_, _], [], [_], _, _, _ => rfl)
  refine ⟨⟨fd, mv, F.ok sc_same (fun vs H Q E h => ?_) fun cdv A outer s H vs Q E hr h => ?_, hk⟩, F.kp⟩
  · obtain ⟨x, y, d, e, rfl, _⟩ := h
    rfl
  · have hu := hu_of hr
    obtain ⟨x, y, d, e, rfl, hx, hy, okd, oke, q⟩ := h
    refine ⟨_, PSs.nox (pss_cons (ps_if (pt_cmpR op_ne (pe_callG G_kind T.g_kind (hr.mono (by first | decide | omega)) pass0 (pa_cons (pv 0) pa_nil)) (pe_callG G_kind T.g_kind (hr.mono (by first | decide | omega)) pass0 (pa_cons (pv 1) pa_nil)) (nomark _)) (pss_one (ps_ret pe_bl)) pss_nil)
      (pss_cons (ps_if (pt_val (pe_callB call_isi (by rfl) T.n_isinstance (by decide +kernel) (pa_cons (pv 0) (pa_cons (pe_glob (v := .ref (He.ga K "Table")) rfl T.g_Table rfl) pa_nil)))) (pss_one (ps_ret (pe_callG G_same_tables T.g_same_tables (hr.mono (by first | decide | omega)) pass0 (pa_cons (pv 0) (pa_cons (pv 1) (pa_cons (pv 2) pa_nil)))))) pss_nil)
      (pss_cons (ps_if (pt_val (pe_callB call_isiT (by rfl) T.n_isinstance (by decide +kernel) (pa_cons (pv 0) (pa_cons (pe_tup (pa_cons (pe_bltn (v := .ty "list") (u := .type "list") (by rfl) T.n_list (by decide +kernel) rfl) (pa_cons (pe_bltn (v := .ty "tuple") (u := .type "tuple") (by rfl) T.n_tuple (by decide +kernel) rfl) pa_nil))) pa_nil)))) (pss_one (ps_ret (pe_callG G_same_rows T.g_same_rows (hr.mono (by first | decide | omega)) pass0 (pa_cons (pv 0) (pa_cons (pv 1) (pa_cons (pv 2) pa_nil)))))) pss_nil)
      (pss_one (ps_ret (pe_cmpR op_eq (pv 0) (pv 1) (nomark _))))))), ?_⟩
    refine ⟨_, rfl, x, d, H, k, rfl, Same.refl H, hx, _, rfl, y, e, H, k, rfl, Same.refl H, hy, rfl, _, rfl, ?_⟩
    obtain ⟨t1, y1, k1⟩ := isiC T (Same.refl H) hx
    by_cases hkd : kindS d = kindS e
    · refine ite2 (fun z => absurd z (by simp [hkd])) (fun _ => ?_)
      refine ⟨_, rfl, x, _, t1, _, _, rfl, .own _, y1, k1, _, rfl, ?_⟩
      have leaf : (∀ t l, d ≠ .seq t l) → (∀ es, d ≠ .tab es) → (∀ t l, e ≠ .seq t l) → (∀ es, e ≠ .tab es) → ∀ H', Same H H' → scal x y = true ∧ Q (.bl (decide (x = y))) H' := fun n1 n2 n3 n4 H' s' => by
        obtain ⟨z1, z2⟩ := flat_same (at_flat hx n1 n2) (at_flat hy n3 n4) hkd
        exact ⟨z1, q _ H' s' z2⟩
      have tail : (∀ t l, d ≠ .seq t l) → (∀ es, d ≠ .tab es) → (∀ t l, e ≠ .seq t l) → (∀ es, e ≠ .tab es) → (isT "list" d || isT "tuple" d) = false → ∀ q1, H q1 = none → ∃ t3, TyX K (upd H q1 (.tup [.ty "list", .ty "tuple"])) x t3 ∧ PySem.W.kitAny K t3 [.type "list", .type "tuple"] = some false := fun _ _ _ _ hf q1 hq1 => by
        obtain ⟨t3, y3, k3⟩ := isiLT T (Same.nu (o := .tup [.ty "list", .ty "tuple"]) hq1) hx
        exact ⟨t3, y3, by rw [k3, hf]⟩
      have hn := kind_eq hkd
      have sk : ∀ t l, kindN (.seq t l) = kindN e → ∃ m, e = .seq t m := fun t l h => by
        cases e with
        | seq t2 m => cases t <;> cases t2 <;> first | exact ⟨_, rfl⟩ | (exfalso; simp [kindN] at h; done)
        | bl b => exfalso; cases t <;> cases b <;> simp [kindN] at h
        | _ => exfalso; cases t <;> simp [kindN] at h
      have tkd : ∀ es, kindN (.tab es) = kindN e → ∃ es2, e = .tab es2 := fun es h => by
        cases e with
        | tab es2 => exact ⟨_, rfl⟩
        | seq t2 m => exfalso; cases t2 <;> simp [kindN] at h
        | bl b => exfalso; cases b <;> simp [kindN] at h
        | _ => exfalso; simp [kindN] at h
      have n34 : kindN d < 5 → (∀ t l, e ≠ .seq t l) ∧ ∀ es, e ≠ .tab es := fun h => by
        rw [hn] at h
        exact ⟨fun t l z => by rw [z] at h; cases t <;> simp [kindN] at h, fun es z => by rw [z] at h; simp [kindN] at h⟩
      cases d with
      | tab es =>
        obtain ⟨es2, rfl⟩ := tkd es hn
        obtain ⟨j, _, _, _, _, _, rfl, _⟩ := at_tab hx
        exact iteT ⟨_, rfl, _, rfl, _, rfl, x, y, es, es2, rfl, hx, hy, ok_tab okd, ok_tab oke, fun r H' s' hr' => q r H' s' (hr'.trans ⟨fun z => by rw [z], fun z => by cases z; rfl⟩)⟩
      | seq t l =>
        obtain ⟨m, rfl⟩ := sk t l hn
        obtain ⟨j, a, xs, rfl, rfl, ha, hxs⟩ := at_list hx
        obtain ⟨j2, b, ys, ej, rfl, hb, hys⟩ := at_list hy
        cases ej
        rw [show (tyS (Val.seq t l) == "Table") = false by cases t <;> rfl]
        refine iteF ⟨_, rfl, (by show 2 ≤ sizeLine; decide), fun q1 hq1 => ?_⟩
        have nu := Same.nu (o := .tup [.ty "list", .ty "tuple"]) hq1
        obtain ⟨t3, y3, k3⟩ := isiLT T nu hx
        rw [show (isT "list" (.seq t l) || isT "tuple" (.seq t l)) = true by cases t <;> rfl] at k3
        exact ⟨_, q1, _, t3, _, _, rfl, upd_same, .cons (.ty _) (.cons (.ty _) .nil), y3, k3, _, rfl, iteT ⟨_, rfl, _, rfl, _, rfl, t, t, a, b, xs, ys, l, m, rfl, sqB_of (nu _ _ ha), sqB_of (nu _ _ hb), Paired.mapP hxs fun _ _ h => VAt.same nu h, Paired.mapP hys fun _ _ h => VAt.same nu h, (ok_list okd).2, (ok_list oke).2,
          fun r H' s' hr' => q r H' (nu.trans s') (hr'.trans ⟨fun z => by rw [z], fun z => by cases z; rfl⟩)⟩⟩
      | non =>
        obtain ⟨n3, n4⟩ := n34 (by decide)
        refine iteF ⟨_, rfl, (by show 2 ≤ sizeLine; decide), fun q1 hq1 => ?_⟩
        obtain ⟨t3, y3, k3⟩ := tail (fun _ _ z => nomatch z) (fun _ z => nomatch z) n3 n4 rfl q1 hq1
        obtain ⟨z1, z2⟩ := leaf (fun _ _ z => nomatch z) (fun _ z => nomatch z) n3 n4 _ (Same.nu (o := .tup [.ty "list", .ty "tuple"]) hq1)
        exact ⟨_, q1, _, t3, _, _, rfl, upd_same, .cons (.ty _) (.cons (.ty _) .nil), y3, k3, _, rfl, iteF ⟨_, rfl, _, rfl, z1, z2⟩⟩
      | bl b0 =>
        obtain ⟨n3, n4⟩ := n34 (by cases b0 <;> decide)
        refine iteF ⟨_, rfl, (by show 2 ≤ sizeLine; decide), fun q1 hq1 => ?_⟩
        obtain ⟨t3, y3, k3⟩ := tail (fun _ _ z => nomatch z) (fun _ z => nomatch z) n3 n4 rfl q1 hq1
        obtain ⟨z1, z2⟩ := leaf (fun _ _ z => nomatch z) (fun _ z => nomatch z) n3 n4 _ (Same.nu (o := .tup [.ty "list", .ty "tuple"]) hq1)
        exact ⟨_, q1, _, t3, _, _, rfl, upd_same, .cons (.ty _) (.cons (.ty _) .nil), y3, k3, _, rfl, iteF ⟨_, rfl, _, rfl, z1, z2⟩⟩
      | int i0 =>
        obtain ⟨n3, n4⟩ := n34 (by show 3 < 5; decide)
        refine iteF ⟨_, rfl, (by show 2 ≤ sizeLine; decide), fun q1 hq1 => ?_⟩
        obtain ⟨t3, y3, k3⟩ := tail (fun _ _ z => nomatch z) (fun _ z => nomatch z) n3 n4 rfl q1 hq1
        obtain ⟨z1, z2⟩ := leaf (fun _ _ z => nomatch z) (fun _ z => nomatch z) n3 n4 _ (Same.nu (o := .tup [.ty "list", .ty "tuple"]) hq1)
        exact ⟨_, q1, _, t3, _, _, rfl, upd_same, .cons (.ty _) (.cons (.ty _) .nil), y3, k3, _, rfl, iteF ⟨_, rfl, _, rfl, z1, z2⟩⟩
      | str s0 =>
        obtain ⟨n3, n4⟩ := n34 (by show 4 < 5; decide)
        refine iteF ⟨_, rfl, (by show 2 ≤ sizeLine; decide), fun q1 hq1 => ?_⟩
        obtain ⟨t3, y3, k3⟩ := tail (fun _ _ z => nomatch z) (fun _ z => nomatch z) n3 n4 rfl q1 hq1
        obtain ⟨z1, z2⟩ := leaf (fun _ _ z => nomatch z) (fun _ z => nomatch z) n3 n4 _ (Same.nu (o := .tup [.ty "list", .ty "tuple"]) hq1)
        exact ⟨_, q1, _, t3, _, _, rfl, upd_same, .cons (.ty _) (.cons (.ty _) .nil), y3, k3, _, rfl, iteF ⟨_, rfl, _, rfl, z1, z2⟩⟩
    · exact ite2 (fun _ => q false H (Same.refl H) ⟨fun z => (nomatch z), fun z => absurd (by rw [z]) hkd⟩) (fun z => absurd (by simp [hkd]) z)
theorem ok_same (T : Tx w K mg) : ∀ k, SameOk P w K mg base (2 * k + 3) (spSame K k)
  | 0 => st_same T 0 2 (mkGdF (T.f_same_rows) sc_same_rows (fun _ _ _ _ _ _ us hl => match us, hl with | [_, _, _], _ => rfl) _) (mkGdF (T.f_same_tables) sc_same_tables (fun _ _ _ _ _ _ us hl => match us, hl with | [_, _, _], _ => rfl) _) (by decide)
  | k + 1 => st_same T (k + 1) (2 * k + 4) (ok_same_rows T k _ (ok_same T k)) (ok_same_tables T k _ (ok_same T k)) (by omega)
end
end Kt
set_option Elab.async false
set_option linter.all false
set_option maxRecDepth 100000
set_option maxHeartbeats 4000000
namespace Kt
open PySem PySem.Spec PyProof.Rows L2 Rz _root_.TL
section
variable {P : Program} {w : World} {K : PySem.W.Frag} {mg : Str → Option Value} {base : Heap}
def offK (es : List (Key × Val)) (y : Key) : Bool := !(es.any fun x => decide (x.1 = y))
theorem offK_t {es : List (Key × Val)} {y : Key} : offK es y = true ↔ y ∉ es.map (·.1) := by
  unfold offK
  rw [Bool.not_eq_true', ← Bool.not_eq_true, anyK]
theorem offK_f {es : List (Key × Val)} {y : Key} : offK es y = false ↔ y ∈ es.map (·.1) := by
  unfold offK
  rw [Bool.not_eq_false', anyK]
def spLen (K : PySem.W.Frag) : Sp := fun vs H Q _ => ∃ (x : V) (k : Nat) (es : List (Key × Val)), vs = [x] ∧ VAt (CT K) H (k + 1) x (.tab es) ∧ Q (.int es.length) H
theorem ok_Table___len__ (T : Tx w K mg) : Gd P w K base mg CX0 1 (He.fAd K d_Table___len__.at_) ["self"] [] (spLen K) := by
  refine mkGd (T.f_Table___len__) sc_Table___len__ (fun vs H Q E h => ?_) (fun _ _ _ _ _ _ us hl => match us, hl with | [_], _ => rfl) (fun cdv A outer s H vs Q E hr h => ?_)
  · obtain ⟨x, k, es, rfl, _⟩ := h
    rfl
  · have hu := hu_of hr
    obtain ⟨x, k, es, rfl, hv, q⟩ := h
    obtain ⟨j, p, dx, d, od, kvs, ej, rfl, hp, hd, hpr⟩ := at_tab hv
    refine ⟨_, (pss_one (ps_ret (pe_callB call_lenDf (by rfl) T.n_len PySem.boot_len (pa_cons (pe_fld (pv 0) rfl) pa_nil)))), ?_⟩
    rw [← Paired.length hpr] at q
    exact ⟨_, rfl, p, _, _, _, _, rfl, hp, T.cl_Table, T.a_Table_held, rfl, d, kvs, rfl, .inr ⟨od, hd⟩, q⟩
theorem val_paired {R : V → Val → Prop} {key : Key} {v : V} : ∀ {kvs : List (Key × V)} {es : List (Key × Val)}, Paired (fun a b => a.1 = b.1 ∧ R a.2 b.2) kvs es → valV kvs key = some v → ∃ e ∈ es, e.1 = key ∧ R v e.2
  | _, _, .nil, h => by cases h
  | _, _, .cons (a := a) (b := b) h t, hv => by
    by_cases e : a.1 = key
    · rw [valV_pos e] at hv
      cases hv
      exact ⟨b, List.mem_cons_self, h.1.symm.trans e, h.2⟩
    · rw [valV_neg e] at hv
      obtain ⟨e', h1, h2⟩ := val_paired t hv
      exact ⟨e', List.mem_cons_of_mem _ h1, h2⟩
def spOr (K : PySem.W.Frag) (k : Nat) : Sp := fun vs H Q _ => ∃ (x y : V) (es es2 : List (Key × Val)), vs = [x, y] ∧ VAt (CT K) H (k + 1) x (.tab es) ∧ VAt (CT K) H (k + 1) y (.tab es2) ∧ okE k es ∧ okE k es2 ∧ es.length + es2.length ≤ 4 ∧
  ∀ H' z es3, Same H H' → VAt (CT K) H' (k + 1) z (.tab es3) → okE k es3 → Q z H'
theorem ok_Table_or (T : Tx w K mg) (k : Nat) : Gd P w K base mg CX0 (k + 4) (He.fAd K d_Table___or__.at_) ["self", "other"] [] (spOr K k) := by
  have G_Table_init := ok_Table_init (P := P) (w := w) (base := base) T k
  refine mkGd (T.f_Table___or__) sc_Table___or__ (fun vs H Q E h => ?_) (fun _ _ _ _ _ _ us hl => match us, hl with | [_, _], _ => rfl) (fun cdv A outer s H vs Q E hr h => ?_)
  · obtain ⟨x, y, es, es2, rfl, _⟩ := h
    rfl
  · have hu := hu_of hr
    obtain ⟨x, y, es, es2, rfl, hx, hy, ⟨h4, hnd, hok⟩, ⟨g4, gnd, gok⟩, hll, q⟩ := h
    obtain ⟨j, p, dx, d, od, kvs, ej, rfl, hp, hd, hpr⟩ := at_tab hx
    cases ej
    obtain ⟨j, p2, dx2, d2, od2, kvs2, ej, rfl, hp2, hd2, hpr2⟩ := at_tab hy
    cases ej
    have hk1 := paired_keys (fun _ _ z => z.1) hpr
    have hk2 := paired_keys (fun _ _ z => z.1) hpr2
    have l1 := Paired.length hpr
    have l2 := Paired.length hpr2
    refine ⟨_, (pss_cons (ps_setLc (i := 3) (own := [("key", 2)]) (g := gName 2) (tt := tYes) rfl sc_Table___or__.nd rfl rfl (sw_true rfl rfl rfl (by decide +kernel)) (pi_keys (show PE _ _ (tFld K (tVar 0) "held") from (pe_fld (pv 0) rfl))) (blkOk_by (own := [("key", 2)]) (N := N_Table___or__) (sc := defScope s_Table___or__) (by decide +kernel)) (fun _ _ _ _ _ => (pg_name (i := 2) sc_Table___or__.nd rfl (Or.inl rfl))) (fun _ _ _ _ _ => pts_nil) (fun _ _ _ _ _ => (pe_tup (pa_cons (pv 2) (pa_cons (pe_ifExp (pt_cmp (pc_din hu (pv 2) (show PE _ _ (tFld K (tVar 1) "held") from (pe_fld (pv 1) rfl)))) (pe_dget hu (show PE _ _ (tFld K (tVar 1) "held") from (pe_fld (pv 1) rfl)) (pv 2) (fun _ _ => rfl)) (pe_dget hu (show PE _ _ (tFld K (tVar 0) "held") from (pe_fld (pv 0) rfl)) (pv 2) (fun _ _ => rfl))) pa_nil)))))
      (pss_cons (ps_setLc (i := 5) (own := [("key", 2), ("item", 4)]) (g := gTup K 2 (gCons (gName 2) (gCons (gName 4) gNil))) rfl sc_Table___or__.nd rfl rfl (sw_true rfl rfl rfl (by decide +kernel)) (pi_items (show PE _ _ (tFld K (tVar 1) "held") from (pe_fld (pv 1) rfl))) (blkOk_by (own := [("key", 2), ("item", 4)]) (N := N_Table___or__) (sc := defScope s_Table___or__) (by decide +kernel)) (fun _ _ _ _ _ => (pg_tup rfl (pgs_cons (pg_name (i := 2) sc_Table___or__.nd rfl (Or.inl rfl)) (pgs_cons (pg_name (i := 4) sc_Table___or__.nd rfl (Or.inl rfl)) pgs_nil)))) (fun _ _ _ _ _ => pts_one (pt_cmp (pc_dnotin hu (pv 2) (show PE _ _ (tFld K (tVar 0) "held") from (pe_fld (pv 0) rfl))))) (fun _ _ _ _ _ => (pe_tup (pa_cons (pv 2) (pa_cons (pv 4) pa_nil)))))
      (pss_one (ps_ret (pe_makeG T.mk_Table G_Table_init (hr.mono (by first | decide | omega)) T.g_Table pass0 (pa_cons (pe_op op_cat (pv 3) (pv 5)) pa_nil)))))), ?_⟩
    have c0 : ∀ {H' : Hp} {D : Addr} {v : V} {e : Val}, H D = none → Same H H' → VAt (CT K) H k v e → VAt (CT K) (cut H' [D]) k v e := fun hD s1 hv => VAt.same (fun b o hb => cut_add (ps := []) hD s1 b o (by rw [cut_nil]; exact hb)) hv
    refine ⟨_, rfl, p, _, _, _, _, rfl, hp, T.cl_Table, T.a_Table_held, rfl, d, od, rfl, .inl ⟨kvs, hd, fun D hD => lc_it walk_keys
      (fun i H' => Same H H' ∧ ∃ ts fs, H' D = some (.lst ts) ∧ Paired (EntAt K H' [D] k) ts fs ∧ fs.map (·.1) = (es.take i).map (·.1) ∧ ∀ e ∈ fs, okK e.1 ∧ Ok k e.2) ?_ ?_ ?_ ?_⟩⟩
    · exact ⟨Same.nu hD, [], [], upd_same, .nil, by rw [List.take_zero], fun _ h => nomatch h⟩
    · rintro i H' _ ⟨s1, _⟩
      exact s1 _ _ hd
    · rintro i x H1 H2 hi ⟨s1, ts, fs, hts, hpt, hfk, hfo⟩ ⟨rfl, key, v, ekv, rfl⟩
      obtain ⟨e, he, hke, hve⟩ := Paired.at hpr ekv
      dsimp only at hke hve
      have hi4 : i < 4 := by have := lt_of_at he; omega
      have hm := List.mem_of_getElem? he
      have ok1 := (hok e hm).1
      have lts : ts.length ≤ i := by
        have a1 := Paired.length hpt
        have a2 := congrArg List.length hfk
        rw [List.length_map, List.length_map, List.length_take] at a2
        omega
      have put : ∀ (v : V) (z : Val), VAt (CT K) H k v z → Ok k z → ∀ q2, H2 q2 = none → ∃ acc, upd H2 q2 (.tup [kV key, v]) D = some (.lst acc) ∧ acc.length < sizeLine ∧ Same H (upd (upd H2 q2 (.tup [kV key, v])) D (.lst (acc ++ [.ref q2]))) ∧
          ∃ ts fs, upd (upd H2 q2 (.tup [kV key, v])) D (.lst (acc ++ [.ref q2])) D = some (.lst ts) ∧ Paired (EntAt K (upd (upd H2 q2 (.tup [kV key, v])) D (.lst (acc ++ [.ref q2]))) [D] k) ts fs ∧ fs.map (·.1) = (es.take (i + 1)).map (·.1) ∧ ∀ e ∈ fs, okK e.1 ∧ Ok k e.2 := fun v z hv okz q2 hq2 => by
        have nq := Same.nu (o := .tup [kV key, v]) hq2
        have nD : D ≠ q2 := ne_of_none hts hq2
        have cc : Same (cut H2 [D]) (cut (upd (upd H2 q2 (.tup [kV key, v])) D (.lst (ts ++ [.ref q2]))) [D]) := by
          rw [cut_cons]
          exact cut_put hq2
        refine ⟨ts, nq _ _ hts, small1000 (by omega), Same.mk'' (s1.trans nq) hD, _, fs ++ [(key, z)], upd_same, Paired.snoc (Paired.mapP hpt fun t e h => ?_) ⟨q2, v, rfl, ?_, VAt.same cc (c0 hD s1 hv)⟩, ?_, fun e' h' => ?_⟩
        · obtain ⟨b, y, e1, h1, h2⟩ := h
          exact ⟨b, y, e1, by rw [upd_ne (ne_of h1 hts (by intro z; cases z))]; exact nq _ _ h1, VAt.same cc h2⟩
        · rw [upd_ne nD.symm, upd_same]
        · rw [take_snoc he, List.map_append, List.map_append, hfk]
          simp [hke]
        · rcases List.mem_append.mp h' with h | h
          · exact hfo e' h
          · rw [List.mem_singleton.mp h]; exact ⟨by rw [hke]; exact ok1, okz⟩
      refine ⟨rfl, _, rfl, _, rfl, _, rfl, p2, _, _, _, _, rfl, s1 _ _ hp2, T.cl_Table, T.a_Table_held, rfl, d2, _, rfl, .inl ⟨kvs2, key, .inr ⟨od2, s1 _ _ hd2⟩, rfl, rfl⟩, _, rfl, ?_⟩
      cases hv2 : valV kvs2 key with
      | some v2 =>
        obtain ⟨e2, m2, k2, r2⟩ := val_paired hpr2 hv2
        refine iteT ⟨_, rfl, p2, _, _, _, _, rfl, s1 _ _ hp2, T.cl_Table, T.a_Table_held, rfl, _, rfl, d2, v2, rfl, .inl ⟨kvs2, key, .inr ⟨od2, s1 _ _ hd2⟩, rfl, hv2.symm⟩, (by show 2 ≤ sizeLine; decide), fun q2 hq2 => put v2 e2.2 r2 (gok e2 m2).2 q2 hq2⟩
      | none =>
        have vv : valV kvs key = some v := valV_at (by rw [hk1]; exact hnd) ekv
        refine iteF ⟨_, rfl, p, _, _, _, _, rfl, s1 _ _ hp, T.cl_Table, T.a_Table_held, rfl, _, rfl, d, v, rfl, .inl ⟨kvs, key, .inr ⟨od, s1 _ _ hd⟩, rfl, vv.symm⟩, (by show 2 ≤ sizeLine; decide), fun q2 hq2 => put v e.2 hve (hok e hm).2 q2 hq2⟩
    · rintro H1 ⟨s1, ts, fs, hts, hpt, hfk, hfo⟩
      rw [List.take_of_length_le (by omega)] at hfk
      refine ⟨_, rfl, p2, _, _, _, _, rfl, s1 _ _ hp2, T.cl_Table, T.a_Table_held, rfl, d2, od2, kvs2, rfl, s1 _ _ hd2, fun D2 hD2 => lc_it walk_items
        (fun i H' => Same H1 H' ∧ ∃ ts2 fs2, H' D2 = some (.lst ts2) ∧ Paired (EntAt K H' [D2] k) ts2 fs2 ∧ fs2.map (·.1) = ((es2.take i).map (·.1)).filter (offK es) ∧ ∀ e ∈ fs2, okK e.1 ∧ Ok k e.2) ?_ ?_ ?_ ?_⟩
      · exact ⟨Same.nu hD2, [], [], upd_same, .nil, by rw [List.take_zero]; rfl, fun _ h => nomatch h⟩
      · rintro i H' _ ⟨s2, _⟩
        exact s2 _ _ (s1 _ _ hd2)
      · rintro i x H2 H3 hi ⟨s2, ts2, fs2, hts2, hpt2, hfk2, hfo2⟩ ⟨t, x1, x2, rfl, ht, rfl, e1, e2⟩
        dsimp only at e1 e2
        cases ekv : kvs2[i]? with
        | none => rw [ekv] at e1; cases e1
        | some kv =>
        rw [ekv] at e1 e2
        cases e1
        cases e2
        obtain ⟨e, he, hke, hve⟩ := Paired.at hpr2 ekv
        have hi4 : i < 4 := by have := lt_of_at he; omega
        have hm := List.mem_of_getElem? he
        have nt := Same.nu (o := .tup [kV kv.1, kv.2]) ht
        have s3 := (s1.trans s2).trans nt
        have lts : ts2.length ≤ i := by
          have a1 := Paired.length hpt2
          have a2 := congrArg List.length hfk2
          have a3 := List.length_filter_le (offK es) ((es2.take i).map (·.1))
          rw [List.length_map, List.length_take] at a3
          rw [List.length_map] at a2
          omega
        have efk : ((es2.take (i + 1)).map (·.1)).filter (offK es) = ((es2.take i).map (·.1)).filter (offK es) ++ (if offK es e.1 = true then [e.1] else []) := by
          rw [take_snoc he, List.map_append, List.filter_append]
          congr 1
          cases hm2 : offK es e.1 <;> simp [hm2]
        refine ⟨t, _, rfl, SqT.of upd_same, rfl, _, _, rfl, _, _, rfl, rfl, rfl, ?_⟩
        refine ⟨_, rfl, _, rfl, p, _, _, _, _, rfl, s3 _ _ hp, T.cl_Table, T.a_Table_held, rfl, d, _, rfl, .inl ⟨kvs, kv.1, .inr ⟨od, s3 _ _ hd⟩, rfl, rfl⟩, _, rfl, ?_⟩
        cases hv2 : valV kvs kv.1 with
        | some v2 =>
          have hmm : e.1 ∈ es.map (·.1) := by rw [← hke, ← hk1]; exact valV_in hv2
          exact iteF ⟨s2.trans nt, ts2, fs2, nt _ _ hts2, Paired.mapP hpt2 fun _ _ h => ent_same nt (cut_put ht) h, by rw [efk, offK_f.mpr hmm, hfk2]; simp, hfo2⟩
        | none =>
          have hmm : e.1 ∉ es.map (·.1) := by rw [← hke, ← hk1]; exact valV_not hv2
          refine iteT ⟨_, rfl, _, rfl, (by show 2 ≤ sizeLine; decide), fun q2 hq2 => ?_⟩
          have ht4 : (upd H2 t (.tup [kV kv.1, kv.2])) D2 = some (.lst ts2) := nt _ _ hts2
          have hpt4 := Paired.mapP hpt2 fun _ _ h => ent_same nt (cut_put ht) h
          have hv4 := c0 (D := D2) (v := kv.2) (e := e.2) (H' := upd H2 t (.tup [kV kv.1, kv.2])) (by
            cases z : H D2 with
            | none => rfl
            | some o => rw [s1 _ _ z] at hD2; cases hD2) s3 hve
          generalize upd H2 t (.tup [kV kv.1, kv.2]) = H4 at ht4 hpt4 hv4 s3 nt hq2 ⊢
          have nq := Same.nu (o := .tup [kV kv.1, kv.2]) hq2
          have nD : D2 ≠ q2 := ne_of_none ht4 hq2
          have cc : Same (cut H4 [D2]) (cut (upd (upd H4 q2 (.tup [kV kv.1, kv.2])) D2 (.lst (ts2 ++ [.ref q2]))) [D2]) := by
            rw [cut_cons]
            exact cut_put hq2
          refine ⟨ts2, nq _ _ ht4, small1000 (by omega), Same.mk'' ((s2.trans nt).trans nq) hD2, _, fs2 ++ [(e.1, e.2)], upd_same, Paired.snoc (Paired.mapP hpt4 fun t e h => ?_) ⟨q2, kv.2, rfl, ?_, VAt.same cc hv4⟩, ?_, fun e' h' => ?_⟩
          · obtain ⟨b, y, e1, h1, h2⟩ := h
            exact ⟨b, y, e1, by rw [upd_ne (ne_of h1 ht4 (by intro z; cases z))]; exact nq _ _ h1, VAt.same cc h2⟩
          · rw [upd_ne nD.symm, upd_same]
            show some (HO.tup [kV kv.1, kv.2]) = some (HO.tup [kV e.1, kv.2])
            rw [hke]
          · rw [efk, if_pos (offK_t.mpr hmm), List.map_append, hfk2]
            rfl
          · rcases List.mem_append.mp h' with h | h
            · exact hfo2 e' h
            · rw [List.mem_singleton.mp h]; exact gok e hm
      · rintro H2 ⟨s2, ts2, fs2, hts2, hpt2, hfk2, hfo2⟩
        rw [List.take_of_length_le (by omega)] at hfk2
        have hpt1 : Paired (EntAt K H2 [D] k) ts fs := Paired.mapP hpt fun _ _ h => ent_same s2 (cut_sx (Sx.of s2)) h
        have lf1 : fs.length = es.length := by have := congrArg List.length hfk; rw [List.length_map, List.length_map] at this; exact this
        have lf2 : fs2.length ≤ es2.length := by
          have := congrArg List.length hfk2
          rw [List.length_map] at this
          have a3 := List.length_filter_le (offK es) (es2.map (·.1))
          rw [List.length_map] at a3
          omega
        have a1 := Paired.length hpt1
        have a2 := Paired.length hpt2
        refine ⟨_, rfl, _, rfl, D, D2, ts, ts2, rfl, rfl, s2 _ _ hts, hts2, Nat.le_of_lt (small1000 (by omega)), fun l hl => fun x dx hx hd3 hn3 => ?_⟩
        have nl := Same.nu (o := .lst (ts ++ ts2)) hl
        have s3 : Same H2 (upd (upd (upd H2 l (.lst (ts ++ ts2))) dx (.own x)) x (.ins (CT K) dx [])) := Same.mk'' (nl.trans (Same.nu hd3)) (by
          cases z : H2 x with
          | none => rfl
          | some o => rw [nl _ _ z] at hx; cases hx)
        have hl3 : (upd (upd (upd H2 l (.lst (ts ++ ts2))) dx (.own x)) x (.ins (CT K) dx [])) l = some (.lst (ts ++ ts2)) := Same.mk'' (Same.nu hd3) hx _ _ upd_same
        have xn : H2 x = none := by
          cases z : H2 x with
          | none => rfl
          | some o => rw [nl _ _ z] at hx; cases hx
        have ent : ∀ {D : Addr} {t : V} {e : Key × Val}, EntAt K H2 [D] k t e → EntAt K (upd (upd (upd H2 l (.lst (ts ++ ts2))) dx (.own x)) x (.ins (CT K) dx [])) (x :: []) k t e := fun h => by
          obtain ⟨b, y, e1, h1, h2⟩ := h
          refine ⟨b, y, e1, s3 _ _ h1, VAt.same (fun c o e => ?_) h2⟩
          have e2 := cut_le _ _ e
          refine cut_at (fun z => ?_) (s3 _ _ e2)
          rw [List.mem_singleton.mp z, xn] at e2
          cases e2
        have app : ∀ {R : V → Key × Val → Prop} {a1 : List V} {b1 : List (Key × Val)} {a2 : List V} {b2 : List (Key × Val)}, Paired R a1 b1 → Paired R a2 b2 → Paired R (a1 ++ a2) (b1 ++ b2) := fun h1 h2 => by
          induction h1 with
          | nil => exact h2
          | cons h t ih => exact .cons h ih
        have okes : okE k (fs ++ fs2) := by
          refine ⟨by rw [List.length_append]; omega, ?_, fun e he => (List.mem_append.mp he).elim (hfo e) (hfo2 e)⟩
          rw [List.map_append, hfk, hfk2]
          refine List.nodup_append.mpr ⟨hnd, gnd.sublist List.filter_sublist, fun u hu v hv z => ?_⟩
          have := (List.mem_filter.mp hv).2
          rw [← z] at this
          exact offK_t.mp this hu
        refine ⟨x, l, dx, ts ++ ts2, fs ++ fs2, [], rfl, upd_same, SqL.of hl3, Has.nil, by simp, app (Paired.mapP hpt1 fun _ _ h => ent h) (Paired.mapP hpt2 fun _ _ h => ent h), okes, fun H5 kp hv => ⟨rfl, ?_⟩⟩
        rw [cut_nil] at hv
        exact q H5 _ _ ((s1.trans s2).trans fun b o e => kp b o (ne_of_none e xn) (s3 _ _ e)) hv okes
theorem tab_make {k0 : Nat} {K : PySem.W.Frag} {H1 : Hp} {l : Addr} {es : List (Key × Val)} {ts : List V} {ps : List Addr} {Q : Addr → Hp → Prop} {E : XK} (hl : H1 l = some (.lst ts)) (hp : Paired (fun t e => ∃ b y, t = V.ref b ∧ H1 b = some (.tup [kV e.1, y]) ∧ flat e.2 = some y) ts es) (ok : okE k0 es) (hps : Has H1 ps)
    (q : ∀ x H2, H1 x = none → Same H1 H2 → VAt (CT K) (cut H2 ps) (k0 + 1) (.ref x) (.tab es) → Q x H2) (x dx : Addr) (hx : H1 x = none) (hd : H1 dx = none) (hn : dx ≠ x) :
    spTable K k0 (.ref x :: ([.ref l] ++ [])) (upd (upd H1 dx (.own x)) x (.ins (CT K) dx [])) (fun v H2 => v = .non ∧ Q x H2) E := by
  have s : Same H1 (upd (upd H1 dx (.own x)) x (.ins (CT K) dx [])) := Same.mk'' (Same.nu hd) hx
  refine ⟨x, l, dx, ts, es, ps, rfl, upd_same, SqL.of (s _ _ hl), hps.sx s, hps.new hx, ?_, ok, fun H2 k hv => ⟨rfl, q x H2 hx (fun b o e => k b o (ne_of_none e hx) (s _ _ e)) hv⟩⟩
  exact Paired.mapP hp fun t e ⟨b, y, h1, h2, h3⟩ => ⟨b, y, h1, s _ _ h2, VAt.flat h3⟩
section
variable {k0 : Nat} {H : Hp} {Q : Addr → Hp → Prop} {E : XK} {k k2 : Key} {y y2 : V} {d d2 : Val} {ps : List Addr}
theorem mk1 (hd : flat d = some y) (ok : okE k0 [(k, d)]) (hps : Has H ps) (q : ∀ x H', Same H H' → VAt (CT K) (cut H' ps) (k0 + 1) (.ref x) (.tab [(k, d)]) → Q x H') :
    [kV k, y].length ≤ sizeLine ∧ ∀ p, H p = none → ([V.ref p].length ≤ sizeLine ∧ ∀ l, (upd H p (.tup [kV k, y])) l = none → ∀ x dx, (upd (upd H p (.tup [kV k, y])) l (.lst [.ref p])) x = none → (upd (upd H p (.tup [kV k, y])) l (.lst [.ref p])) dx = none → dx ≠ x →
      spTable K k0 (.ref x :: ([.ref l] ++ [])) (upd (upd (upd (upd H p (.tup [kV k, y])) l (.lst [.ref p])) dx (.own x)) x (.ins (CT K) dx [])) (fun v H2 => v = .non ∧ Q x H2) E) := by
  refine ⟨(by show 2 ≤ sizeLine; decide), fun p hp => ⟨(by show 1 ≤ sizeLine; decide), fun l hl => ?_⟩⟩
  exact tab_make (es := [(k, d)]) upd_same (.cons ⟨p, y, rfl, Same.nu hl _ _ upd_same, hd⟩ .nil) ok ((hps.sx (Same.nu hp)).sx (Same.nu hl)) fun x H2 _ s v => q x H2 (((Same.nu hp).trans (Same.nu hl)).trans s) v
theorem mk2 (hd : flat d = some y) (hd2 : flat d2 = some y2) (ok : okE k0 [(k, d), (k2, d2)]) (hps : Has H ps) (q : ∀ x H', Same H H' → VAt (CT K) (cut H' ps) (k0 + 1) (.ref x) (.tab [(k, d), (k2, d2)]) → Q x H') :
    [kV k, y].length ≤ sizeLine ∧ ∀ p, H p = none → ([kV k2, y2].length ≤ sizeLine ∧ ∀ p2, (upd H p (.tup [kV k, y])) p2 = none → ([V.ref p, V.ref p2].length ≤ sizeLine ∧ ∀ l, (upd (upd H p (.tup [kV k, y])) p2 (.tup [kV k2, y2])) l = none →
      ∀ x dx, (upd (upd (upd H p (.tup [kV k, y])) p2 (.tup [kV k2, y2])) l (.lst [.ref p, .ref p2])) x = none → (upd (upd (upd H p (.tup [kV k, y])) p2 (.tup [kV k2, y2])) l (.lst [.ref p, .ref p2])) dx = none → dx ≠ x →
      spTable K k0 (.ref x :: ([.ref l] ++ [])) (upd (upd (upd (upd (upd H p (.tup [kV k, y])) p2 (.tup [kV k2, y2])) l (.lst [.ref p, .ref p2])) dx (.own x)) x (.ins (CT K) dx [])) (fun v H2 => v = .non ∧ Q x H2) E)) := by
  refine ⟨(by show 2 ≤ sizeLine; decide), fun p hp => ⟨(by show 2 ≤ sizeLine; decide), fun p2 hp2 => ⟨(by show 2 ≤ sizeLine; decide), fun l hl => ?_⟩⟩⟩
  exact tab_make (es := [(k, d), (k2, d2)]) upd_same (.cons ⟨p, y, rfl, Same.nu hl _ _ (Same.nu hp2 _ _ upd_same), hd⟩ (.cons ⟨p2, y2, rfl, Same.nu hl _ _ upd_same, hd2⟩ .nil)) ok (((hps.sx (Same.nu hp)).sx (Same.nu hp2)).sx (Same.nu hl))
    fun x H2 _ s v => q x H2 ((((Same.nu hp).trans (Same.nu hp2)).trans (Same.nu hl)).trans s) v
end
def spWith (K : PySem.W.Frag) (k : Nat) : Sp := fun vs H Q _ => ∃ (x : V) (key : Key) (es : List (Key × Val)), vs = [x, kV key, .non] ∧ VAt (CT K) H (k + 1) x (.tab es) ∧ okE k es ∧ es.length ≤ 3 ∧ okK key ∧
  ∀ H' z es3, Same H H' → VAt (CT K) H' (k + 1) z (.tab es3) → okE k es3 → Q z H'
theorem ok_Table_with (T : Tx w K mg) (k : Nat) : Gd P w K base mg CX0 (k + 5) (He.fAd K d_Table_with_entry.at_) ["self", "key", "item"] [] (spWith K k) := by
  have G_Table_init := ok_Table_init (P := P) (w := w) (base := base) T k
  have G_or := ok_Table_or (P := P) (w := w) (base := base) T k
  obtain ⟨fdo, dvo, F_or, hdo, b_or⟩ := G_or.ok
  cases hdo
  have B_or : Rn.BinOwn K (CT K) (He.fAd K d_Table___or__.at_) Operator.BitOr.info.2 := ⟨T.orT.1, by
    rw [show PySem.dunder Operator.BitOr.info.2 = ("__or__" : Str) by decide +kernel]
    exact of_decide_eq_true (band T.orT.2).1, (band (band T.orT.2).2).1⟩
  refine mkGd (T.f_Table_with_entry) sc_Table_with_entry (fun vs H Q E h => ?_) (fun _ _ _ _ _ _ us hl => match us, hl with | [_, _, _], _ => rfl) (fun cdv A outer s H vs Q E hr h => ?_)
  · obtain ⟨x, key, es, rfl, _⟩ := h
    rfl
  · have hu := hu_of hr
    obtain ⟨x, key, es, rfl, hv, okes, hl3, okk, q⟩ := h
    obtain ⟨j, p, dx, d, od, kvs, ej, rfl, hp, hd, hpr⟩ := at_tab hv
    cases ej
    refine ⟨_, (pss_one (ps_ret (Rn.pe_binO (pv 0) (pe_makeG T.mk_Table G_Table_init (hr.mono (by first | decide | omega)) T.g_Table pass0 (pa_cons (pe_lst (pa_cons (pe_tup (pa_cons (pv 1) (pa_cons (pv 2) pa_nil))) pa_nil)) pa_nil)) B_or F_or (hr.mono (by first | decide | omega)) b_or pass0))), ?_⟩
    refine ⟨_, rfl, _, rfl, _, rfl, mk1 (k := key) (d := .non) rfl ⟨by show 1 ≤ 4; decide, by simp, fun e he => by rw [List.mem_singleton.mp he]; exact ⟨okk, Ok.flat trivial⟩⟩ Has.nil fun x H' s1 hv' => ?_⟩
    rw [cut_nil] at hv'
    obtain ⟨_, _, dx2, d2, od2, kvs2, ej, ep, hp2, _⟩ := at_tab hv'
    cases ej
    cases ep
    exact ⟨p, _, _, _, _, _, rfl, rfl, s1 _ _ hp, hp2, .ref p, _, es, _, rfl, VAt.same s1 hv, hv', okes, ⟨by show 1 ≤ 4; decide, by simp, fun e he => by rw [List.mem_singleton.mp he]; exact ⟨okk, Ok.flat trivial⟩⟩, by show es.length + 1 ≤ 4; omega, fun H2 z es3 s2 => q H2 z es3 (s1.trans s2)⟩
end
end Kt
set_option Elab.async false
set_option linter.all false
set_option maxRecDepth 100000
set_option maxHeartbeats 4000000
namespace Kt
open PySem PySem.Spec PyProof.Rows L2 Rz _root_.TL
section
variable {P : Program} {w : World} {K : PySem.W.Frag} {mg : Str → Option Value} {base : Heap}
def pairsV : List (Val × Val) := [(.seq true [], .seq false []), (.int (10 ^ 15), .str (istr (10 ^ 15))), (.tab [], .tab [(.inr "k", .non)]), (.tab [], .tab [(.inl 5, .int 0)]), (.tab [(.inl 5, .int 0)], .tab [(.inr "5", .int 0)]),
  (.tab [(.inr "b", .int 0), (.inr "a", .int 0)], .tab [(.inr "a", .int 0), (.inr "b", .int 0)])]
/-- a pair of values, what is in ps left out -/
def PrC (K : PySem.W.Frag) (H : Hp) (ps : List Addr) (t : V) (pr : Val × Val) : Prop := ∃ b x y, t = .ref b ∧ H b = some (.tup [x, y]) ∧ VAt (CT K) (cut H ps) 1 x pr.1 ∧ VAt (CT K) (cut H ps) 1 y pr.2
theorem PrC.same {H H' : Hp} {ps : List Addr} {t : V} {pr : Val × Val} (s : Same H H') (h : PrC K H ps t pr) : PrC K H' ps t pr := by
  obtain ⟨b, x, y, e, h1, h2, h3⟩ := h
  exact ⟨b, x, y, e, s _ _ h1, VAt.same (cut_sx (Sx.of s)) h2, VAt.same (cut_sx (Sx.of s)) h3⟩
theorem PrC.mk {H : Hp} {L : Addr} {o : HO} {t : V} {pr : Val × Val} (hL : H L = none) (h : PrC K H [] t pr) : PrC K (upd H L o) [L] t pr := by
  obtain ⟨b, x, y, e, h1, h2, h3⟩ := h
  have c := cut_add (ps := []) (H' := upd H L o) hL (Same.nu hL)
  exact ⟨b, x, y, e, Same.nu hL _ _ h1, VAt.same c h2, VAt.same c h3⟩
theorem PrC.up {H : Hp} {L : Addr} {o u : HO} {t : V} {pr : Val × Val} (hL : H L = some u) (hu : ∀ vs, u ≠ .tup vs) (h : PrC K H [L] t pr) : PrC K (upd H L o) [L] t pr := by
  obtain ⟨b, x, y, e, h1, h2, h3⟩ := h
  exact ⟨b, x, y, e, by rw [upd_ne (ne_of h1 hL (hu _).symm)]; exact h1, by rw [cut_cons]; exact h2, by rw [cut_cons]; exact h3⟩
def okN_small {x : Str} (h1 : x.length ≤ 24) (h2 : isDK x = true → ∃ i : Int, x = istr i ∧ i.natAbs < 10 ^ 21) : okN x := ⟨h1, h2⟩
theorem okN_k : okN "k" := ⟨by decide +kernel, fun h => absurd h (by decide +kernel)⟩
theorem okN_a : okN "a" := ⟨by decide +kernel, fun h => absurd h (by decide +kernel)⟩
theorem okN_b : okN "b" := ⟨by decide +kernel, fun h => absurd h (by decide +kernel)⟩
theorem okN_5 : okN "5" := ⟨by decide +kernel, fun _ => ⟨5, by decide +kernel, by decide⟩⟩
theorem okE0 : okE 0 [] := ⟨by decide, .nil, fun _ h => nomatch h⟩
theorem okE1 {y : Key} {d : Val} (h : okK y) (hd : okF d) : okE 0 [(y, d)] := ⟨by show 1 ≤ 4; decide, by simp, fun e he => by rw [List.mem_singleton.mp he]; exact ⟨h, hd⟩⟩
theorem okE2 {y z : Key} {d f : Val} (h : okK y) (hd : okF d) (h2 : okK z) (hf : okF f) (n : y ≠ z) : okE 0 [(y, d), (z, f)] := ⟨by show 2 ≤ 4; decide, by simpa using n, fun e he => by
  simp only [List.mem_cons, List.not_mem_nil, or_false] at he
  rcases he with rfl | rfl
  · exact ⟨h, hd⟩
  · exact ⟨h2, hf⟩⟩
def spPrs (K : PySem.W.Frag) : Sp := fun vs H Q _ => vs = [] ∧ ∀ H' l ts, Same H H' → H' l = some (.lst ts) → Paired (PrC K H' []) ts pairsV → Q (.ref l) H'
theorem ok_pairs (T : Tx w K mg) : Gd P w K base mg CX0 4 (He.fAd K d_confusable_pairs.at_) [] [] (spPrs K) := by
  have G_Table_init := ok_Table_init (P := P) (w := w) (base := base) T 0
  obtain ⟨tLONG, hLONG⟩ := T.LONG
  refine mkGd (T.f_confusable_pairs) sc_confusable_pairs (fun vs H Q E h => ?_) (fun _ _ _ _ _ _ us hl => match us, hl with | [], _ => rfl) (fun cdv A outer s H vs Q E hr h => ?_)
  · obtain ⟨rfl, _⟩ := h
    rfl
  · have hu := hu_of hr
    obtain ⟨rfl, q⟩ := h
    refine ⟨_, (pss_cons (ps_set (i := 0) sc_confusable_pairs.nd rfl (Or.inl rfl) (pe_makeG T.mk_Table G_Table_init (hr.mono (by first | decide | omega)) T.g_Table pass0 (pa_cons (pe_lst pa_nil) pa_nil)))
      (pss_cons (ps_set (i := 1) sc_confusable_pairs.nd rfl (Or.inl rfl) (pe_lst (pa_cons (pe_tup (pa_cons (pe_lst pa_nil) (pa_cons (pe_tup pa_nil) pa_nil))) (pa_cons (pe_tup (pa_cons (pe_glob (v := .int (10 ^ 15)) rfl hLONG ⟨_, rfl⟩) (pa_cons (pe_callTy call_str_int (by rfl) T.n_str (by decide +kernel) (pa_cons (pe_glob (v := .int (10 ^ 15)) rfl hLONG ⟨_, rfl⟩) pa_nil)) pa_nil))) (pa_cons (pe_tup (pa_cons (pv 0) (pa_cons (pe_makeG T.mk_Table G_Table_init (hr.mono (by first | decide | omega)) T.g_Table pass0 (pa_cons (pe_lst (pa_cons (pe_tup (pa_cons pe_str (pa_cons pe_non pa_nil))) pa_nil)) pa_nil)) pa_nil))) (pa_cons (pe_tup (pa_cons (pv 0) (pa_cons (pe_makeG T.mk_Table G_Table_init (hr.mono (by first | decide | omega)) T.g_Table pass0 (pa_cons (pe_lst (pa_cons (pe_tup (pa_cons pe_int (pa_cons pe_int pa_nil))) pa_nil)) pa_nil)) pa_nil))) pa_nil))))))
      (pss_cons (ps_expr (pe_bm PySem.F.plainAttrs_list PySem.F.slot_list_append PySem.F.type_list_append mt_append (pv 1) (pa_cons (pe_tup (pa_cons (pe_makeG T.mk_Table G_Table_init (hr.mono (by first | decide | omega)) T.g_Table pass0 (pa_cons (pe_lst (pa_cons (pe_tup (pa_cons pe_int (pa_cons pe_int pa_nil))) pa_nil)) pa_nil)) (pa_cons (pe_makeG T.mk_Table G_Table_init (hr.mono (by first | decide | omega)) T.g_Table pass0 (pa_cons (pe_lst (pa_cons (pe_tup (pa_cons pe_str (pa_cons pe_int pa_nil))) pa_nil)) pa_nil)) pa_nil))) pa_nil)))
      (pss_cons (ps_expr (pe_bm PySem.F.plainAttrs_list PySem.F.slot_list_append PySem.F.type_list_append mt_append (pv 1) (pa_cons (pe_tup (pa_cons (pe_makeG T.mk_Table G_Table_init (hr.mono (by first | decide | omega)) T.g_Table pass0 (pa_cons (pe_lst (pa_cons (pe_tup (pa_cons pe_str (pa_cons pe_int pa_nil))) (pa_cons (pe_tup (pa_cons pe_str (pa_cons pe_int pa_nil))) pa_nil))) pa_nil)) (pa_cons (pe_makeG T.mk_Table G_Table_init (hr.mono (by first | decide | omega)) T.g_Table pass0 (pa_cons (pe_lst (pa_cons (pe_tup (pa_cons pe_str (pa_cons pe_int pa_nil))) (pa_cons (pe_tup (pa_cons pe_str (pa_cons pe_int pa_nil))) pa_nil))) pa_nil)) pa_nil))) pa_nil)))
      (pss_one (ps_ret (pv 1))))))), ?_⟩
    have f0 : okF (.int 0) := by show (0 : Int).natAbs < 10 ^ 21; decide
    have k5 : okK (.inl 5) := by show (5 : Int).natAbs < 10 ^ 21; decide
    refine ⟨Nat.zero_le _, fun l0 hl0 => tab_make (k0 := 0) (es := []) upd_same .nil okE0 Has.nil fun e0 A0 _ s0 v0 => ?_⟩
    refine ⟨Nat.zero_le _, fun a ha => ⟨Nat.zero_le _, fun b hb => ⟨(by show 2 ≤ sizeLine; decide), fun t1 ht1 => ?_⟩⟩⟩
    have na := Same.nu (o := HO.lst []) ha
    have nb := Same.nu (o := HO.tup []) hb
    have n1 := Same.nu (o := HO.tup [.ref a, .ref b]) ht1
    refine ⟨10 ^ 15, rfl, by decide, (by show 2 ≤ sizeLine; decide), fun t2 ht2 => ?_⟩
    have n2 := Same.nu (o := HO.tup [.int (10 ^ 15), .str (toString (10 ^ 15 : Int))]) ht2
    have p1 : PrC K (upd (upd (upd A0 a (.lst [])) b (.tup [])) t1 (.tup [.ref a, .ref b])) [] (.ref t1) (.seq true [], .seq false []) :=
      ⟨t1, _, _, rfl, upd_same, .inr (.inl ⟨true, [], a, [], rfl, rfl, by rw [cut_nil]; exact n1 _ _ (nb _ _ upd_same), .nil⟩), .inr (.inl ⟨false, [], b, [], rfl, rfl, by rw [cut_nil]; exact n1 _ _ upd_same, .nil⟩)⟩
    have p2 : PrC K (upd (upd (upd (upd A0 a (.lst [])) b (.tup [])) t1 (.tup [.ref a, .ref b])) t2 (.tup [.int (10 ^ 15), .str (toString (10 ^ 15 : Int))])) [] (.ref t2) (.int (10 ^ 15), .str (istr (10 ^ 15))) := ⟨t2, _, _, rfl, upd_same, .inl rfl, .inl rfl⟩
    have p1 := p1.same n2
    have v0 := VAt.same (cut_sx (Sx.of (((na.trans nb).trans n1).trans n2))) v0
    have sA : Same H _ := (((Same.nu hl0).trans s0).trans (((na.trans nb).trans n1).trans n2))
    generalize upd (upd (upd (upd A0 a (.lst [])) b (.tup [])) t1 (.tup [.ref a, .ref b])) t2 (.tup [.int (10 ^ 15), .str (toString (10 ^ 15 : Int))]) = A at p1 p2 v0 sA ⊢
    refine ⟨_, rfl, mk1 (k := .inr "k") (d := .non) rfl (okE1 okN_k trivial) Has.nil fun z3 A3 s3 v3 => ⟨(by show 2 ≤ sizeLine; decide), fun t3 ht3 => ?_⟩⟩
    have n3 := Same.nu (o := HO.tup [.ref e0, .ref z3]) ht3
    have p3 : PrC K (upd A3 t3 (.tup [.ref e0, .ref z3])) [] (.ref t3) (.tab [], .tab [(.inr "k", .non)]) := ⟨t3, _, _, rfl, upd_same, VAt.same (cut_sx (Sx.of (s3.trans n3))) v0, VAt.same (cut_sx (Sx.of n3)) v3⟩
    have p1 := p1.same (s3.trans n3)
    have p2 := p2.same (s3.trans n3)
    have v0 := VAt.same (cut_sx (Sx.of (s3.trans n3))) v0
    have sA := sA.trans (s3.trans n3)
    generalize upd A3 t3 (.tup [.ref e0, .ref z3]) = B at p1 p2 p3 v0 sA ⊢
    refine ⟨_, rfl, mk1 (k := .inl 5) (d := .int 0) rfl (okE1 k5 f0) Has.nil fun z4 A4 s4 v4 => ⟨(by show 2 ≤ sizeLine; decide), fun t4 ht4 => ?_⟩⟩
    have n4 := Same.nu (o := HO.tup [.ref e0, .ref z4]) ht4
    have p4 : PrC K (upd A4 t4 (.tup [.ref e0, .ref z4])) [] (.ref t4) (.tab [], .tab [(.inl 5, .int 0)]) := ⟨t4, _, _, rfl, upd_same, VAt.same (cut_sx (Sx.of (s4.trans n4))) v0, VAt.same (cut_sx (Sx.of n4)) v4⟩
    have p1 := p1.same (s4.trans n4)
    have p2 := p2.same (s4.trans n4)
    have p3 := p3.same (s4.trans n4)
    have sA := sA.trans (s4.trans n4)
    generalize upd A4 t4 (.tup [.ref e0, .ref z4]) = C at p1 p2 p3 p4 sA ⊢
    refine ⟨(by show 4 ≤ sizeLine; decide), fun L hL => ?_⟩
    have nH : H L = none := by
      cases e : H L with
      | none => rfl
      | some o => rw [sA _ _ e] at hL; cases hL
    have g0 : Same H (upd C L (.lst [.ref t1, .ref t2, .ref t3, .ref t4])) := Same.mk' sA hL
    have hL0 : (upd C L (.lst [.ref t1, .ref t2, .ref t3, .ref t4])) L = some (.lst [.ref t1, .ref t2, .ref t3, .ref t4]) := upd_same
    have pp : Paired (PrC K (upd C L (.lst [.ref t1, .ref t2, .ref t3, .ref t4])) [L]) [.ref t1, .ref t2, .ref t3, .ref t4] (pairsV.take 4) := .cons (p1.mk hL) (.cons (p2.mk hL) (.cons (p3.mk hL) (.cons (p4.mk hL) .nil)))
    generalize upd C L (.lst [.ref t1, .ref t2, .ref t3, .ref t4]) = D0 at g0 hL0 pp ⊢
    have hasL : ∀ {B : Hp} {xs : List V}, B L = some (.lst xs) → Has B [L] := fun h b hb => by rw [List.mem_singleton.mp hb, h]; simp
    -- one more pair
    have step : ∀ {B B1 B2 : Hp} {xs : List V} {ds : List (Val × Val)} {x y t : Addr} {d e : Val}, B L = some (.lst xs) → Same H B → Paired (PrC K B [L]) xs ds → Same B B1 → VAt (CT K) (cut B1 [L]) 1 (.ref x) d → Same B1 B2 → VAt (CT K) (cut B2 [L]) 1 (.ref y) e → B2 t = none →
        (upd B2 t (.tup [.ref x, .ref y])) L = some (.lst xs) ∧ Same H (upd (upd B2 t (.tup [.ref x, .ref y])) L (.lst (xs ++ [.ref t]))) ∧ Paired (PrC K (upd (upd B2 t (.tup [.ref x, .ref y])) L (.lst (xs ++ [.ref t]))) [L]) (xs ++ [.ref t]) (ds ++ [(d, e)]) := fun {B B1 B2 xs ds x y t d e} h1 h2 h3 s1 v1 s2 v2 ht => by
      have nt := Same.nu (o := HO.tup [.ref x, .ref y]) ht
      have sB := (s1.trans s2).trans nt
      refine ⟨sB _ _ h1, Same.mk'' (h2.trans sB) nH, Paired.snoc (Paired.mapP h3 fun _ _ h => (h.same sB).up (sB _ _ h1) (fun _ z => nomatch z)) ?_⟩
      exact PrC.up (sB _ _ h1) (fun _ z => nomatch z) ⟨t, _, _, rfl, upd_same, VAt.same (cut_sx (Sx.of (s2.trans nt))) v1, VAt.same (cut_sx (Sx.of nt)) v2⟩
    refine ⟨_, rfl, .inl ⟨rfl, _, SqL.of hL0⟩, mk1 (k := .inl 5) (d := .int 0) rfl (okE1 k5 f0) (hasL hL0) fun x1 B1 r1 w1 => mk1 (k := .inr "5") (d := .int 0) rfl (okE1 okN_5 f0) (hasL (r1 _ _ hL0)) fun x2 B2 r2 w2 => ⟨(by show 2 ≤ sizeLine; decide), fun t5 ht5 => ?_⟩⟩
    obtain ⟨h1, g1, q1⟩ := step hL0 g0 pp r1 w1 r2 w2 ht5
    refine ⟨L, _, _, rfl, rfl, h1, (by show 4 < sizeLine; decide), ?_⟩
    refine ⟨_, rfl, .inl ⟨rfl, _, SqL.of upd_same⟩, mk2 (k := .inr "b") (d := .int 0) (k2 := .inr "a") (d2 := .int 0) rfl rfl (okE2 okN_b f0 okN_a f0 (by decide +kernel)) (hasL upd_same) fun x3 B3 r3 w3 => mk2 (k := .inr "a") (d := .int 0) (k2 := .inr "b") (d2 := .int 0) rfl rfl (okE2 okN_a f0 okN_b f0 (by decide +kernel)) (hasL (r3 _ _ upd_same)) fun x4 B4 r4 w4 => ⟨(by show 2 ≤ sizeLine; decide), fun t6 ht6 => ?_⟩⟩
    obtain ⟨h2, g2, q2⟩ := step upd_same g1 q1 r3 w3 r4 w4 ht6
    refine ⟨L, _, _, rfl, rfl, h2, (by show 5 < sizeLine; decide), ?_⟩
    exact ⟨_, rfl, q _ L _ g2 upd_same (Paired.mapP q2 fun t pr ⟨b, x, y, e, z1, z2, z3⟩ => ⟨b, x, y, e, z1, VAt.same (cut_mono (by simp)) z2, VAt.same (cut_mono (by simp)) z3⟩)⟩
end
end Kt
set_option Elab.async false
set_option linter.all false
set_option maxRecDepth 100000
set_option maxHeartbeats 4000000
namespace Kt
open PySem PySem.Spec PyProof.Rows L2 Rz _root_.TL
section
variable {P : Program} {w : World} {K : PySem.W.Frag} {mg : Str → Option Value} {base : Heap}
def rEqE (K : PySem.W.Frag) : R2 := fun x y H Q => ∃ p q xs, x = .ref p ∧ y = .ref q ∧ SqL K H p xs ∧ SqL K H q [] ∧ Q (.bl xs.isEmpty) H
def rNeE (K : PySem.W.Frag) : R2 := fun x y H Q => ∃ p q xs, x = .ref p ∧ y = .ref q ∧ SqL K H p xs ∧ SqL K H q [] ∧ Q (.bl (!xs.isEmpty)) H
/-- xs == [], whatever stands in xs -/
theorem op_eqE {X : Cx} (hu : X.A.units + 64 < cLine) : OpR X (compareOp .Eq) (rEqE X.K) := by
  intro pins s σ H x y v u Q I rx ry h
  obtain ⟨p, q, xs, rfl, rfl, h1, h2, q⟩ := h
  cases rx
  cases ry
  obtain ⟨its, rv, p1, _⟩ := I.list h1
  obtain ⟨its2, rv2, p2, _⟩ := I.list h2
  cases rv2
  cases rv with
  | nil => exact SeqAt.RcAt.lists (e := fun _ => true) p1.isList p2.isList rfl (by omega) (fun j h1 => absurd h1 (by simp)) _ _ _ _ ⟨.bl true, H, I, rfl, q⟩
  | cons r t => exact SeqAt.RcAt.lists_lengths p1.isList p2.isList (by simp) (by omega) _ _ _ _ ⟨.bl false, H, I, rfl, q⟩
theorem op_neE {X : Cx} (hu : X.A.units + 64 < cLine) : OpR X (compareOp .NotEq) (rNeE X.K) := by
  intro pins s σ H x y v u Q I rx ry h
  obtain ⟨p, q, xs, rfl, rfl, h1, h2, q⟩ := h
  cases rx
  cases ry
  obtain ⟨its, rv, p1, _⟩ := I.list h1
  obtain ⟨its2, rv2, p2, _⟩ := I.list h2
  cases rv2
  cases rv with
  | nil => exact SeqAt.RcNeAt.lists (e := fun _ => true) p1.isList p2.isList rfl (by omega) (fun j h1 => absurd h1 (by simp)) _ _ _ _ ⟨.bl false, H, I, rfl, q⟩
  | cons r t => exact SeqAt.RcNeAt.lists_lengths p1.isList p2.isList (by simp) (by omega) _ _ _ _ ⟨.bl true, H, I, rfl, q⟩
def carryL (o : Opt) (r : ROpt) (k : Nat) (d : Val) : List Val := (Rz.carry o r k d).toList
def spWCB (K : PySem.W.Frag) (k : Nat) : Sp := fun vs H Q _ => ∃ (p : Addr) (x : V) (o : Opt) (r : ROpt) (d : Val), vs = [.ref p, x] ∧ PAt K H p o r ∧ VAt (CT K) H k x d ∧ Ok k d ∧ LamX.Tabs (TT K) H ∧ ∀ H' l ys, Xt K H H' → H' l = some (.lst ys) → Paired (VAt (CT K) H' k) ys (carryL o r k d) → Q (.ref l) H'
theorem ok_wcb (T : Tx w K mg) (hTB : LamX.TabB base mg (He.codeOf K keD) (keT K)) (k : Nat) (hk : k ≤ 6) : Gd P w K base mg CX0 (2 * (k + 1) + 9) (He.fAd K d_what_comes_back.at_) ["passage", "value"] [] (spWCB K k) := by
  have G_Passage_carry := ok_Passage_carry (P := P) (w := w) (base := base) T hTB k hk
  refine mkGd (T.f_what_comes_back) sc_what_comes_back (fun vs H Q E h => ?_) (fun _ _ _ _ _ _ us hl => match us, hl with | [_, _], _ => rfl) (fun cdv A outer s H vs Q E hr h => ?_)
  · obtain ⟨p, x, o, r, d, rfl, _⟩ := h
    rfl
  · have hu := hu_of hr
    obtain ⟨p, x, o, r, d, rfl, hW, hv, ok, hT, q⟩ := h
    have hW' := hW
    obtain ⟨dw, hW⟩ := hW
    refine ⟨_, (pss_one (ps_try_only rfl rfl ⟨rfl, by decide, .inl T.g_Refused⟩ takes0 (fun W pn xe tkN _ => (pss_one (ps_ret (pe_lst (pa_cons (pe_methXS (pv 0) T.cl_Passage T.m_Passage_carry G_Passage_carry (hr.mono (by first | decide | omega)) (fun σ => L2.passAt tkN σ) (pa_cons (pv 1) pa_nil)) pa_nil))))) (fun a oe cls d pn _ _ => (pss_one (ps_ret (pe_lst pa_nil)))))), ?_⟩
    refine ⟨_, rfl, p, _, _, rfl, hW, rfl, _, rfl, p, x, o, r, d, rfl, hW', hv, ok, hT, fun hn d1 H' X => ⟨true, T.exm_Refused, fun _ a ha => ?_, fun z => nomatch z⟩, fun z ez H' y X hy => ?_⟩
    · refine ⟨Nat.zero_le _, fun l hl => q _ l [] (X.of (Same.nu hl)) upd_same ?_⟩
      unfold carryL
      rw [hn]
      exact .nil
    · refine ⟨(by show 1 ≤ sizeLine; decide), fun l hl => q _ l [y] (X.of (Same.nu hl)) upd_same ?_⟩
      unfold carryL
      rw [ez]
      exact .cons (VAt.same (Same.nu hl) hy) .nil
/-- whether two values come back alike -/
def confB (o : Opt) (r : ROpt) (k : Nat) (d e : Val) : Prop := carryL o r k d ≠ [] ∧ carryL o r k d = carryL o r k e
theorem carryL_ok {o : Opt} {r : ROpt} {k : Nat} {d : Val} (h : Ok k d) : ∀ z ∈ carryL o r k d, Ok k z := fun z hz => by
  unfold carryL at hz
  cases e : Rz.carry o r k d with
  | none => rw [e] at hz; cases hz
  | some u =>
    rw [e] at hz
    have : z = u := by simpa using hz
    rw [this]
    exact carry_ok h e
theorem carryL_len {o : Opt} {r : ROpt} {k : Nat} {d : Val} : (carryL o r k d).length ≤ 4 := by
  unfold carryL
  cases Rz.carry o r k d <;> simp
theorem seqL_ok {o : Opt} {r : ROpt} {k : Nat} {d : Val} (h : Ok k d) : Ok (k + 1) (.seq true (carryL o r k d)) := .inr (.inl ⟨true, _, rfl, carryL_len, carryL_ok h⟩)
theorem Ok_pairs : ∀ pr ∈ pairsV, Ok 1 pr.1 ∧ Ok 1 pr.2 := by
  have f0 : okF (.int 0) := by show (0 : Int).natAbs < 10 ^ 21; decide
  have k5 : okK (.inl 5) := by show (5 : Int).natAbs < 10 ^ 21; decide
  have tb : ∀ {es : List (Key × Val)}, okE 0 es → Ok 1 (.tab es) := fun h => .inr (.inr ⟨_, rfl, h.1, h.2.1, h.2.2⟩)
  intro pr h
  simp only [pairsV, List.mem_cons, List.not_mem_nil, or_false] at h
  rcases h with rfl | rfl | rfl | rfl | rfl | rfl
  · exact ⟨.inr (.inl ⟨_, _, rfl, by decide, fun _ h => nomatch h⟩), .inr (.inl ⟨_, _, rfl, by decide, fun _ h => nomatch h⟩)⟩
  · exact ⟨.inl (by show (10 ^ 15 : Int).natAbs < 10 ^ 21; decide), .inl (by show (istr (10 ^ 15)).length ≤ 60; decide +kernel)⟩
  · exact ⟨tb okE0, tb (okE1 okN_k trivial)⟩
  · exact ⟨tb okE0, tb (okE1 k5 f0)⟩
  · exact ⟨tb (okE1 k5 f0), tb (okE1 okN_5 f0)⟩
  · exact ⟨tb (okE2 okN_b f0 okN_a f0 (by decide +kernel)), tb (okE2 okN_a f0 okN_b f0 (by decide +kernel))⟩
/-- the first pair of the list that is confused -/
def FoundP (o : Opt) (r : ROpt) (i : Nat) (pr : Val × Val) : Prop := pairsV[i]? = some pr ∧ confB o r 1 pr.1 pr.2 ∧ ∀ q ∈ pairsV.take i, ¬ confB o r 1 q.1 q.2
def spConf (K : PySem.W.Frag) : Sp := fun vs H Q _ => ∃ (p : Addr) (o : Opt) (r : ROpt), vs = [.ref p] ∧ PAt K H p o r ∧ LamX.Tabs (TT K) H ∧ ((∀ q ∈ pairsV, ¬ confB o r 1 q.1 q.2) → ∀ H', Xt K H H' → Q .non H') ∧
  ∀ i pr, FoundP o r i pr → ∀ H' t x y, Xt K H H' → H' t = some (.tup [x, y]) → VAt (CT K) H' 1 x pr.1 → VAt (CT K) H' 1 y pr.2 → Q (.ref t) H'
theorem ok_confused (T : Tx w K mg) (hTB : LamX.TabB base mg (He.codeOf K keD) (keT K)) : Gd P w K base mg CX0 14 (He.fAd K d_confused.at_) ["passage"] [] (spConf K) := by
  have G_confusable_pairs := ok_pairs (P := P) (w := w) (base := base) T
  have G_what_comes_back := ok_wcb (P := P) (w := w) (base := base) T hTB 1 (by decide)
  obtain ⟨⟨fdS, mvS, F_same, hb_same⟩, kp_same⟩ := ok_same (P := P) (w := w) (base := base) T 2
  refine mkGd (T.f_confused) sc_confused (fun vs H Q E h => ?_) (fun _ _ _ _ _ _ us hl => match us, hl with | [_], _ => rfl) (fun cdv A outer s H vs Q E hr h => ?_)
  · obtain ⟨p, o, r, rfl, _⟩ := h
    rfl
  · have hu := hu_of hr
    obtain ⟨p, o, r, rfl, hW, hT, qN, qF⟩ := h
    refine ⟨_, (pss_cons (ps_for PassesOwn.never rfl (pi_list (pe_callG0 G_confusable_pairs T.g_confusable_pairs (hr.mono (by first | decide | omega)) pass0)) (pg_tup rfl (pgs_cons (pg_name (i := 1) sc_confused.nd rfl (Or.inl rfl)) (pgs_cons (pg_name (i := 2) sc_confused.nd rfl (Or.inl rfl)) pgs_nil)))
      (pss_cons (ps_set (i := 3) sc_confused.nd rfl (Or.inl rfl) (pe_callG G_what_comes_back T.g_what_comes_back (hr.mono (by first | decide | omega)) pass0 (pa_cons (pv 0) (pa_cons (pv 1) pa_nil))))
      (pss_one (ps_if (PW.pt (pw_and (pt_cmpR (op_neE hr.units) (pv 3) (pe_lst pa_nil) (nomark _)) (pw_and1 (pt_val (pe_callN F_same (hr.mono (by first | decide | omega)) rfl T.g_same kp_same hb_same pass0 (pa_cons (pv 3) (pa_cons (pe_callG G_what_comes_back T.g_what_comes_back (hr.mono (by first | decide | omega)) pass0 (pa_cons (pv 0) (pa_cons (pv 2) pa_nil))) pa_nil)) (pk_cons pe_bl pk_nil)))))) (pss_one (ps_ret (pe_tup (pa_cons (pv 1) (pa_cons (pv 2) pa_nil))))) pss_nil))))
      (pss_one (ps_ret pe_non))), ?_⟩
    refine ⟨rfl, fun H1 l ts s1 hl hp => ⟨l, rfl, ⟨ts, SqL.of hl⟩, for_list (xs := ts) (fun i σ H' => (∃ u v z, σ = [some (.ref p), u, v, z]) ∧ Xt K H1 H' ∧ ∀ q ∈ pairsV.take i, ¬ confB o r 1 q.1 q.2) ⟨⟨_, _, _, rfl⟩, Xt.same (hT.ext s1) (Same.refl _), by rw [List.take_zero]; exact fun _ h => nomatch h⟩ (fun i σ H' _ h => SqL.of (h.2.1.1 _ _ hl fun _ z => nomatch z)) ?_ ?_⟩⟩
    · rintro i t σ H' ht ⟨⟨u, v, z, rfl⟩, X, hb⟩
      obtain ⟨pr, hpr, b, x, y, rfl, hbt, hx, hy⟩ := Paired.at hp ht
      obtain ⟨ok1, ok2⟩ := Ok_pairs pr (List.mem_of_getElem? hpr)
      rw [cut_nil] at hx hy
      have X0 : Xt K H H' := Xt.trans (Xt.same hT s1) X
      have hx' := VAt.x X.1 hx
      have hy' := VAt.x X.1 hy
      refine ⟨b, _, rfl, SqT.of (X.1 _ _ hbt fun _ z => nomatch z), rfl, _, _, rfl, _, _, rfl, rfl, ?_⟩
      refine ⟨_, rfl, _, rfl, p, x, o, r, pr.1, rfl, PAt.x hW X0.1, hx', ok1, X0.2, fun H2 l1 ys X2 hl1 hp1 => ?_⟩
      have next : ∀ H3, Xt K H2 H3 → ¬ confB o r 1 pr.1 pr.2 → (∃ u v z, [some (.ref p), some x, some y, some (.ref l1)] = [some (V.ref p), u, v, z]) ∧ Xt K H1 H3 ∧ ∀ q ∈ pairsV.take (i + 1), ¬ confB o r 1 q.1 q.2 := fun H3 X3 hno =>
        ⟨⟨_, _, _, rfl⟩, Xt.trans (Xt.trans X X2) X3, fun q hq => by
          rw [take_snoc hpr] at hq
          rcases List.mem_append.mp hq with z | z
          · exact hb q z
          · rw [List.mem_singleton.mp z]; exact hno⟩
      refine ⟨_, rfl, Nat.zero_le _, fun e0 he0 => ?_⟩
      have ne := Same.nu (o := .lst []) he0
      refine ⟨l1, e0, ys, rfl, rfl, SqL.of (ne _ _ hl1), SqL.of upd_same, _, rfl, ?_⟩
      have hyl := Paired.length hp1
      by_cases hc : carryL o r 1 pr.1 = []
      · have : ys = [] := by
          rw [hc] at hp1
          cases hp1
          rfl
        rw [this]
        exact iteF (next _ (Xt.same X2.2 ne) fun z => z.1 hc)
      · have : ys.isEmpty = false := by
          cases ys with
          | nil => exact absurd (List.length_eq_zero_iff.mp hyl.symm) hc
          | cons a r => rfl
        rw [this]
        have X3 := X2.of ne
        refine iteT ⟨_, rfl, _, rfl, _, rfl, p, y, o, r, pr.2, rfl, PAt.x hW (X0.1.trans X3.1), VAt.x X3.1 hy', ok2, X3.2, fun H4 l2 zs X4 hl2 hp2 => ?_⟩
        refine ⟨rfl, rfl, .ref l1, .ref l2, .seq true (carryL o r 1 pr.1), .seq true (carryL o r 1 pr.2), rfl, .inr (.inl ⟨true, _, l1, ys, rfl, rfl, X4.1 _ _ (ne _ _ hl1) (fun _ z => nomatch z), Paired.mapP hp1 fun _ _ h => VAt.x X4.1 (VAt.same ne h)⟩), .inr (.inl ⟨true, _, l2, zs, rfl, rfl, hl2, hp2⟩), seqL_ok ok1, seqL_ok ok2, fun r' H5 s5 hr5 => ⟨_, rfl, ?_⟩⟩
        have X5 := X4.of s5
        cases r' with
        | true =>
          have hcf : confB o r 1 pr.1 pr.2 := ⟨hc, by have := hr5.mp rfl; injection this⟩
          refine iteT ⟨_, rfl, _, rfl, (by show 2 ≤ sizeLine; decide), fun t ht => ?_⟩
          have nt := Same.nu (o := .tup [x, y]) ht
          have XX := (Xt.trans (Xt.trans X0 X3) X5).of nt
          exact qF i pr ⟨hpr, hcf, hb⟩ _ t x y XX upd_same (VAt.same nt (VAt.x X5.1 (VAt.x X3.1 hx'))) (VAt.same nt (VAt.x X5.1 (VAt.x X3.1 hy')))
        | false =>
          exact iteF (next _ ((Xt.same X2.2 ne).trans X5) fun z => absurd (hr5.mpr (by rw [z.2])) (by simp))
    · rintro σ H' ⟨⟨u, v, z, rfl⟩, X, hb⟩
      exact qN (fun q hq => hb q (by rw [Paired.length hp, List.take_length]; exact hq)) H' (Xt.trans (Xt.same hT s1) X)
end
end Kt
set_option Elab.async false
set_option linter.all false
set_option maxRecDepth 100000
set_option maxHeartbeats 4000000
namespace Kt
open PySem PySem.Spec PyProof.Rows L2 Rz _root_.TL
section
variable {P : Program} {w : World} {K : PySem.W.Frag} {mg : Str → Option Value} {base : Heap}
/-- at p stands a source of draws, at most n numbers mixed so far -/
def Dr (H : Hp) (p : Addr) (n : Nat) : Prop := ∃ g m c : Int, H p = some (.lst [.int g, .int m, .int c]) ∧ 0 ≤ g ∧ 0 ≤ m ∧ m < 4000000000000000000 ∧ 0 ≤ c ∧ c ≤ (n : Int)
theorem Dr.up {H : Hp} {p : Addr} {n m : Nat} (h : Dr H p n) (e : n ≤ m) : Dr H p m := by
  obtain ⟨g, k, c, h1, h2, h3, h4, h5, h6⟩ := h
  exact ⟨g, k, c, h1, h2, h3, h4, h5, by omega⟩
theorem Dr.same {H H' : Hp} {p : Addr} {n : Nat} (h : Dr H p n) (s : Same H H') : Dr H' p n := by
  obtain ⟨g, k, c, h1, h2⟩ := h
  exact ⟨g, k, c, s _ _ h1, h2⟩
theorem Dr.ne {H : Hp} {p q : Addr} {n : Nat} (h : Dr H p n) (e : H q = none) : q ≠ p := by
  obtain ⟨g, k, c, h1, h2⟩ := h
  exact fun z => by rw [z, h1] at e; cases e
theorem Sx.one {H H' : Hp} {p b : Addr} {o : HO} (s : Sx [p] H H') (h : b ≠ p) (e : H b = some o) : H' b = some o := s b o (by simpa using h) e
theorem Sx.sm {H H1 H' : Hp} {ps : List Addr} (s : Sx ps H H1) (e : Same H1 H') : Sx ps H H' := s.trans (Sx.of e)
def spSource (K : PySem.W.Frag) : Sp := fun vs H Q _ => ∃ (a : Addr) (ns : List Int) (i : Nat), vs = [.ref a, .int (i : Int)] ∧ SqL K H a (ns.map V.int) ∧ i ≤ 63 ∧ ∀ p H', H p = none → Same H H' → Dr H' p 0 → Q (.ref p) H'
theorem ok__law_source (T : Tx w K mg) : Gd P w K base mg CX0 1 (He.fAd K d__law_source.at_) ["_law_script", "_law_place"] [] (spSource K) := by
  refine mkGd (T.f__law_source) sc__law_source (fun vs H Q E h => ?_) (fun _ _ _ _ _ _ us hl => match us, hl with | [_, _], _ => rfl) (fun cdv A outer s H vs Q E hr h => ?_)
  · obtain ⟨a, ns, i, rfl, _⟩ := h
    rfl
  · have hu := hu_of hr
    obtain ⟨a, ns, i, rfl, hS, hi, q⟩ := h
    refine ⟨_, (pss_cons (ps_set (i := 2) sc__law_source.nd rfl (Or.inl rfl) (pe_ifExp (pt_cmpR op_lt (pv 1) (pe_callB call_len_seq (by rfl) T.n_len PySem.boot_len (pa_cons (pv 0) pa_nil)) (nomark _)) (pe_ix (r := rIxL K) ix_list (pv 0) (pv 1) (fun _ _ => rfl)) pe_int))
      (pss_cons (ps_set (i := 3) sc__law_source.nd rfl (Or.inl rfl) (pe_ifExp (pt_cmpR op_ge (pe_callB call_abs (by rfl) T.n_abs (by decide +kernel) (pa_cons (pv 2) pa_nil)) (pe_op op_pow pe_int pe_int) (nomark _)) (pe_callB call_abs (by rfl) T.n_abs (by decide +kernel) (pa_cons (pv 2) pa_nil)) pe_int))
      (pss_one (ps_ret (pe_lst (pa_cons (pv 3) (pa_cons (pe_op op_add (pe_op op_add (pe_op op_mod (pe_callTy call_int1 (by rfl) T.n_int (by decide +kernel) (pa_cons (pv 2) pa_nil)) pe_int) (pe_op op_mul pe_int (pv 1))) pe_int) (pa_cons pe_int pa_nil)))))))), ?_⟩
    refine ⟨_, rfl, _, rfl, a, _, rfl, Or.inl hS, _, _, rfl, rfl, _, rfl, ite2 (fun hlt => ?_) (fun _ => ?_)⟩
    · have hlt : (i : Int) < ((ns.map V.int).length : Int) := of_decide_eq_true hlt
      have hlt' : i < ns.length := by
        rw [List.length_map] at hlt
        omega
      refine ⟨_, rfl, _, rfl, a, _, _, V.int ns[i], rfl, rfl, hS, at_of (j := i) rfl (by simp [hlt']), ?_⟩
      refine ⟨_, rfl, _, rfl, _, _, rfl, rfl, ⟨by decide, by decide, by decide⟩, _, _, rfl, rfl, _, rfl, ite2 (fun _ => ⟨_, rfl, _, rfl, ?_⟩) (fun _ => ?_)⟩
      all_goals
        refine ⟨_, rfl, _, rfl, .inl ⟨_, rfl, _, _, rfl, rfl, (by show (0 : Int) < 2305843009213693907; decide), _, rfl, _, _, rfl, rfl, .inl ⟨by decide, by decide⟩, _, _, rfl, rfl, _, _, rfl, rfl, (by show 3 ≤ sizeLine; decide), fun p hp => ?_⟩⟩
        refine q p _ hp (Same.nu hp) ⟨_, _, 0, upd_same, ?_, ?_, ?_, by omega, by omega⟩
        · first | omega | (split <;> omega)
        · have := Int.emod_nonneg (ns[i]) (show (2305843009213693907 : Int) ≠ 0 by decide)
          omega
        · have := Int.emod_lt_of_pos (ns[i]) (show (0 : Int) < 2305843009213693907 by decide)
          omega
    · refine ⟨_, rfl, _, rfl, _, _, rfl, rfl, ⟨by decide, by decide, by decide⟩, _, _, rfl, rfl, _, rfl, ite2 (fun _ => ⟨_, rfl, _, rfl, ?_⟩) (fun _ => ?_)⟩
      all_goals
        refine ⟨_, rfl, _, rfl, .inl ⟨_, rfl, _, _, rfl, rfl, (by show (0 : Int) < 2305843009213693907; decide), _, rfl, _, _, rfl, rfl, .inl ⟨by decide, by decide⟩, _, _, rfl, rfl, _, _, rfl, rfl, (by show 3 ≤ sizeLine; decide), fun p hp => ?_⟩⟩
        refine q p _ hp (Same.nu hp) ⟨_, _, 0, upd_same, ?_, ?_, ?_, by omega, by omega⟩
        · first | decide | omega
        · have : (0 : Int) % 2305843009213693907 = 0 := by decide
          omega
        · have : (0 : Int) % 2305843009213693907 = 0 := by decide
          omega
def spDraw : Sp := fun vs H Q _ => ∃ (p : Addr) (n : Nat) (m : Int), vs = [.ref p, .int m] ∧ Dr H p n ∧ n < 1000000 ∧ 0 < m ∧ m < 2 ^ 70 ∧ ∀ d H', 0 ≤ d → d < m → Dr H' p (n + 1) → Sx [p] H H' → Q (.int d) H'
theorem ok__law_draw (T : Tx w K mg) : Gd P w K base mg CX0 1 (He.fAd K d__law_draw.at_) ["_law_source_here", "_law_many"] [] spDraw := by
  refine mkGd (T.f__law_draw) sc__law_draw (fun vs H Q E h => ?_) (fun _ _ _ _ _ _ us hl => match us, hl with | [_, _], _ => rfl) (fun cdv A outer s H vs Q E hr h => ?_)
  · obtain ⟨p, n, m, rfl, _⟩ := h
    rfl
  · have hu := hu_of hr
    obtain ⟨p, n, m, rfl, D, hn, hm0, hm1, q⟩ := h
    obtain ⟨g, k, c, hp, hg, hk0, hk1, hc0, hc1⟩ := D
    refine ⟨_, (pss_cons (ps_if (pt_cmpR op_gt (pe_ix (r := rIxL K) ix_list (pv 0) pe_int (fun _ _ => rfl)) pe_int (nomark _)) (pss_cons (ps_set (i := 2) sc__law_draw.nd rfl (Or.inl rfl) (pe_op op_mod (pe_callTy call_int1 (by rfl) T.n_int (by decide +kernel) (pa_cons (pe_ix (r := rIxL K) ix_list (pv 0) pe_int (fun _ _ => rfl)) pa_nil)) (pv 1)))
      (pss_cons (ps_asg (pe_op op_fdivW (pe_ix (r := rIxL K) ix_list (pv 0) pe_int (fun _ _ => rfl)) (pv 1)) (pg_sub (pv 0) pe_int set_list))
      (pss_one (ps_ret (pv 2))))) pss_nil)
      (pss_cons (ps_asg (pe_op op_add (pe_ix (r := rIxL K) ix_list (pv 0) pe_int (fun _ _ => rfl)) pe_int) (pg_sub (pv 0) pe_int set_list))
      (pss_cons (ps_set (i := 3) sc__law_draw.nd rfl (Or.inl rfl) (pe_op op_mod (pe_callTy call_int1 (by rfl) T.n_int (by decide +kernel) (pa_cons (pe_op op_pow (pe_op op_add (pe_ix (r := rIxL K) ix_list (pv 0) pe_int (fun _ _ => rfl)) (pe_op op_mul pe_int (pe_ix (r := rIxL K) ix_list (pv 0) pe_int (fun _ _ => rfl)))) pe_int) pa_nil)) pe_int))
      (pss_cons (ps_set (i := 3) sc__law_draw.nd rfl (Or.inl rfl) (pe_op op_mod (pe_callTy call_int1 (by rfl) T.n_int (by decide +kernel) (pa_cons (pe_op op_pow (pe_op op_add (pv 3) (pe_op op_mul pe_int (pe_ix (r := rIxL K) ix_list (pv 0) pe_int (fun _ _ => rfl)))) pe_int) pa_nil)) pe_int))
      (pss_one (ps_ret (pe_op op_mod (pe_callTy call_int1 (by rfl) T.n_int (by decide +kernel) (pa_cons (pe_op op_fdiv (pv 3) pe_int) pa_nil)) (pv 1)))))))), ?_⟩
    refine ⟨_, rfl, p, _, 0, _, rfl, rfl, SqL.of hp, at_of (j := 0) rfl rfl, _, _, rfl, rfl, _, rfl, ite2 (fun _ => ?_) (fun _ => ?_)⟩
    · refine ⟨_, rfl, p, _, 0, _, rfl, rfl, SqL.of hp, at_of (j := 0) rfl rfl, .inl ⟨_, rfl, _, rfl, _, _, rfl, rfl, hm0, ?_⟩⟩
      refine ⟨_, rfl, p, _, 0, _, rfl, rfl, SqL.of hp, at_of (j := 0) rfl rfl, _, rfl, _, _, rfl, rfl, wide_div (b := 70) hm0 (by omega) (by decide) (by decide), ?_⟩
      refine ⟨_, rfl, p, _, _, 0, rfl, rfl, hp, rfl, ?_⟩
      exact ⟨_, rfl, q _ _ (Int.emod_nonneg _ (by omega)) (Int.emod_lt_of_pos _ hm0) ⟨g / m, k, c, upd_same, Int.ediv_nonneg hg (by omega), hk0, hk1, hc0, by omega⟩ (Sx.up (by simp))⟩
    · refine ⟨_, rfl, p, _, 2, _, rfl, rfl, SqL.of hp, at_of (j := 2) rfl rfl, _, _, rfl, rfl, _, rfl, p, _, _, 2, rfl, rfl, hp, rfl, ?_⟩
      have hp1 : (upd H p (.lst [.int g, .int k, .int (c + 1)])) p = some (.lst [.int g, .int k, .int (c + 1)]) := upd_same
      refine ⟨_, rfl, p, _, 1, _, rfl, rfl, SqL.of hp1, at_of (j := 1) rfl rfl, _, rfl, p, _, 2, _, rfl, rfl, SqL.of hp1, at_of (j := 2) rfl rfl, _, _, rfl, rfl, .inl ⟨by decide, by decide⟩, _, _, rfl, rfl, _, _, rfl, rfl, ⟨by decide, by decide, by omega⟩, .inl ⟨_, rfl, _, _, rfl, rfl, (by show (0 : Int) < 2305843009213693921; decide), ?_⟩⟩
      have b0 := Int.emod_nonneg ((k + 611953 * (c + 1)) ^ (3 : Int).toNat) (show (2305843009213693921 : Int) ≠ 0 by decide)
      have b1 := Int.emod_lt_of_pos ((k + 611953 * (c + 1)) ^ (3 : Int).toNat) (show (0 : Int) < 2305843009213693921 by decide)
      generalize (k + 611953 * (c + 1)) ^ (3 : Int).toNat % 2305843009213693921 = x at b0 b1 ⊢
      refine ⟨_, rfl, _, rfl, p, _, 2, _, rfl, rfl, SqL.of hp1, at_of (j := 2) rfl rfl, _, _, rfl, rfl, .inl ⟨by decide, by decide⟩, _, _, rfl, rfl, _, _, rfl, rfl, ⟨by decide, by decide, by omega⟩, .inl ⟨_, rfl, _, _, rfl, rfl, (by show (0 : Int) < 2305843009213693951; decide), ?_⟩⟩
      refine ⟨_, rfl, _, _, rfl, rfl, ⟨by decide, by decide⟩, .inl ⟨_, rfl, _, rfl, _, _, rfl, rfl, hm0, ?_⟩⟩
      exact q _ _ (Int.emod_nonneg _ (by omega)) (Int.emod_lt_of_pos _ hm0) ⟨g, k, c + 1, upd_same, hg, hk0, hk1, by omega, by omega⟩ (Sx.up (by simp))
def spPick (K : PySem.W.Frag) : Sp := fun vs H Q _ => ∃ (p l : Addr) (n : Nat) (xs : List V), vs = [.ref p, .ref l] ∧ Dr H p n ∧ n < 1000000 ∧ H l = some (.lst xs) ∧ l ≠ p ∧ 0 < xs.length ∧ xs.length ≤ 1000 ∧ ∀ x ∈ xs, ∀ H', Dr H' p (n + 1) → Sx [p] H H' → Q x H'
theorem ok__law_pick (T : Tx w K mg) : Gd P w K base mg CX0 2 (He.fAd K d__law_pick.at_) ["_law_source_here", "_law_some"] [] (spPick K) := by
  have G__law_draw := ok__law_draw (P := P) (w := w) (base := base) T
  refine mkGd (T.f__law_pick) sc__law_pick (fun vs H Q E h => ?_) (fun _ _ _ _ _ _ us hl => match us, hl with | [_, _], _ => rfl) (fun cdv A outer s H vs Q E hr h => ?_)
  · obtain ⟨p, l, n, xs, rfl, _⟩ := h
    rfl
  · have hu := hu_of hr
    obtain ⟨p, l, n, xs, rfl, D, hn, hl, hne, h0, h1, q⟩ := h
    refine ⟨_, (pss_one (ps_ret (pe_ix (r := rIxL K) ix_list (pv 1) (pe_callG G__law_draw T.g__law_draw (hr.mono (by first | decide | omega)) pass0 (pa_cons (pv 0) (pa_cons (pe_callB call_len_seq (by rfl) T.n_len PySem.boot_len (pa_cons (pv 1) pa_nil)) pa_nil))) (fun _ _ => rfl)))), ?_⟩
    refine ⟨_, rfl, _, rfl, _, rfl, l, _, rfl, Or.inl (SqL.of hl), p, n, _, rfl, D, hn, by omega, by omega, fun d H1 d0 d1 D1 s1 => ?_⟩
    have hd : d.toNat < xs.length := by omega
    exact ⟨l, _, d, xs[d.toNat], rfl, rfl, SqL.of (s1.one hne hl), at_of (j := d.toNat) (by omega) (by simp [hd]), q _ (List.getElem_mem hd) H1 D1 s1⟩
/-- a word of letters -/
def WordS (z : Str) : Prop := 1 ≤ (tl z).length ∧ (tl z).length ≤ 4 ∧ ∀ c ∈ tl z, 97 ≤ c ∧ c ≤ 122
def abc : Str := "abcdefghijklmnopqrstuvwxyz"
theorem abc_at : ∀ j, j < 26 → (tl abc)[j]? = some (97 + j) := by decide +kernel
theorem abc_len : abc.length = 26 := by decide +kernel
def spWord : Sp := fun vs H Q _ => ∃ (p : Addr) (n : Nat), vs = [.ref p] ∧ Dr H p n ∧ n < 900000 ∧ ∀ z H', WordS z → Dr H' p (n + 5) → Sx [p] H H' → Q (.str z) H'
theorem ok__law_word (T : Tx w K mg) : Gd P w K base mg CX0 2 (He.fAd K d__law_word.at_) ["_law_source_here"] [] spWord := by
  have G__law_draw := ok__law_draw (P := P) (w := w) (base := base) T
  refine mkGd (T.f__law_word) sc__law_word (fun vs H Q E h => ?_) (fun _ _ _ _ _ _ us hl => match us, hl with | [_], _ => rfl) (fun cdv A outer s H vs Q E hr h => ?_)
  · obtain ⟨p, n, rfl, _⟩ := h
    rfl
  · have hu := hu_of hr
    obtain ⟨p, n, rfl, D, hn, q⟩ := h
    refine ⟨_, (pss_cons (ps_set (i := 1) sc__law_word.nd rfl (Or.inl rfl) pe_str)
      (pss_cons (ps_for PassesOwn.never rfl (pi_range1 rfl T.n_range (pa_cons (pe_op op_add pe_int (pe_callG G__law_draw T.g__law_draw (hr.mono (by first | decide | omega)) pass0 (pa_cons (pv 0) (pa_cons pe_int pa_nil)))) pa_nil)) (pg_name (i := 2) sc__law_word.nd rfl (Or.inl rfl))
      (pss_one (ps_set (i := 1) sc__law_word.nd rfl (Or.inl rfl) (pe_op op_add_str (pv 1) (pe_ix ix_str pe_str (pe_callG G__law_draw T.g__law_draw (hr.mono (by first | decide | omega)) pass0 (pa_cons (pv 0) (pa_cons pe_int pa_nil))) (fun _ _ => rfl))))))
      (pss_one (ps_ret (pv 1))))), ?_⟩
    refine ⟨_, rfl, p, n, 4, rfl, D, by omega, by decide, by decide, fun d H1 d0 d1 D1 s1 => ⟨_, _, rfl, rfl, _, rfl, by omega, by omega, for_range (lo := 0) (n := (1 + d).toNat) (fun i σ H' => (∃ z v, σ = [some (.ref p), some (.str z), v] ∧ (tl z).length = i ∧ ∀ c ∈ tl z, 97 ≤ c ∧ c ≤ 122) ∧ Dr H' p (n + 1 + i) ∧ Sx [p] H H')
      ⟨⟨_, _, rfl, rfl, fun c hc => nomatch hc⟩, D1, s1⟩ ?_ ?_⟩⟩
    · rintro i σ H' hi ⟨⟨z, v, rfl, hz, hc⟩, D2, s2⟩
      refine ⟨_, rfl, _, rfl, p, _, 26, rfl, D2, by omega, by decide, by decide, fun e H2 e0 e1 D3 s3 => ?_⟩
      have he : e.toNat < 26 := by omega
      refine ⟨abc, e, 97 + e.toNat, rfl, rfl, (by rw [abc_len]; decide), ?_, _, _, rfl, rfl, ?_, ?_⟩
      · have : e = ((e.toNat : Nat) : Int) := by omega
        rw [this]
        exact atI_nat (abc_at _ he)
      · show z.length + 1 ≤ sizeLine
        rw [len_tl, hz]
        exact Nat.le_of_lt (small1000 (by omega))
      · refine ⟨⟨_, _, rfl, ?_, fun c h => ?_⟩, D3.up (by omega), s2.trans s3⟩
        · rw [tl_append, List.length_append, hz]
          rfl
        · rw [tl_append] at h
          rcases List.mem_append.mp h with h | h
          · exact hc c h
          · have h : c ∈ [97 + e.toNat] := h
            rw [List.mem_singleton.mp h]
            omega
    · rintro σ H' ⟨⟨z, v, rfl, hz, hc⟩, D2, s2⟩
      exact ⟨_, rfl, q z H' ⟨by omega, by omega, hc⟩ (D2.up (by omega)) s2⟩
end
end Kt
set_option Elab.async false
set_option linter.all false
set_option maxRecDepth 100000
set_option maxHeartbeats 4000000
namespace Kt
open PySem PySem.Spec PyProof.Rows L2 Rz _root_.TL
section
variable {P : Program} {w : World} {K : PySem.W.Frag} {mg : Str → Option Value} {base : Heap}
/-- the digits that are looked at -/
def digs (z : Str) : Str := if decide (V.str (cutS z none (some 1)) = V.str "-") = true then cutS z (some 1) none else z
def isNum (z : Str) : Bool := Txt.isdigit (digs z) && (decide (V.str z = V.str "0") || !decide (V.str ⟨#[(tl (digs z)).getD 0 0]⟩ = V.str "0"))
theorem str_ext {x y : Str} (h : tl x = tl y) : x = y := by
  obtain ⟨a⟩ := x
  obtain ⟨b⟩ := y
  have : a = b := Array.toList_inj.mp h
  rw [this]
theorem cut1_tl (z : Str) : tl (cutS z none (some 1)) = (tl z).take 1 := by
  have e1 : HT.sIx z.length 0 none = 0 := rfl
  unfold cutS
  rw [e1]
  show ((z.cps.toList.drop 0).take (HT.sIx z.length z.length (some 1) - 0)) = _
  have hl : z.length = (tl z).length := len_tl z
  have e2 : HT.sIx z.length z.length (some 1) = min 1 z.length := by
    rw [hl]
    unfold HT.sIx
    first
      | rfl
      | (simp; done)
      | (simp; omega)
  rw [e2, hl, List.drop_zero, Nat.sub_zero]
  cases h : tl z with
  | nil => simp [h]
  | cons a r => simp [h]
theorem digs_same {z : Str} (h : (tl z)[0]? ≠ some 45) : digs z = z := by
  unfold digs
  rw [if_neg]
  simp only [decide_eq_true_eq]
  intro e
  have e1 := congrArg tl (V.str.inj e)
  rw [cut1_tl] at e1
  have e2 : tl ("-" : Str) = [45] := by decide +kernel
  rw [e2] at e1
  cases hz : tl z with
  | nil => rw [hz] at e1; simp at e1
  | cons a r =>
    rw [hz] at e1 h
    simp at e1 h
    exact h e1
theorem letter_no : ∀ c, 97 ≤ c → c ≤ 122 → Unicode.isDigit c = false := by
  have : ∀ c ∈ List.range' 97 26, Unicode.isDigit c = false := by decide +kernel
  exact fun c h1 h2 => this c (List.mem_range'.mpr ⟨c - 97, by omega, by omega⟩)
theorem isdigit_no {z : Str} {c : Nat} (h : c ∈ tl z) (hc : Unicode.isDigit c = false) : Txt.isdigit z = false := by
  unfold Txt.isdigit
  rw [Bool.and_eq_false_iff]
  refine .inr ?_
  rw [← Array.all_toList]
  exact List.all_eq_false.mpr ⟨c, h, by rw [hc]; simp⟩
theorem isNum_no {z : Str} (h : (tl z)[0]? ≠ some 45) {c : Nat} (hc : c ∈ tl z) (h1 : 97 ≤ c) (h2 : c ≤ 122) : isNum z = false := by
  unfold isNum
  rw [digs_same h, isdigit_no hc (letter_no c h1 h2)]
  rfl
theorem isDK_no {z : Str} (h : (tl z)[0]? ≠ some 45) {c : Nat} (hc : c ∈ tl z) (h1 : 97 ≤ c) (h2 : c ≤ 122) : isDK z = false := by
  have e : Txt.removeprefix z "-" = z := by
    rw [PySem.StrLaws.removeprefix_eq, if_neg]
    intro q
    obtain ⟨_, q2⟩ := Bool.and_eq_true_iff.mp q
    rw [PySem.StrLaws.subAt_eq, List.drop_zero] at q2
    have e1 : ("-" : Str).cps.toList = [45] := by decide +kernel
    have e2 : ("-" : Str).length = 1 := by decide +kernel
    rw [e1, e2] at q2
    have q3 : (tl z).take 1 = [45] := by simpa using q2
    refine h ?_
    cases hz : tl z with
    | nil => rw [hz] at q3; simp at q3
    | cons a r => rw [hz] at q3; simpa using q3
  unfold isDK
  rw [e, isdigit_no hc (letter_no c h1 h2)]
  rfl
/-- a string that is no digit key -/
def TKs (z : Str) : Prop := z.length ≤ 5 ∧ isNum z = false ∧ isNum (z ++ "a") = false ∧ isDK z = false ∧ isDK (z ++ "a") = false
theorem tl_a : tl ("a" : Str) = [97] := by decide +kernel
theorem TKs.of {z : Str} (hl : z.length ≤ 5) (h0 : (tl z)[0]? ≠ some 45) {c : Nat} (hc : c ∈ tl z) (h1 : 97 ≤ c) (h2 : c ≤ 122) : TKs z := by
  have ha : (tl (z ++ "a"))[0]? ≠ some 45 := by
    rw [tl_append, tl_a]
    cases h : tl z with
    | nil => simp
    | cons a r => rw [h] at h0; simpa using h0
  have hm : 97 ∈ tl (z ++ "a") := by
    rw [tl_append, tl_a]
    simp
  exact ⟨hl, isNum_no h0 hc h1 h2, isNum_no ha hm (by decide) (by decide), isDK_no h0 hc h1 h2, isDK_no ha hm (by decide) (by decide)⟩
theorem tk_word {z : Str} (h : WordS z) : TKs z := by
  obtain ⟨h1, h2, h3⟩ := h
  cases e : tl z with
  | nil => rw [e] at h1; simp at h1
  | cons a r =>
    have ha := h3 a (by rw [e]; simp)
    exact TKs.of (by rw [len_tl]; omega) (by rw [e]; simp; omega) (c := a) (by rw [e]; simp) ha.1 ha.2
theorem tk_sword {z : Str} (h : WordS z) : TKs (" " ++ z) := by
  obtain ⟨h1, h2, h3⟩ := h
  have e2 : tl (" " : Str) = [32] := by decide +kernel
  cases e : tl z with
  | nil => rw [e] at h1; simp at h1
  | cons a r =>
    have ha := h3 a (by rw [e]; simp)
    exact TKs.of (by rw [len_tl, tl_append, e2, List.length_append, List.length_singleton]; omega) (by rw [tl_append, e2]; simp) (c := a) (by rw [tl_append, e]; simp) ha.1 ha.2
theorem tk_fix : TKs "" ∧ (∀ j : Nat, j < 3 → TKs ("k" ++ toString (j : Int))) ∧ ∀ j : Nat, j < 10 → TKs ("0" ++ toString (j : Int)) := by
  refine ⟨?_, fun j hj => ?_, fun j hj => ?_⟩
  · exact ⟨by decide +kernel, by decide +kernel, by decide +kernel, by decide +kernel, by decide +kernel⟩
  · have hc : j = 0 ∨ j = 1 ∨ j = 2 := by omega
    rcases hc with rfl | rfl | rfl <;> exact ⟨by decide +kernel, by decide +kernel, by decide +kernel, by decide +kernel, by decide +kernel⟩
  · have hc : j = 0 ∨ j = 1 ∨ j = 2 ∨ j = 3 ∨ j = 4 ∨ j = 5 ∨ j = 6 ∨ j = 7 ∨ j = 8 ∨ j = 9 := by omega
    rcases hc with rfl | rfl | rfl | rfl | rfl | rfl | rfl | rfl | rfl | rfl <;> exact ⟨by decide +kernel, by decide +kernel, by decide +kernel, by decide +kernel, by decide +kernel⟩
theorem small_log {d m : Int} (h0 : 0 ≤ d) (h1 : d < m) (hm : m ≤ 1000000) : d.natAbs.log2 < 1920 := log_of (by omega)
def spTKey : Sp := fun vs H Q _ => ∃ (p : Addr) (n : Nat), vs = [.ref p] ∧ Dr H p n ∧ n < 800000 ∧ ∀ z H', TKs z → Dr H' p (n + 8) → Sx [p] H H' → Q (.str z) H'
theorem ok__law_text_key (T : Tx w K mg) : Gd P w K base mg CX0 3 (He.fAd K d__law_text_key.at_) ["_law_source_here"] [] spTKey := by
  have G__law_draw := ok__law_draw (P := P) (w := w) (base := base) T
  have G__law_word := ok__law_word (P := P) (w := w) (base := base) T
  refine mkGd (T.f__law_text_key) sc__law_text_key (fun vs H Q E h => ?_) (fun _ _ _ _ _ _ us hl => match us, hl with | [_], _ => rfl) (fun cdv A outer s H vs Q E hr h => ?_)
  · obtain ⟨p, n, rfl, _⟩ := h
    rfl
  · have hu := hu_of hr
    obtain ⟨p, n, rfl, D, hn, q⟩ := h
    refine ⟨_, (pss_cons (ps_par (i := 1) (j := 2) (by rfl) sc__law_text_key.nd rfl rfl (by decide) rfl rfl (pa_cons (pe_callG G__law_draw T.g__law_draw (hr.mono (by first | decide | omega)) pass0 (pa_cons (pv 0) (pa_cons pe_int pa_nil))) (pa_cons (pe_callG G__law_word T.g__law_word (hr.mono (by first | decide | omega)) pass0 (pa_cons (pv 0) pa_nil)) pa_nil)) (by rfl))
      (pss_cons (ps_if (pt_cmpR op_lt (pv 1) pe_int (nomark _)) (pss_one (ps_ret (pv 2))) pss_nil)
      (pss_one (ps_ret (pe_ix (r := rIxL K) ix_list (pe_lst (pa_cons pe_str (pa_cons (pe_op op_add_str pe_str (pe_callTy call_str_int (by rfl) T.n_str (by decide +kernel) (pa_cons (pe_callG G__law_draw T.g__law_draw (hr.mono (by first | decide | omega)) pass0 (pa_cons (pv 0) (pa_cons pe_int pa_nil))) pa_nil))) (pa_cons (pe_op op_add_str pe_str (pe_callTy call_str_int (by rfl) T.n_str (by decide +kernel) (pa_cons (pe_callG G__law_draw T.g__law_draw (hr.mono (by first | decide | omega)) pass0 (pa_cons (pv 0) (pa_cons pe_int pa_nil))) pa_nil))) (pa_cons (pe_op op_add_str pe_str (pv 2)) pa_nil))))) (pe_op op_sub (pv 1) pe_int) (fun _ _ => rfl)))))), ?_⟩
    refine ⟨_, rfl, p, n, 8, rfl, D, by omega, by decide, by decide, fun d H1 d0 d1 D1 s1 => ⟨_, rfl, p, n + 1, rfl, D1, by omega, fun z H2 hz D2 s2 => ⟨_, _, rfl, ?_⟩⟩⟩
    refine ⟨_, rfl, _, _, rfl, rfl, _, rfl, ite2 (fun _ => ⟨_, rfl, q z H2 (tk_word hz) (D2.up (by omega)) (s1.trans s2)⟩) (fun h4 => ?_)⟩
    have h4 : ¬ d < 4 := fun y => h4 (decide_eq_true y)
    have hzl : z.length ≤ 4 := by rw [len_tl]; exact hz.2.1
    refine ⟨_, rfl, p, _, 3, rfl, D2, by omega, by decide, by decide, fun e H3 e0 e1 D3 s3 => ⟨_, rfl, small_log e0 e1 (by decide), _, _, rfl, rfl, ?_, ?_⟩⟩
    · obtain ⟨j, rfl⟩ : ∃ j : Nat, e = j := ⟨e.toNat, by omega⟩
      have h := (tk_fix.2.1 j (by omega)).1
      rw [strLen_append] at h
      exact Nat.le_trans h (by decide)
    refine ⟨_, rfl, p, _, 10, rfl, D3, by omega, by decide, by decide, fun f H4 f0 f1 D4 s4 => ⟨_, rfl, small_log f0 f1 (by decide), _, _, rfl, rfl, ?_, ?_⟩⟩
    · obtain ⟨j, rfl⟩ : ∃ j : Nat, f = j := ⟨f.toNat, by omega⟩
      have h := (tk_fix.2.2 j (by omega)).1
      rw [strLen_append] at h
      exact Nat.le_trans h (by decide)
    refine ⟨_, rfl, _, _, rfl, rfl, ?_, (by show 4 ≤ sizeLine; decide), fun l hl => ?_⟩
    · have h := (tk_sword hz).1
      rw [strLen_append] at h
      exact Nat.le_trans h (by decide)
    have sF : Sx [p] H (upd H4 l (.lst [.str "", .str ("k" ++ toString e), .str ("0" ++ toString f), .str (" " ++ z)])) := ((((s1.trans s2).trans s3).trans s4)).mk hl
    have DF : Dr (upd H4 l (.lst [.str "", .str ("k" ++ toString e), .str ("0" ++ toString f), .str (" " ++ z)])) p (n + 8) := (D4.same (Same.nu hl)).up (by omega)
    refine ⟨_, rfl, _, _, rfl, rfl, ?_⟩
    have hc : d = 4 ∨ d = 5 ∨ d = 6 ∨ d = 7 := by omega
    rcases hc with rfl | rfl | rfl | rfl
    · exact ⟨l, _, _, _, rfl, rfl, SqL.of upd_same, at_of (j := 0) rfl rfl, q _ _ tk_fix.1 DF sF⟩
    · obtain ⟨j, rfl⟩ : ∃ j : Nat, e = j := ⟨e.toNat, by omega⟩
      exact ⟨l, _, _, _, rfl, rfl, SqL.of upd_same, at_of (j := 1) rfl rfl, q _ _ (tk_fix.2.1 j (by omega)) DF sF⟩
    · obtain ⟨j, rfl⟩ : ∃ j : Nat, f = j := ⟨f.toNat, by omega⟩
      exact ⟨l, _, _, _, rfl, rfl, SqL.of upd_same, at_of (j := 2) rfl rfl, q _ _ (tk_fix.2.2 j (by omega)) DF sF⟩
    · exact ⟨l, _, _, _, rfl, rfl, SqL.of upd_same, at_of (j := 3) rfl rfl, q _ _ (tk_sword hz) DF sF⟩
def spIsNum : Sp := fun vs H Q _ => ∃ z : Str, vs = [.str z] ∧ z.length ≤ 60 ∧ Q (.bl (isNum z)) H
theorem ok__law_is_number (T : Tx w K mg) : Gd P w K base mg CX0 1 (He.fAd K d__law_is_number.at_) ["_law_text"] [] spIsNum := by
  refine mkGd (T.f__law_is_number) sc__law_is_number (fun vs H Q E h => ?_) (fun _ _ _ _ _ _ us hl => match us, hl with | [_], _ => rfl) (fun cdv A outer s H vs Q E hr h => ?_)
  · obtain ⟨z, rfl, _⟩ := h
    rfl
  · have hu := hu_of hr
    obtain ⟨z, rfl, hz, q⟩ := h
    refine ⟨_, (pss_cons (ps_set (i := 1) sc__law_is_number.nd rfl (Or.inl rfl) (pe_ifExp (pt_cmpR op_eq (pe_slice sl_str (pv 0) po_none (po_some pe_int)) pe_str (nomark _)) (pe_slice sl_str (pv 0) (po_some pe_int) po_none) (pv 0)))
      (pss_one (ps_ret (pe_and (pe_m0 PySem.F.slot_str_isdigit PySem.F.type_str_isdigit mt_isdigit (pv 1)) (pe_one (pe_or (pe_cmpR op_eq (pv 0) pe_str (nomark _)) (pe_one (pe_cmpR op_ne (pe_ix ix_str (pv 1) pe_int (fun _ _ => rfl)) pe_str (nomark _))))))))), ?_⟩
    have hzl : z.length ≤ sizeLine := Nat.le_trans hz (by decide)
    have fin : ∀ dz : Str, digs z = dz → dz.length ≤ 60 → (if Txt.isdigit dz = true then (∃ c, (decide (V.str z = V.str "0")) = c ∧ if c = true then Q (.bl true) H else ∃ c0, atI (tl dz) 0 = some c0 ∧ Q (.bl (!decide (V.str ⟨#[c0]⟩ = V.str "0"))) H) else Q (.bl false) H) := fun dz e hl => by
      unfold isNum at q
      rw [e] at q
      cases h1 : Txt.isdigit dz with
      | false => rw [h1] at q; exact iteF q
      | true =>
        rw [h1] at q
        refine iteT ⟨_, rfl, ?_⟩
        cases h2 : decide (V.str z = V.str "0") with
        | true => rw [h2] at q; exact iteT q
        | false =>
          rw [h2] at q
          cases h3 : tl dz with
          | nil =>
            unfold Txt.isdigit at h1
            rw [len_tl, h3] at h1
            simp at h1
          | cons a r =>
            rw [h3] at q
            exact iteF ⟨a, atI_nat (j := 0) rfl, q⟩
    have hd : (digs z).length ≤ 60 := by
      unfold digs
      split
      · exact Nat.le_trans (cutS_length _ _ _) hz
      · exact hz
    refine ⟨_, rfl, _, rfl, z, rfl, hzl, rfl, _, rfl, ite2 (fun h => ⟨_, rfl, _, rfl, z, rfl, hzl, ?_⟩) (fun h => ⟨_, rfl, ?_⟩)⟩
    · have e : digs z = cutS z (some 1) none := if_pos h
      have F := fin _ e (by rw [← e]; exact hd)
      refine ⟨_, rfl, ⟨_, rfl⟩, _, rfl, rfl, trivial, _, rfl, ?_⟩
      split
      · rename_i h1
        rw [if_pos h1] at F
        obtain ⟨c, rfl, F⟩ := F
        refine ⟨_, rfl, rfl, _, rfl, ?_⟩
        split
        · rename_i h2
          rw [if_pos h2] at F
          exact F
        · rename_i h2
          rw [if_neg h2] at F
          obtain ⟨c0, hc, F⟩ := F
          exact ⟨_, rfl, _, 0, c0, rfl, rfl, Nat.le_trans (cutS_length _ _ _) hzl, hc, rfl, F⟩
      · rename_i h1
        rw [if_neg h1] at F
        exact F
    · have e : digs z = z := if_neg h
      have F := fin _ e hz
      refine ⟨_, rfl, ⟨_, rfl⟩, _, rfl, rfl, trivial, _, rfl, ?_⟩
      split
      · rename_i h1
        rw [if_pos h1] at F
        obtain ⟨c, rfl, F⟩ := F
        refine ⟨_, rfl, rfl, _, rfl, ?_⟩
        split
        · rename_i h2
          rw [if_pos h2] at F
          exact F
        · rename_i h2
          rw [if_neg h2] at F
          obtain ⟨c0, hc, F⟩ := F
          exact ⟨_, rfl, _, 0, c0, rfl, rfl, hzl, hc, rfl, F⟩
      · rename_i h1
        rw [if_neg h1] at F
        exact F
end
end Kt
set_option Elab.async false
set_option linter.all false
set_option maxRecDepth 100000
set_option maxHeartbeats 4000000
namespace Kt
open PySem PySem.Spec PyProof.Rows L2 Rz _root_.TL
section
variable {P : Program} {w : World} {K : PySem.W.Frag} {mg : Str → Option Value} {base : Heap}
/-- a key that conditions mention -/
def FKk : Key → Prop
  | .inl i => i.natAbs ≤ 1000000
  | .inr z => z.length ≤ 8 ∧ (isNum z = true ∨ isDK z = true → ∃ i : Int, z = istr i ∧ i.natAbs ≤ 1000000)
theorem fk_int {i : Int} (h : i.natAbs ≤ 1000000) : FKk (.inr (istr i)) := by
  refine ⟨?_, fun _ => ⟨i, rfl, h⟩⟩
  unfold istr
  rw [PySem.ofString_length]
  exact int_text_length_le10 (k := 7) (by decide) (by omega)
theorem fk_tk {z : Str} (h : TKs z) : FKk (.inr z) := ⟨by have := h.1; omega, fun e => by rw [h.2.1, h.2.2.2.1] at e; rcases e with e | e <;> cases e⟩
theorem fk_tka {z : Str} (h : TKs z) : FKk (.inr (z ++ "a")) := ⟨by have := h.1; rw [strLen_append]; show z.length + 1 ≤ 8; omega, fun e => by rw [h.2.2.1, h.2.2.2.2] at e; rcases e with e | e <;> cases e⟩
/-- a list of such keys -/
def KL (H : Hp) (l : Addr) : Prop := ∃ ks : List Key, H l = some (.lst (ks.map kV)) ∧ 1 ≤ ks.length ∧ ks.length ≤ 2 ∧ ∀ k ∈ ks, FKk k
theorem KL.same {H H' : Hp} {l : Addr} (h : KL H l) (s : Same H H') : KL H' l := by
  obtain ⟨ks, h1, h2⟩ := h
  exact ⟨ks, s _ _ h1, h2⟩
theorem KL.sx {H H' : Hp} {l p : Addr} (h : KL H l) (n : l ≠ p) (s : Sx [p] H H') : KL H' l := by
  obtain ⟨ks, h1, h2⟩ := h
  exact ⟨ks, s.one n h1, h2⟩
theorem KL.mk1 {H : Hp} {l : Addr} {a : Key} (ha : FKk a) : KL (upd H l (.lst [kV a])) l := ⟨[a], upd_same, by show 1 ≤ 1; decide, by show 1 ≤ 2; decide, fun k hk => by rw [List.mem_singleton.mp hk]; exact ha⟩
theorem KL.mk2 {H : Hp} {l : Addr} {a b : Key} (ha : FKk a) (hb : FKk b) : KL (upd H l (.lst [kV a, kV b])) l := ⟨[a, b], upd_same, by show 1 ≤ 2; decide, by show 2 ≤ 2; decide, fun k hk => by
  simp only [List.mem_cons, List.not_mem_nil, or_false] at hk
  rcases hk with rfl | rfl
  · exact ha
  · exact hb⟩
def spFocus : Sp := fun vs H Q _ => ∃ (p : Addr) (n : Nat), vs = [.ref p] ∧ Dr H p n ∧ n < 700000 ∧ ∀ l H', KL H' l → l ≠ p → Dr H' p (n + 10) → Sx [p] H H' → Q (.ref l) H'
theorem ok__law_focus (T : Tx w K mg) : Gd P w K base mg CX0 4 (He.fAd K d__law_focus.at_) ["_law_source_here"] [] spFocus := by
  have G__law_draw := ok__law_draw (P := P) (w := w) (base := base) T
  have G__law_text_key := ok__law_text_key (P := P) (w := w) (base := base) T
  have G__law_pick := ok__law_pick (P := P) (w := w) (base := base) T
  refine mkGd (T.f__law_focus) sc__law_focus (fun vs H Q E h => ?_) (fun _ _ _ _ _ _ us hl => match us, hl with | [_], _ => rfl) (fun cdv A outer s H vs Q E hr h => ?_)
  · obtain ⟨p, n, rfl, _⟩ := h
    rfl
  · have hu := hu_of hr
    obtain ⟨p, n, rfl, D, hn, q⟩ := h
    refine ⟨_, (pss_cons (ps_par (i := 1) (j := 2) (by rfl) sc__law_focus.nd rfl rfl (by decide) rfl rfl (pa_cons (pe_op op_sub (pe_callG G__law_draw T.g__law_draw (hr.mono (by first | decide | omega)) pass0 (pa_cons (pv 0) (pa_cons pe_int pa_nil))) pe_int) (pa_cons (pe_callG G__law_text_key T.g__law_text_key (hr.mono (by first | decide | omega)) pass0 (pa_cons (pv 0) pa_nil)) pa_nil)) (by rfl))
      (pss_cons (ps_set (i := 3) sc__law_focus.nd rfl (Or.inl rfl) (pe_lst (pa_cons (pe_lst (pa_cons (pv 1) (pa_cons (pe_callTy call_str_int (by rfl) T.n_str (by decide +kernel) (pa_cons (pv 1) pa_nil)) pa_nil))) (pa_cons (pe_lst (pa_cons (pv 1) (pa_cons (pe_callTy call_str_int (by rfl) T.n_str (by decide +kernel) (pa_cons (pv 1) pa_nil)) pa_nil))) (pa_cons (pe_lst (pa_cons (pv 1) pa_nil)) (pa_cons (pe_lst (pa_cons (pe_callTy call_str_int (by rfl) T.n_str (by decide +kernel) (pa_cons (pv 1) pa_nil)) pa_nil)) (pa_cons (pe_lst (pa_cons (pv 2) pa_nil)) (pa_cons (pe_lst (pa_cons (pv 2) (pa_cons (pe_op op_add_str (pv 2) pe_str) pa_nil))) pa_nil))))))))
      (pss_one (ps_ret (pe_callG G__law_pick T.g__law_pick (hr.mono (by first | decide | omega)) pass0 (pa_cons (pv 0) (pa_cons (pe_op op_cat (pv 3) (pe_lst (pa_cons (pe_lst (pa_cons (pv 1) pa_nil)) pa_nil))) pa_nil))))))), ?_⟩
    refine ⟨_, rfl, p, n, 2000001, rfl, D, by omega, by decide, by decide, fun d H1 d0 d1 D1 s1 => ⟨_, _, rfl, rfl, _, rfl, p, n + 1, rfl, D1, by omega, fun z H2 hz D2 s2 => ⟨_, _, rfl, ?_⟩⟩⟩
    have bi : (d - 1000000).natAbs ≤ 1000000 := by omega
    have lg : (d - 1000000).natAbs.log2 < 1920 := log_of (by omega)
    have fi : FKk (.inl (d - 1000000)) := bi
    have fs : FKk (.inr (istr (d - 1000000))) := fk_int bi
    have hz2 : z.length + 1 ≤ sizeLine := by have := hz.1; exact Nat.le_of_lt (small1000 (by omega))
    refine ⟨_, rfl, _, rfl, _, rfl, lg, (by show 2 ≤ sizeLine; decide), fun l1 h1 => ?_⟩
    refine ⟨_, rfl, _, rfl, _, rfl, lg, (by show 2 ≤ sizeLine; decide), fun l2 h2 => ?_⟩
    refine ⟨_, rfl, (by show 1 ≤ sizeLine; decide), fun l3 h3 => ?_⟩
    refine ⟨_, rfl, _, rfl, lg, (by show 1 ≤ sizeLine; decide), fun l4 h4 => ?_⟩
    refine ⟨_, rfl, (by show 1 ≤ sizeLine; decide), fun l5 h5 => ?_⟩
    refine ⟨_, rfl, _, rfl, _, _, rfl, rfl, hz2, (by show 2 ≤ sizeLine; decide), fun l6 h6 => ?_⟩
    refine ⟨(by show 6 ≤ sizeLine; decide), fun L hL => ?_⟩
    refine ⟨_, rfl, _, rfl, _, rfl, (by show 1 ≤ sizeLine; decide), fun l7 h7 => ⟨(by show 1 ≤ sizeLine; decide), fun m hm => ⟨L, m, _, _, rfl, rfl, Same.nu hm _ _ (Same.nu h7 _ _ upd_same), upd_same, (by show 6 + 1 ≤ sizeLine; decide), fun c hc => ?_⟩⟩⟩
    have a1 := Same.nu (o := .lst [V.int (d - 1000000), V.str (toString (d - 1000000))]) h1
    have a2 := Same.nu (o := .lst [V.int (d - 1000000), V.str (toString (d - 1000000))]) h2
    have a3 := Same.nu (o := .lst [V.int (d - 1000000)]) h3
    have a4 := Same.nu (o := .lst [V.str (toString (d - 1000000))]) h4
    have a5 := Same.nu (o := .lst [V.str z]) h5
    have a6 := Same.nu (o := .lst [V.str z, V.str (z ++ "a")]) h6
    have a0 := Same.nu (o := .lst [V.ref l1, V.ref l2, V.ref l3, V.ref l4, V.ref l5, V.ref l6]) hL
    have a7 := Same.nu (o := .lst [V.int (d - 1000000)]) h7
    have am := Same.nu (o := .lst [V.ref l7]) hm
    have ac := Same.nu (o := .lst ([V.ref l1, V.ref l2, V.ref l3, V.ref l4, V.ref l5, V.ref l6] ++ [V.ref l7])) hc
    have b7 := am.trans ac
    have b6 := (a0.trans a7).trans b7
    have b5 := a6.trans b6
    have b4 := a5.trans b5
    have b3 := a4.trans b4
    have b2 := a3.trans b3
    have b1 := a2.trans b2
    have b0 := a1.trans b1
    have k1 := (KL.mk2 (H := H2) (l := l1) fi fs).same b1
    have k2 := (KL.mk2 (l := l2) fi fs).same b2
    have k3 := (KL.mk1 (l := l3) fi).same b3
    have k4 := (KL.mk1 (l := l4) fs).same b4
    have k5 := (KL.mk1 (l := l5) (fk_tk hz)).same b5
    have k6 := (KL.mk2 (l := l6) (fk_tk hz) (fk_tka hz)).same b6
    have k7 := (KL.mk1 (l := l7) fi).same b7
    have n1 : l1 ≠ p := D2.ne h1
    have n2 : l2 ≠ p := (D2.same a1).ne h2
    have n3 : l3 ≠ p := ((D2.same a1).same a2).ne h3
    have n4 : l4 ≠ p := (((D2.same a1).same a2).same a3).ne h4
    have n5 : l5 ≠ p := ((((D2.same a1).same a2).same a3).same a4).ne h5
    have n6 : l6 ≠ p := (((((D2.same a1).same a2).same a3).same a4).same a5).ne h6
    have n7 : l7 ≠ p := (((((((D2.same a1).same a2).same a3).same a4).same a5).same a6).same a0).ne h7
    have nc : c ≠ p := (((((((((D2.same a1).same a2).same a3).same a4).same a5).same a6).same a0).same a7).same am).ne hc
    refine ⟨p, c, n + 9, _, rfl, (D2.same b0).up (by omega), by omega, upd_same, nc, (by show 0 < 7; decide), (by show 7 ≤ 1000; decide), fun x hx H' D' s' => ?_⟩
    have fin : ∀ l, KL _ l → l ≠ p → Q (.ref l) H' := fun l k n => q l H' (k.sx n s') n (D'.up (by omega)) (((s1.trans s2).sm b0).trans s')
    simp only [List.cons_append, List.nil_append, List.mem_cons, List.not_mem_nil, or_false] at hx
    rcases hx with rfl | rfl | rfl | rfl | rfl | rfl | rfl
    · exact fin _ k1 n1
    · exact fin _ k2 n2
    · exact fin _ k3 n3
    · exact fin _ k4 n4
    · exact fin _ k5 n5
    · exact fin _ k6 n6
    · exact fin _ k7 n7
/-- a list of keys -/
def TL (H : Hp) (l : Addr) : Prop := ∃ ks : List Key, H l = some (.lst (ks.map kV)) ∧ 1 ≤ ks.length ∧ ks.length ≤ 4 ∧ ∀ k ∈ ks, okK k
theorem TL.sx {H H' : Hp} {l : Addr} {ps : List Addr} (h : TL H l) (n : l ∉ ps) (s : Sx ps H H') : TL H' l := by
  obtain ⟨ks, h1, h2⟩ := h
  exact ⟨ks, s _ _ n h1, h2⟩
theorem fk_ok {k : Key} (h : FKk k) : okK k := by
  cases k with
  | inl i => have h : i.natAbs ≤ 1000000 := h; show i.natAbs < 10 ^ 21; omega
  | inr z => exact ⟨by have := h.1; omega, fun e => by
      obtain ⟨i, h1, h2⟩ := h.2 (.inr e)
      exact ⟨i, h1, by omega⟩⟩
theorem flat_kV (k : Key) : flatV (kV k) = true := by cases k <;> rfl
theorem flats_kV (ks : List Key) : (ks.map kV).all flatV = true := by
  rw [List.all_map]
  exact List.all_eq_true.mpr fun k _ => flat_kV k
theorem eqV_kV {a b : Key} : eqV (kV a) (kV b) = true ↔ a = b := by
  cases a <;> cases b <;> simp [kV, eqV]
theorem inV_kV {a : Key} {ks : List Key} : inV (kV a) (ks.map kV) = true ↔ a ∈ ks := by
  unfold inV
  rw [List.any_map]
  simp only [List.any_eq_true, Function.comp]
  constructor
  · rintro ⟨b, hb, e⟩
    have e : b = a ∨ a = b := by first | exact .inl (eqV_kV.mp e) | exact .inr (eqV_kV.mp e)
    rcases e with e | e
    · rw [← e]; exact hb
    · rw [e]; exact hb
  · intro h
    exact ⟨a, h, eqV_kV.mpr rfl⟩
def spTwins : Sp := fun vs H Q _ => ∃ l : Addr, vs = [.ref l] ∧ KL H l ∧ ∀ t H', TL H' t → H t = none → Same H H' → Q (.ref t) H'
theorem ok__law_twins (T : Tx w K mg) : Gd P w K base mg CX0 2 (He.fAd K d__law_twins.at_) ["_law_keys"] [] spTwins := by
  have G__law_is_number := ok__law_is_number (P := P) (w := w) (base := base) T
  refine mkGd (T.f__law_twins) sc__law_twins (fun vs H Q E h => ?_) (fun _ _ _ _ _ _ us hl => match us, hl with | [_], _ => rfl) (fun cdv A outer s H vs Q E hr h => ?_)
  · obtain ⟨l, rfl, _⟩ := h
    rfl
  · have hu := hu_of hr
    obtain ⟨l, rfl, ⟨ks, hl, hk0, hk2, hks⟩, q⟩ := h
    refine ⟨_, (pss_cons (ps_set (i := 1) sc__law_twins.nd rfl (Or.inr rfl) (pe_lst pa_nil))
      (pss_cons (ps_for PassesOwn.never rfl (pi_list (pv 0)) (pg_name (i := 2) sc__law_twins.nd rfl (Or.inl rfl))
      (pss_cons (ps_set (i := 3) sc__law_twins.nd rfl (Or.inl rfl) (pe_lst (pa_cons (pv 2) pa_nil)))
      (C8.pss_cut (ps_if (pt_not (pt_val (pe_callB call_isi (by rfl) T.n_isinstance (by decide +kernel) (pa_cons (pv 2) (pa_cons (pe_bltn (v := .ty "str") (u := .type "str") (by rfl) T.n_str (by decide +kernel) rfl) pa_nil))))) (pss_one (ps_set (i := 3) sc__law_twins.nd rfl (Or.inl rfl) (pe_lst (pa_cons (pv 2) (pa_cons (pe_callTy call_str_int (by rfl) T.n_str (by decide +kernel) (pa_cons (pv 2) pa_nil)) pa_nil))))) (pss_one (ps_if (pt_val (pe_callG G__law_is_number T.g__law_is_number (hr.mono (by first | decide | omega)) pass0 (pa_cons (pv 2) pa_nil))) (pss_one (ps_set (i := 3) sc__law_twins.nd rfl (Or.inl rfl) (pe_lst (pa_cons (pe_callTy call_int_str (by rfl) T.n_int (by decide +kernel) (pa_cons (pv 2) pa_nil)) (pa_cons (pv 2) pa_nil))))) pss_nil)))
      (pss_one (ps_set (i := 1) sc__law_twins.nd rfl (Or.inr rfl) (pe_op op_cat (pv 1) (pe_lc (own := [("_law_one", 4)]) (g := gName 4) rfl sc__law_twins.nd (pi_list (pv 3)) (blkOk_by (own := [("_law_one", 4)]) (N := N__law_twins) (sc := defScope s__law_twins) (by decide +kernel)) (fun _ _ _ _ _ => (pg_name (i := 4) sc__law_twins.nd rfl (Or.inl rfl))) (fun _ _ _ _ _ => pts_one (pt_cmpR (r := rIn K true) op_notIn_seq (pv 4) (pv 1) (by rfl))) (fun _ _ _ _ _ => (pv 4)))))))))
      (pss_one (ps_ret (pv 1))))), ?_⟩
    refine ⟨Nat.zero_le _, fun f0 hf0 => ⟨_, rfl, l, rfl, ⟨_, SqL.of (Same.nu hf0 _ _ hl)⟩, for_list (xs := ks.map kV)
      (fun i σ H' => (∃ f u v, σ = [some (.ref l), some (.ref f), u, v, none] ∧ ∃ ys : List Key, H' f = some (.lst (ys.map kV)) ∧ H f = none ∧ ys.length ≤ 2 * i ∧ (0 < i → 1 ≤ ys.length) ∧ ∀ k ∈ ys, okK k) ∧ Same H H')
      ⟨⟨f0, _, _, rfl, [], upd_same, hf0, by simp, fun z => absurd z (by decide), fun _ h => nomatch h⟩, Same.nu hf0⟩ (fun i σ H' _ h => SqL.of (h.2 _ _ hl)) ?_ ?_⟩⟩
    · rintro i x σ H' hx ⟨⟨f, u, v, rfl, ys, hf, hfn, hy1, hy2, hy3⟩, sH⟩
      rw [List.getElem?_map] at hx
      cases ek : ks[i]? with
      | none => rw [ek] at hx; cases hx
      | some k =>
      rw [ek] at hx
      cases hx
      have hi : i < ks.length := lt_of_at ek
      have fk := hks k (List.mem_of_getElem? ek)
      refine ⟨_, rfl, (by show 1 ≤ sizeLine; decide), fun b0 hb0 => ?_⟩
      refine ⟨fun σ' H2 => ∃ (b : Addr) (zs : List Key), σ' = [some (.ref l), some (.ref f), some (kV k), some (.ref b), none] ∧ Same H' H2 ∧ H2 b = some (.lst (zs.map kV)) ∧ 1 ≤ zs.length ∧ zs.length ≤ 2 ∧ ∀ k ∈ zs, okK k, ?_, ?_⟩
      · obtain ⟨t1, y1, k1⟩ := isi T "str" (G := upd H' b0 (.lst [kV k])) (Same.refl _) (key_at k)
        refine ⟨_, rfl, _, _, t1, _, _, rfl, .ty _, y1, k1, _, rfl, ?_⟩
        cases k with
        | inl j =>
          have lg : j.natAbs.log2 < 1920 := log_of (by have h : j.natAbs ≤ 1000000 := fk; omega)
          refine iteT ⟨_, rfl, _, rfl, _, rfl, lg, (by show 2 ≤ sizeLine; decide), fun b hb => ⟨b, [.inl j, .inr (istr j)], rfl, (Same.nu hb0).trans (Same.nu hb), upd_same, by show 1 ≤ 2; decide, by show 2 ≤ 2; decide, fun k hk => ?_⟩⟩
          simp only [List.mem_cons, List.not_mem_nil, or_false] at hk
          rcases hk with rfl | rfl
          · exact fk_ok fk
          · exact fk_ok (fk_int fk)
        | inr z =>
          have hz : z.length ≤ 60 := by have := fk.1; omega
          refine iteF ⟨_, rfl, z, rfl, hz, _, rfl, ?_⟩
          cases hn : isNum z with
          | true =>
            obtain ⟨j, hj', bj⟩ := fk.2 (.inl hn)
            have hj : intText? z = some j := by rw [hj']; exact int_istr (by omega)
            refine iteT ⟨_, rfl, z, j, rfl, hj, by omega, _, rfl, (by show 2 ≤ sizeLine; decide), fun b hb => ⟨b, [.inl j, .inr z], rfl, (Same.nu hb0).trans (Same.nu hb), upd_same, by show 1 ≤ 2; decide, by show 2 ≤ 2; decide, fun k hk => ?_⟩⟩
            simp only [List.mem_cons, List.not_mem_nil, or_false] at hk
            rcases hk with rfl | rfl
            · exact fk_ok (k := .inl j) bj
            · exact fk_ok fk
          | false =>
            refine iteF ⟨b0, [.inr z], rfl, Same.nu hb0, upd_same, by show 1 ≤ 1; decide, by show 1 ≤ 2; decide, fun k hk => ?_⟩
            rw [List.mem_singleton.mp hk]
            exact fk_ok fk
      · rintro σ' H2 ⟨b, zs, rfl, s2, hb, hz1, hz2, hzk⟩
        have hf2 := s2 _ _ hf
        refine ⟨_, rfl, _, rfl, b, rfl, ⟨_, SqL.of hb⟩, fun D hD => lc_list (xs := zs.map kV) (fun j H3 => Same H2 H3 ∧ ∃ acc : List Key, H3 D = some (.lst (acc.map kV)) ∧ acc.length ≤ j ∧ (ys = [] → acc.length = j) ∧ ∀ k ∈ acc, okK k)
          ⟨Same.nu hD, [], upd_same, Nat.le_refl _, fun _ => rfl, fun _ h => nomatch h⟩ (fun j H3 _ h => SqL.of (h.1 _ _ hb)) ?_ ?_⟩
        · rintro j y H3 hy ⟨s3, acc, ha, hal, ha0, hak⟩
          rw [List.getElem?_map] at hy
          cases ez : zs[j]? with
          | none => rw [ez] at hy; cases hy
          | some z =>
          rw [ez] at hy
          cases hy
          have hj := lt_of_at ez
          refine ⟨rfl, _, rfl, _, rfl, f, _, rfl, .inl (SqL.of (s3 _ _ hf2)), flat_kV z, flats_kV ys, _, rfl, ?_⟩
          by_cases hm : z ∈ ys
          · rw [inV_kV.mpr hm]
            exact iteF ⟨s3, acc, ha, by omega, fun e => (by rw [e] at hm; cases hm), hak⟩
          · rw [show inV (kV z) (ys.map kV) = false from Bool.eq_false_iff.mpr fun y => hm (inV_kV.mp y)]
            refine iteT ⟨_, rfl, _, ha, by rw [List.length_map]; exact small1000 (by omega), Same.mk'' s3 hD, acc ++ [z], by rw [upd_same, List.map_append]; rfl, by rw [List.length_append]; simp; omega, fun e => by rw [List.length_append, ha0 e]; rfl, fun k hk => ?_⟩
            rcases List.mem_append.mp hk with h | h
            · exact hak k h
            · rw [List.mem_singleton.mp h]; exact hzk z (List.mem_of_getElem? ez)
        · rintro H3 ⟨s3, acc, ha, hal, ha0, hak⟩
          rw [List.length_map] at hal ha0
          refine ⟨f, D, _, _, rfl, rfl, s3 _ _ hf2, ha, by rw [List.length_map, List.length_map]; exact Nat.le_of_lt (small1000 (by omega)), fun c hc => ?_⟩
          refine ⟨⟨c, _, _, rfl, ys ++ acc, by rw [upd_same, List.map_append], ?_, by rw [List.length_append]; omega, fun _ => ?_, fun k hk => ?_⟩, ((sH.trans s2).trans s3).trans (Same.nu hc)⟩
          · cases e : H c with
            | none => rfl
            | some o => rw [((sH.trans s2).trans s3) _ _ e] at hc; cases hc
          · rw [List.length_append]
            cases ys with
            | nil => have := ha0 rfl; omega
            | cons a r => simp; omega
          · rcases List.mem_append.mp hk with h | h
            · exact hy3 k h
            · exact hak k h
    · rintro σ H' ⟨⟨f, u, v, rfl, ys, hf, hfn, hy1, hy2, hy3⟩, sH⟩
      rw [List.length_map] at hy1 hy2
      exact ⟨_, rfl, q f H' ⟨ys, hf, hy2 (by omega), by omega, hy3⟩ hfn sH⟩
end
end Kt
set_option Elab.async false
set_option linter.all false
set_option maxRecDepth 100000
set_option maxHeartbeats 4000000
namespace Kt
open PySem PySem.Spec PyProof.Rows L2 Rz _root_.TL
section
variable {P : Program} {w : World} {K : PySem.W.Frag} {mg : Str → Option Value} {base : Heap}
/-- five values without parts -/
def AL (H : Hp) (l : Addr) : Prop := ∃ xs : List V, H l = some (.lst xs) ∧ xs.length = 5 ∧ ∀ v ∈ xs, ∃ d, Rz.flat d = some v ∧ okF d
theorem AL.sx {H H' : Hp} {l : Addr} {ps : List Addr} (h : AL H l) (n : l ∉ ps) (s : Sx ps H H') : AL H' l := by
  obtain ⟨ks, h1, h2⟩ := h
  exact ⟨ks, s _ _ n h1, h2⟩
theorem istr_60 {i : Int} (h : i.natAbs < 10 ^ 21) : (istr i).length ≤ 60 := Nat.le_trans (istr_len h) (by decide)
theorem word_60 {z : Str} (h : WordS z) : z.length ≤ 60 := by
  rw [len_tl]
  have := h.2.1
  omega
def spAtoms : Sp := fun vs H Q _ => ∃ (p : Addr) (n : Nat), vs = [.ref p] ∧ Dr H p n ∧ n < 600000 ∧ ∀ l H', AL H' l → l ≠ p → Dr H' p (n + 11) → Sx [p] H H' → Q (.ref l) H'
theorem ok__law_atoms (T : Tx w K mg) : Gd P w K base mg CX0 3 (He.fAd K d__law_atoms.at_) ["_law_source_here"] [] spAtoms := by
  have G__law_draw := ok__law_draw (P := P) (w := w) (base := base) T
  have G__law_word := ok__law_word (P := P) (w := w) (base := base) T
  refine mkGd (T.f__law_atoms) sc__law_atoms (fun vs H Q E h => ?_) (fun _ _ _ _ _ _ us hl => match us, hl with | [_], _ => rfl) (fun cdv A outer s H vs Q E hr h => ?_)
  · obtain ⟨p, n, rfl, _⟩ := h
    rfl
  · have hu := hu_of hr
    obtain ⟨p, n, rfl, D, hn, q⟩ := h
    refine ⟨_, (pss_cons (ps_set (i := 1) sc__law_atoms.nd rfl (Or.inl rfl) (pe_ix (r := rIxL K) ix_list (pe_lst (pa_cons (pe_callG G__law_draw T.g__law_draw (hr.mono (by first | decide | omega)) pass0 (pa_cons (pv 0) (pa_cons (pe_op op_pow pe_int pe_int) pa_nil))) (pa_cons (pe_un un_neg (pe_callG G__law_draw T.g__law_draw (hr.mono (by first | decide | omega)) pass0 (pa_cons (pv 0) (pa_cons (pe_op op_pow pe_int pe_int) pa_nil)))) (pa_cons pe_int (pa_cons (pe_un un_neg pe_int) pa_nil))))) (pe_callG G__law_draw T.g__law_draw (hr.mono (by first | decide | omega)) pass0 (pa_cons (pv 0) (pa_cons pe_int pa_nil))) (fun _ _ => rfl)))
      (pss_cons (ps_set (i := 2) sc__law_atoms.nd rfl (Or.inl rfl) (pe_op op_add (pe_op op_pow pe_int pe_int) (pe_callG G__law_draw T.g__law_draw (hr.mono (by first | decide | omega)) pass0 (pa_cons (pv 0) (pa_cons (pe_op op_pow pe_int pe_int) pa_nil)))))
      (pss_cons (ps_set (i := 2) sc__law_atoms.nd rfl (Or.inl rfl) (pe_ifExp (pt_cmpR op_eq (pe_callG G__law_draw T.g__law_draw (hr.mono (by first | decide | omega)) pass0 (pa_cons (pv 0) (pa_cons pe_int pa_nil))) pe_int (nomark _)) (pe_un un_neg (pv 2)) (pv 2)))
      (pss_cons (ps_set (i := 3) sc__law_atoms.nd rfl (Or.inl rfl) (pe_ix (r := rIxL K) ix_list (pe_lst (pa_cons pe_str (pa_cons pe_str (pa_cons pe_str (pa_cons pe_str (pa_cons (pe_callG G__law_word T.g__law_word (hr.mono (by first | decide | omega)) pass0 (pa_cons (pv 0) pa_nil)) pa_nil)))))) (pe_callG G__law_draw T.g__law_draw (hr.mono (by first | decide | omega)) pass0 (pa_cons (pv 0) (pa_cons pe_int pa_nil))) (fun _ _ => rfl)))
      (pss_one (ps_ret (pe_lst (pa_cons (pv 1) (pa_cons (pe_callTy call_str_int (by rfl) T.n_str (by decide +kernel) (pa_cons (pv 1) pa_nil)) (pa_cons (pv 2) (pa_cons (pe_callTy call_str_int (by rfl) T.n_str (by decide +kernel) (pa_cons (pv 2) pa_nil)) (pa_cons (pv 3) pa_nil)))))))))))), ?_⟩
    have p9 : ((10 : Int) ^ (9 : Int).toNat) = 1000000000 := by decide
    have p15 : ((10 : Int) ^ (15 : Int).toNat) = 1000000000000000 := by decide
    refine ⟨_, rfl, _, _, rfl, rfl, ⟨by decide, by decide, by decide⟩, p, n, _, rfl, D, by omega, by decide, by decide, fun d1 H1 a1 b1 D1 s1 => ?_⟩
    refine ⟨_, rfl, _, _, rfl, rfl, ⟨by decide, by decide, by decide⟩, p, n + 1, _, rfl, D1, by omega, by decide, by decide, fun d2 H2 a2 b2 D2 s2 => ⟨_, rfl, _, rfl, (by show 4 ≤ sizeLine; decide), fun l1 h1 => ?_⟩⟩
    rw [p9] at b1 b2
    have e1 := Same.nu (o := .lst [.int d1, .int (-d2), .int 0, .int (-1)]) h1
    refine ⟨_, rfl, p, n + 2, _, rfl, D2.same e1, by omega, by decide, by decide, fun d3 H3 a3 b3 D3 s3 => ?_⟩
    have n1 : l1 ≠ p := D2.ne h1
    have hl1 := s3.one n1 (e := upd_same)
    obtain ⟨sm, hsm, bsm⟩ : ∃ sm : Int, [V.int d1, V.int (-d2), V.int 0, V.int (-1)][d3.toNat]? = some (.int sm) ∧ sm.natAbs < 1000000000 := by
      have hc : d3 = 0 ∨ d3 = 1 ∨ d3 = 2 ∨ d3 = 3 := by omega
      rcases hc with rfl | rfl | rfl | rfl
      · exact ⟨_, rfl, by omega⟩
      · exact ⟨_, rfl, by omega⟩
      · exact ⟨_, rfl, by decide⟩
      · exact ⟨_, rfl, by decide⟩
    refine ⟨l1, _, d3, _, rfl, rfl, SqL.of hl1, at_of (j := d3.toNat) (by omega) hsm, ?_⟩
    refine ⟨_, _, rfl, rfl, ⟨by decide, by decide, by decide⟩, _, rfl, _, _, rfl, rfl, ⟨by decide, by decide, by decide⟩, p, n + 3, _, rfl, D3, by omega, by decide, by decide, fun d4 H4 a4 b4 D4 s4 => ⟨_, _, rfl, rfl, ?_⟩⟩
    rw [p9] at b4
    refine ⟨_, rfl, p, n + 4, 3, rfl, D4, by omega, by decide, by decide, fun d5 H5 a5 b5 D5 s5 => ⟨rfl, _, rfl, ?_⟩⟩
    have blg : ((10 : Int) ^ (15 : Int).toNat + d4).natAbs < 10 ^ 21 := by rw [p15]; omega
    have tail : ∀ lg2 : Int, lg2.natAbs < 10 ^ 21 → tSeq (tAsg (tOp (rIxL K) (tLst (tCons (tC (.str "")) (tCons (tC (.str "t")) (tCons (tC (.str "tt")) (tCons (tC (.str " \"\\")) (tCons (tCall spWord [] E0 (tCons (tVar 0) tNil)) tNil)))))) (tCall spDraw [] E0 (tCons (tVar 0) (tCons (tC (.int 5)) tNil)))) (gName 3))
      (tRet (tLst (tCons (tVar 1) (tCons (tCB (fun xs H Q => ∃ i, xs = [.int i] ∧ i.natAbs.log2 < 1920 ∧ Q (.str (toString i)) H) (tCons (tVar 1) tNil)) (tCons (tVar 2) (tCons (tCB (fun xs H Q => ∃ i, xs = [.int i] ∧ i.natAbs.log2 < 1920 ∧ Q (.str (toString i)) H) (tCons (tVar 2) tNil)) (tCons (tVar 3) tNil)))))))
      { nx := fun _ H' => Q .non H', rt := Q } [some (.ref p), some (.int sm), some (.int lg2), none] H5 := by
      intro lg2 hlg
      refine ⟨_, rfl, p, n + 5, rfl, D5, by omega, fun z H6 hz D6 s6 => ⟨(by show 5 ≤ sizeLine; decide), fun l2 h2 => ?_⟩⟩
      have e2 := Same.nu (o := .lst [.str "", .str "t", .str "tt", .str " \"\\", .str z]) h2
      refine ⟨_, rfl, p, n + 10, 5, rfl, (D6.same e2).up (by omega), by omega, by decide, by decide, fun d6 H7 a6 b6 D7 s7 => ?_⟩
      have n2 : l2 ≠ p := D6.ne h2
      have hl2 := s7.one n2 (e := upd_same)
      obtain ⟨tx, htx, btx⟩ : ∃ tx : Str, [V.str "", V.str "t", V.str "tt", V.str " \"\\", V.str z][d6.toNat]? = some (.str tx) ∧ tx.length ≤ 60 := by
        have hc : d6 = 0 ∨ d6 = 1 ∨ d6 = 2 ∨ d6 = 3 ∨ d6 = 4 := by omega
        rcases hc with rfl | rfl | rfl | rfl | rfl
        · exact ⟨_, rfl, by decide +kernel⟩
        · exact ⟨_, rfl, by decide +kernel⟩
        · exact ⟨_, rfl, by decide +kernel⟩
        · exact ⟨_, rfl, by decide +kernel⟩
        · exact ⟨_, rfl, word_60 hz⟩
      refine ⟨l2, _, d6, _, rfl, rfl, SqL.of hl2, at_of (j := d6.toNat) (by omega) htx, ?_⟩
      have bs : sm.natAbs < 10 ^ 21 := by omega
      refine ⟨_, rfl, _, rfl, _, rfl, log_of bs, _, rfl, _, rfl, _, rfl, log_of hlg, _, rfl, (by show 5 ≤ sizeLine; decide), fun l hl => ?_⟩
      refine q l _ ⟨_, upd_same, rfl, fun v hv => ?_⟩ (D7.ne hl) ((D7.same (Same.nu hl)).up (by omega)) ((((((((s1.trans s2).sm e1).trans s3).trans s4).trans s5).trans s6).sm e2).trans s7 |>.mk hl)
      simp only [List.mem_cons, List.not_mem_nil, or_false] at hv
      rcases hv with rfl | rfl | rfl | rfl | rfl
      · exact ⟨.int sm, rfl, bs⟩
      · exact ⟨.str (istr sm), rfl, istr_60 bs⟩
      · exact ⟨.int lg2, rfl, hlg⟩
      · exact ⟨.str (istr lg2), rfl, istr_60 hlg⟩
      · exact ⟨.str tx, rfl, btx⟩
    refine ite2 (fun _ => ⟨_, rfl, _, rfl, tail _ (by rw [Int.natAbs_neg]; exact blg)⟩) (fun _ => ⟨_, rfl, tail _ blg⟩)
def spScalar : Sp := fun vs H Q _ => ∃ (p a : Addr) (n : Nat), vs = [.ref p, .ref a] ∧ Dr H p n ∧ n < 500000 ∧ AL H a ∧ a ≠ p ∧ ∀ v d H', Rz.flat d = some v → okF d → Dr H' p (n + 6) → Sx [p] H H' → Q v H'
theorem ok__law_scalar (T : Tx w K mg) : Gd P w K base mg CX0 3 (He.fAd K d__law_scalar.at_) ["_law_source_here", "_law_atoms_here"] [] spScalar := by
  have G__law_draw := ok__law_draw (P := P) (w := w) (base := base) T
  have G__law_pick := ok__law_pick (P := P) (w := w) (base := base) T
  have G__law_word := ok__law_word (P := P) (w := w) (base := base) T
  refine mkGd (T.f__law_scalar) sc__law_scalar (fun vs H Q E h => ?_) (fun _ _ _ _ _ _ us hl => match us, hl with | [_, _], _ => rfl) (fun cdv A outer s H vs Q E hr h => ?_)
  · obtain ⟨p, a, n, rfl, _⟩ := h
    rfl
  · have hu := hu_of hr
    obtain ⟨p, a, n, rfl, D, hn, hA, ha, q⟩ := h
    refine ⟨_, (pss_cons (ps_set (i := 2) sc__law_scalar.nd rfl (Or.inl rfl) (pe_callG G__law_draw T.g__law_draw (hr.mono (by first | decide | omega)) pass0 (pa_cons (pv 0) (pa_cons pe_int pa_nil))))
      (pss_cons (ps_if (pt_cmpR op_eq (pv 2) pe_int (nomark _)) (pss_one (ps_ret pe_non)) pss_nil)
      (pss_cons (ps_if (pt_cmpR op_lt (pv 2) pe_int (nomark _)) (pss_one (ps_ret (pe_cmpR op_eq (pv 2) pe_int (nomark _)))) pss_nil)
      (pss_cons (ps_if (pt_cmpR op_lt (pv 2) pe_int (nomark _)) (pss_one (ps_ret (pe_callG G__law_pick T.g__law_pick (hr.mono (by first | decide | omega)) pass0 (pa_cons (pv 0) (pa_cons (pv 1) pa_nil))))) pss_nil)
      (pss_cons (ps_if (pt_cmpR op_eq (pv 2) pe_int (nomark _)) (pss_one (ps_ret (pe_op op_sub (pe_callG G__law_draw T.g__law_draw (hr.mono (by first | decide | omega)) pass0 (pa_cons (pv 0) (pa_cons (pe_op op_pow pe_int pe_int) pa_nil))) (pe_op op_pow pe_int pe_int)))) pss_nil)
      (pss_one (ps_ret (pe_callG G__law_word T.g__law_word (hr.mono (by first | decide | omega)) pass0 (pa_cons (pv 0) pa_nil))))))))), ?_⟩
    refine ⟨_, rfl, p, n, 8, rfl, D, by omega, by decide, by decide, fun d H1 d0 d1 D1 s1 => ?_⟩
    refine ⟨_, rfl, rfl, _, rfl, ite2 (fun _ => q .non .non H1 rfl True.intro (D1.up (by omega)) s1) (fun _ => ?_)⟩
    refine ⟨_, rfl, _, _, rfl, rfl, _, rfl, ite2 (fun _ => ⟨_, rfl, rfl, q _ (.bl _) H1 rfl True.intro (D1.up (by omega)) s1⟩) (fun _ => ?_)⟩
    refine ⟨_, rfl, _, _, rfl, rfl, _, rfl, ite2 (fun _ => ?_) (fun _ => ?_)⟩
    · obtain ⟨xs, h1, h2, h3⟩ := hA
      refine ⟨_, rfl, _, rfl, p, a, n + 1, xs, rfl, D1, by omega, s1.one ha h1, ha, by omega, by omega, fun x hx H' D' s' => ?_⟩
      obtain ⟨e, e1, e2⟩ := h3 x hx
      exact q x e H' e1 e2 (D'.up (by omega)) (s1.trans s')
    refine ⟨_, rfl, rfl, _, rfl, ite2 (fun _ => ?_) (fun _ => ?_)⟩
    · have p20 : ((10 : Int) ^ (20 : Int).toNat) = 100000000000000000000 := by decide
      have p19 : ((10 : Int) ^ (19 : Int).toNat) = 10000000000000000000 := by decide
      refine ⟨_, rfl, _, _, rfl, rfl, ⟨by decide, by decide, by decide⟩, p, n + 1, _, rfl, D1, by omega, by decide, by decide, fun e H2 e0 e1 D2 s2 => ⟨_, _, rfl, rfl, ⟨by decide, by decide, by decide⟩, _, _, rfl, rfl, ?_⟩⟩
      rw [p20] at e1
      exact q _ (.int (e - (10 : Int) ^ (19 : Int).toNat)) H2 rfl (by show (e - (10 : Int) ^ (19 : Int).toNat).natAbs < 10 ^ 21; rw [p19]; omega) (D2.up (by omega)) (s1.trans s2)
    · exact ⟨_, rfl, p, n + 1, rfl, D1, by omega, fun z H2 hz D2 s2 => q _ (.str z) H2 rfl (word_60 hz) (D2.up (by omega)) (s1.trans s2)⟩
def spKey : Sp := fun vs H Q _ => ∃ (p t : Addr) (n : Nat), vs = [.ref p, .ref t] ∧ Dr H p n ∧ n < 500000 ∧ TL H t ∧ t ≠ p ∧ ∀ k H', okK k → Dr H' p (n + 7) → Sx [p] H H' → Q (kV k) H'
theorem ok__law_key (T : Tx w K mg) : Gd P w K base mg CX0 3 (He.fAd K d__law_key.at_) ["_law_source_here", "_law_twins_here"] [] spKey := by
  have G__law_draw := ok__law_draw (P := P) (w := w) (base := base) T
  have G__law_pick := ok__law_pick (P := P) (w := w) (base := base) T
  have G__law_word := ok__law_word (P := P) (w := w) (base := base) T
  refine mkGd (T.f__law_key) sc__law_key (fun vs H Q E h => ?_) (fun _ _ _ _ _ _ us hl => match us, hl with | [_, _], _ => rfl) (fun cdv A outer s H vs Q E hr h => ?_)
  · obtain ⟨p, t, n, rfl, _⟩ := h
    rfl
  · have hu := hu_of hr
    obtain ⟨p, t, n, rfl, D, hn, hT, ht, q⟩ := h
    refine ⟨_, (pss_cons (ps_par (i := 2) (j := 3) (by rfl) sc__law_key.nd rfl rfl (by decide) rfl rfl (pa_cons (pe_callG G__law_draw T.g__law_draw (hr.mono (by first | decide | omega)) pass0 (pa_cons (pv 0) (pa_cons pe_int pa_nil))) (pa_cons (pe_op op_sub (pe_callG G__law_draw T.g__law_draw (hr.mono (by first | decide | omega)) pass0 (pa_cons (pv 0) (pa_cons pe_int pa_nil))) pe_int) pa_nil)) (by rfl))
      (pss_cons (ps_if (pt_cmpR op_lt (pv 2) pe_int (nomark _)) (pss_one (ps_ret (pe_callG G__law_pick T.g__law_pick (hr.mono (by first | decide | omega)) pass0 (pa_cons (pv 0) (pa_cons (pv 1) pa_nil))))) pss_nil)
      (pss_one (ps_ret (pe_ix (r := rIxL K) ix_list (pe_lst (pa_cons (pv 3) (pa_cons (pe_callTy call_str_int (by rfl) T.n_str (by decide +kernel) (pa_cons (pv 3) pa_nil)) (pa_cons (pe_callG G__law_word T.g__law_word (hr.mono (by first | decide | omega)) pass0 (pa_cons (pv 0) pa_nil)) pa_nil)))) (pe_op op_sub (pv 2) pe_int) (fun _ _ => rfl)))))), ?_⟩
    refine ⟨_, rfl, p, n, 6, rfl, D, by omega, by decide, by decide, fun d H1 d0 d1 D1 s1 => ⟨_, rfl, p, n + 1, 1000000, rfl, D1, by omega, by decide, by decide, fun e H2 e0 e1 D2 s2 => ⟨_, _, rfl, rfl, _, _, rfl, ?_⟩⟩⟩
    refine ⟨_, rfl, _, _, rfl, rfl, _, rfl, ite2 (fun _ => ?_) (fun h3 => ?_)⟩
    · obtain ⟨ks, h1, h2, h4, h5⟩ := hT
      refine ⟨_, rfl, _, rfl, p, t, n + 2, _, rfl, D2, by omega, (s1.trans s2).one ht h1, ht, by rw [List.length_map]; omega, by rw [List.length_map]; omega, fun x hx H' D' s' => ?_⟩
      obtain ⟨k, hk, rfl⟩ := List.mem_map.mp hx
      exact q k H' (h5 k hk) (D'.up (by omega)) ((s1.trans s2).trans s')
    · have h3 : ¬ d < 3 := fun y => h3 (decide_eq_true y)
      have be : (e - 500000).natAbs < 10 ^ 21 := by omega
      refine ⟨_, rfl, _, rfl, _, rfl, log_of be, _, rfl, p, n + 2, rfl, D2, by omega, fun z H3 hz D3 s3 => ⟨(by show 3 ≤ sizeLine; decide), fun l hl => ?_⟩⟩
      have DF := (D3.same (Same.nu (o := .lst [V.int (e - 500000), .str (toString (e - 500000)), .str z]) hl)).up (show n + 2 + 5 ≤ n + 7 by omega)
      have sF := ((s1.trans s2).trans s3).mk (o := .lst [V.int (e - 500000), .str (toString (e - 500000)), .str z]) hl
      refine ⟨_, rfl, _, _, rfl, rfl, ?_⟩
      have hc : d = 3 ∨ d = 4 ∨ d = 5 := by omega
      rcases hc with rfl | rfl | rfl
      · exact ⟨l, _, _, _, rfl, rfl, SqL.of upd_same, at_of (j := 0) rfl rfl, q (.inl (e - 500000)) _ be DF sF⟩
      · exact ⟨l, _, _, _, rfl, rfl, SqL.of upd_same, at_of (j := 1) rfl rfl, q (.inr (istr (e - 500000))) _ (okN_istr be) DF sF⟩
      · exact ⟨l, _, _, _, rfl, rfl, SqL.of upd_same, at_of (j := 2) rfl rfl, q (.inr z) _ (fk_ok (fk_tk (tk_word hz))) DF sF⟩
end
end Kt
set_option Elab.async false
set_option linter.all false
set_option maxRecDepth 100000
set_option maxHeartbeats 4000000
namespace Kt
open PySem PySem.Spec PyProof.Rows L2 Rz _root_.TL
section
variable {P : Program} {w : World} {K : PySem.W.Frag} {mg : Str → Option Value} {base : Heap}
/-- how many draws a value takes at most -/
def drN : Nat → Nat
  | 0 => 7
  | k + 1 => 23 + 3 * drN k
theorem drN_ge : ∀ k, 7 ≤ drN k
  | 0 => Nat.le_refl _
  | k + 1 => by show 7 ≤ 23 + 3 * drN k; omega
def Rm (H : Hp) (r : Addr) : Prop := ∃ i : Int, H r = some (.lst [.int i])
theorem Rm.same {H H' : Hp} {r : Addr} (h : Rm H r) (s : Same H H') : Rm H' r := by
  obtain ⟨i, h⟩ := h
  exact ⟨i, s _ _ h⟩
theorem Rm.sx {H H' : Hp} {r p : Addr} (h : Rm H r) (n : r ≠ p) (s : Sx [p] H H') : Rm H' r := by
  obtain ⟨i, h⟩ := h
  exact ⟨i, s.one n h⟩
/-- what the makers of values are given -/
structure Gv (K : PySem.W.Frag) (H : Hp) (p t a r : Addr) (n : Nat) (ps : List Addr) : Prop where
  gd : Dr H p n
  gt : TL H t
  ga : AL H a
  gr : Rm H r
  tn : t ∉ [p, r]
  an : a ∉ [p, r]
  rp : r ≠ p
  hs : Has H ps
  pp : p ∈ ps
  rr : r ∈ ps
/-- a table has room for one entry more -/
def T3 (d : Val) : Prop := ∀ es, d = .tab es → es.length ≤ 3
theorem T3.flat {d : Val} {v : V} (h : Rz.flat d = some v) : T3 d := fun es z => by subst z; cases h
def spValue (K : PySem.W.Frag) (k : Nat) : Sp := fun vs H Q _ => ∃ (p t a r : Addr) (n : Nat) (ps : List Addr), vs = [.ref p, .int (k : Int), .ref t, .ref a, .ref r] ∧ Gv K H p t a r n ps ∧ n + drN k ≤ 400000 ∧
  ∀ v d H', VAt (CT K) (cut H' ps) k v d → Ok k d → T3 d → Dr H' p (n + drN k) → Rm H' r → Sx [p, r] H H' → Q v H'
def spTabl (K : PySem.W.Frag) (k : Nat) : Sp := fun vs H Q _ => ∃ (p t a r : Addr) (m : Int) (n : Nat) (ps : List Addr), vs = [.ref p, .int m, .int ((k + 1 : Nat) : Int), .ref t, .ref a, .ref r] ∧ 0 ≤ m ∧ m ≤ 3 ∧ Gv K H p t a r n ps ∧ n + 3 * (7 + drN k) ≤ 400000 ∧
  ∀ v d H', VAt (CT K) (cut H' ps) (k + 1) v d → Ok (k + 1) d → T3 d → Dr H' p (n + 3 * (7 + drN k)) → Rm H' r → Sx [p, r] H H' → Q v H'
theorem Sx.two {H H' : Hp} {p r : Addr} (s : Sx [p] H H') : Sx [p, r] H H' := s.mono (by simp)
theorem Sx.at2 {H H' : Hp} {ps : List Addr} {b : Addr} {o : HO} (s : Sx ps H H') (e : H b = some o) (h : b ∉ ps) : H' b = some o := s b o h e
theorem Has.sx2 {H H' : Hp} {p r : Addr} {ps : List Addr} (h : Has H ps) (s : Sx [p, r] H H') (hp : H' p ≠ none) (hr : H' r ≠ none) : Has H' ps := fun b hb => by
  by_cases h1 : b ∈ [p, r]
  · simp only [List.mem_cons, List.not_mem_nil, or_false] at h1
    rcases h1 with rfl | rfl
    · exact hp
    · exact hr
  · cases e : H b with
    | none => exact absurd e (h b hb)
    | some o => rw [s b o h1 e]; simp
theorem Dr.some {H : Hp} {p : Addr} {n : Nat} (h : Dr H p n) : H p ≠ none := by
  obtain ⟨g, k, c, h1, _⟩ := h
  rw [h1]; simp
theorem Rm.some {H : Hp} {p : Addr} (h : Rm H p) : H p ≠ none := by
  obtain ⟨i, h1⟩ := h
  rw [h1]; simp
theorem Gv.to {K : PySem.W.Frag} {H H' : Hp} {p t a r : Addr} {n m : Nat} {ps : List Addr} (g : Gv K H p t a r n ps) (s : Sx [p, r] H H') (d : Dr H' p m) (hr : Rm H' r) : Gv K H' p t a r m ps :=
  ⟨d, g.gt.sx g.tn s, g.ga.sx g.an s, hr, g.tn, g.an, g.rp, g.hs.sx2 s d.some hr.some, g.pp, g.rr⟩
theorem Gv.cons {K : PySem.W.Frag} {H : Hp} {p t a r : Addr} {n : Nat} {ps : List Addr} {L : Addr} {o : HO} (g : Gv K H p t a r n ps) (h : H L = some o) : Gv K H p t a r n (L :: ps) :=
  ⟨g.gd, g.gt, g.ga, g.gr, g.tn, g.an, g.rp, fun b hb => by
    rcases List.mem_cons.mp hb with z | z
    · rw [z, h]; simp
    · exact g.hs b z, List.mem_cons_of_mem _ g.pp, List.mem_cons_of_mem _ g.rr⟩
theorem Gv.ne {K : PySem.W.Frag} {H : Hp} {p t a r : Addr} {n : Nat} {ps : List Addr} (g : Gv K H p t a r n ps) {L : Addr} (h : H L = none) : L ∉ [p, r] := by
  simp only [List.mem_cons, List.not_mem_nil, or_false, not_or]
  exact ⟨fun z => g.gd.some (by rw [← z]; exact h), fun z => g.gr.some (by rw [← z]; exact h)⟩
theorem cut_pr {H H' : Hp} {p r : Addr} {ps : List Addr} (s : Sx [p, r] H H') (hp : p ∈ ps) (hr : r ∈ ps) : Same (cut H ps) (cut H' ps) := cut_sx (s.mono fun b hb => by
  simp only [List.mem_cons, List.not_mem_nil, or_false] at hb
  rcases hb with rfl | rfl
  · exact hp
  · exact hr)
theorem ok__law_table (T : Tx w K mg) (k lev : Nat) (hlev : k + 3 ≤ lev) (G__law_value : Gd P w K base mg CX0 lev (He.fAd K d__law_value.at_) ["_law_source_here", "_law_deep", "_law_twins_here", "_law_atoms_here", "_law_room"] [] (spValue K k)) :
    Gd P w K base mg CX0 (lev + 1) (He.fAd K d__law_table.at_) ["_law_source_here", "_law_many", "_law_deep", "_law_twins_here", "_law_atoms_here", "_law_room"] [] (spTabl K k) := by
  have G__law_key := ok__law_key (P := P) (w := w) (base := base) T
  have G_Table_init := ok_Table_init (P := P) (w := w) (base := base) T k
  refine mkGd (T.f__law_table) sc__law_table (fun vs H Q E h => ?_) (fun _ _ _ _ _ _ us hl => match us, hl with | [_, _, _, _, _, _], _ => rfl) (fun cdv A outer s H vs Q E hr h => ?_)
  · obtain ⟨p, t, a, r, m, n, ps, rfl, _⟩ := h
    rfl
  · have hu := hu_of hr
    obtain ⟨p, t, a, r, m, n, ps, rfl, hm0, hm3, g, hn, q⟩ := h
    refine ⟨_, (pss_cons (ps_set (i := 6) sc__law_table.nd rfl (Or.inl rfl) (pe_lst pa_nil))
      (pss_cons (ps_for PassesOwn.never rfl (pi_range1 rfl T.n_range (pa_cons (pv 1) pa_nil)) (pg_name (i := 7) sc__law_table.nd rfl (Or.inl rfl))
      (pss_cons (ps_set (i := 8) sc__law_table.nd rfl (Or.inl rfl) (pe_callG G__law_key T.g__law_key (hr.mono (by first | decide | omega)) pass0 (pa_cons (pv 0) (pa_cons (pv 3) pa_nil))))
      (pss_one (ps_if (pt_cmpR op_notIn_seq (pv 8) (pe_lc (own := [("_law_old", 9), ("_law_item", 10)]) (g := gTup K 2 (gCons (gName 9) (gCons (gName 10) gNil))) (tt := tYes) rfl sc__law_table.nd (pi_list (pv 6)) (blkOk_by (own := [("_law_old", 9), ("_law_item", 10)]) (N := N__law_table) (sc := defScope s__law_table) (by decide +kernel)) (fun _ _ _ _ _ => (pg_tup rfl (pgs_cons (pg_name (i := 9) sc__law_table.nd rfl (Or.inl rfl)) (pgs_cons (pg_name (i := 10) sc__law_table.nd rfl (Or.inl rfl)) pgs_nil)))) (fun _ _ _ _ _ => pts_nil) (fun _ _ _ _ _ => (pv 9))) (by rfl)) (pss_one (ps_expr (pe_bm PySem.F.plainAttrs_list PySem.F.slot_list_append PySem.F.type_list_append mt_append (pv 6) (pa_cons (pe_tup (pa_cons (pv 8) (pa_cons (pe_callG G__law_value T.g__law_value (hr.mono (by first | decide | omega)) pass0 (pa_cons (pv 0) (pa_cons (pe_op op_sub (pv 2) pe_int) (pa_cons (pv 3) (pa_cons (pv 4) (pa_cons (pv 5) pa_nil)))))) pa_nil))) pa_nil)))) pss_nil))))
      (pss_one (ps_ret (pe_makeG T.mk_Table G_Table_init (hr.mono (by first | decide | omega)) T.g_Table pass0 (pa_cons (pv 6) pa_nil)))))), ?_⟩
    refine ⟨Nat.zero_le _, fun L hL => ⟨_, rfl, _, rfl, by omega, by omega, for_range (lo := 0) (n := m.toNat)
      (fun i σ H' => (∃ u v, σ = [some (.ref p), some (.int m), some (.int ((k + 1 : Nat) : Int)), some (.ref t), some (.ref a), some (.ref r), some (.ref L), u, v, none, none]) ∧ Dr H' p (n + i * (7 + drN k)) ∧ Rm H' r ∧ Sx [p, r] H H' ∧
        ∃ ts es, H' L = some (.lst ts) ∧ Paired (EntAt K H' (L :: ps) k) ts es ∧ es.length ≤ i ∧ (es.map (·.1)).Nodup ∧ ∀ e ∈ es, okK e.1 ∧ Ok k e.2)
      ⟨⟨_, _, rfl⟩, (g.gd.same (Same.nu hL)).up (by omega), g.gr.same (Same.nu hL), Sx.of (Same.nu hL), [], [], upd_same, .nil, Nat.le_refl _, .nil, fun _ h => nomatch h⟩ ?_ ?_⟩⟩
    · rintro i σ H1 hi ⟨⟨u, v, rfl⟩, D1, R1, s1, ts, es, hL1, hE, hel, hnd, hok⟩
      have hi3 : i < 3 := by omega
      have g1 := g.to s1 D1 R1
      have bnd : n + i * (7 + drN k) + (7 + drN k) ≤ n + 3 * (7 + drN k) := by
        have : (i + 1) * (7 + drN k) ≤ 3 * (7 + drN k) := Nat.mul_le_mul_right _ (by omega)
        rw [Nat.add_mul] at this
        omega
      have hLpr : L ∉ [p, r] := g.ne hL
      refine ⟨_, rfl, _, rfl, p, t, _, rfl, D1, by omega, g1.gt, (by have := g1.tn; simp only [List.mem_cons, not_or] at this; exact this.1), fun y H2 hy D2 s2 => ?_⟩
      have s12 := s1.trans (Sx.two (r := r) s2)
      have R2 := R1.sx g.rp s2
      have g2 := g.to s12 D2 R2
      have hL2 := (Sx.two (r := r) s2).at2 hL1 hLpr
      have hlen := Paired.length hE
      have ent : ∀ {Ha Hb : Hp} {t : V} {e : Key × Val}, Sx [p, r] Ha Hb → EntAt K Ha (L :: ps) k t e → p ∈ ps → Dr Ha p (n + i * (7 + drN k)) → Rm Ha r → EntAt K Hb (L :: ps) k t e := fun sx h _ dd rm => by
        obtain ⟨b, y, e1, h1, h2⟩ := h
        refine ⟨b, y, e1, sx b _ ?_ h1, VAt.same (cut_pr sx (List.mem_cons_of_mem _ g.pp) (List.mem_cons_of_mem _ g.rr)) h2⟩
        obtain ⟨_, _, _, dp, _⟩ := dd
        obtain ⟨_, rp⟩ := rm
        simp only [List.mem_cons, List.not_mem_nil, or_false, not_or]
        exact ⟨ne_of h1 dp (by intro z; cases z), ne_of h1 rp (by intro z; cases z)⟩
      have hE2 : Paired (EntAt K H2 (L :: ps) k) ts es := Paired.mapP hE fun _ _ h => ent (Sx.two s2) h g.pp D1 R1
      refine ⟨_, rfl, _, rfl, L, rfl, ⟨_, SqL.of hL2⟩, fun D hD => lc_list (xs := ts) (fun j H3 => Same H2 H3 ∧ H3 D = some (.lst (((es.take j).map (·.1)).map kV))) ⟨Same.nu hD, upd_same⟩ (fun j H3 _ h => SqL.of (h.1 _ _ hL2)) ?_ ?_⟩
      · rintro j x H3 hx ⟨s3, ha⟩
        obtain ⟨e, he, b, y0, rfl, hb, _⟩ := Paired.at hE2 hx
        refine ⟨b, _, rfl, SqT.of (s3 _ _ hb), rfl, _, _, rfl, _, _, rfl, rfl, rfl, _, rfl, _, ha, ?_, Same.mk'' s3 hD, ?_⟩
        · rw [List.length_map, List.length_map, List.length_take]
          exact small1000 (by omega)
        · rw [upd_same, take_snoc he, List.map_append, List.map_append]
          rfl
      · rintro H3 ⟨s3, ha⟩
        rw [List.take_of_length_le (by omega)] at ha
        have hL3 := s3 _ _ hL2
        have g3 := (g.to (s12.sm s3) (D2.same s3) (R2.same s3))
        have next : ∀ {H4 : Hp} {ts' : List V} {es' : List (Key × Val)} {m' : Nat}, Dr H4 p m' → m' ≤ n + i * (7 + drN k) + (7 + drN k) → Rm H4 r → Sx [p, r] H H4 → H4 L = some (.lst ts') → Paired (EntAt K H4 (L :: ps) k) ts' es' → es'.length ≤ i + 1 → (es'.map (·.1)).Nodup → (∀ e ∈ es', okK e.1 ∧ Ok k e.2) →
            (∃ u v, [some (.ref p), some (.int m), some (.int ((k + 1 : Nat) : Int)), some (.ref t), some (.ref a), some (.ref r), some (.ref L), some (.int (0 + (i : Int))), some (kV y), none, none] = [some (.ref p), some (.int m), some (.int ((k + 1 : Nat) : Int)), some (.ref t), some (.ref a), some (.ref r), some (.ref L), u, v, none, none]) ∧ Dr H4 p (n + (i + 1) * (7 + drN k)) ∧ Rm H4 r ∧ Sx [p, r] H H4 ∧
              ∃ ts es, H4 L = some (.lst ts) ∧ Paired (EntAt K H4 (L :: ps) k) ts es ∧ es.length ≤ i + 1 ∧ (es.map (·.1)).Nodup ∧ ∀ e ∈ es, okK e.1 ∧ Ok k e.2 := fun d hm' rm sx hl hp hle hnd hok =>
          ⟨⟨_, _, rfl⟩, d.up (by rw [Nat.add_mul]; omega), rm, sx, _, _, hl, hp, hle, hnd, hok⟩
        refine ⟨D, _, rfl, .inl (SqL.of ha), flat_kV y, flats_kV _, _, rfl, ?_⟩
        have hE3 : Paired (EntAt K H3 (L :: ps) k) ts es := Paired.mapP hE2 fun _ _ h => ent_same s3 (cut_sx (Sx.of s3)) h
        by_cases hin : y ∈ es.map (·.1)
        · rw [inV_kV.mpr hin]
          exact iteF (next (D2.same s3) (by omega) (R2.same s3) (s12.sm s3) hL3 hE3 (by omega) hnd hok)
        · rw [show inV (kV y) ((es.map (·.1)).map kV) = false from Bool.eq_false_iff.mpr fun z => hin (inV_kV.mp z)]
          refine iteT ⟨_, rfl, .inl ⟨rfl, _, SqL.of hL3⟩, _, rfl, _, rfl, _, rfl, _, _, rfl, rfl, _, rfl, _, rfl, _, rfl, p, t, a, r, _, L :: ps, ?_, g3.cons hL3, by omega, fun v d H4 hv okd _ D4 R4 s4 => ⟨(by show 2 ≤ sizeLine; decide), fun q2 hq2 => ?_⟩⟩
          · exact congrArg (fun z => [V.ref p, V.int z, V.ref t, V.ref a, V.ref r]) (show ((k + 1 : Nat) : Int) - 1 = (k : Int) by omega)
          · have hL4 := s4.at2 hL3 hLpr
            have nu := Same.nu (o := .tup [kV y, v]) hq2
            have nL : L ≠ q2 := ne_of_none hL4 hq2
            have hE4 : Paired (EntAt K H4 (L :: ps) k) ts es := Paired.mapP hE3 fun _ _ h => by
              obtain ⟨b, y, e1, h1, h2⟩ := h
              refine ⟨b, y, e1, s4 b _ ?_ h1, VAt.same (cut_pr s4 (List.mem_cons_of_mem _ g.pp) (List.mem_cons_of_mem _ g.rr)) h2⟩
              obtain ⟨_, _, _, dp, _⟩ := D2.same s3
              obtain ⟨_, rp⟩ := R2.same s3
              simp only [List.mem_cons, List.not_mem_nil, or_false, not_or]
              exact ⟨ne_of h1 dp (by intro z; cases z), ne_of h1 rp (by intro z; cases z)⟩
            refine ⟨L, ts, _, rfl, rfl, nu _ _ hL4, small1000 (by omega), ?_⟩
            have sx : ∀ b o, b ≠ L → H4 b = some o → (upd (upd H4 q2 (.tup [kV y, v])) L (.lst (ts ++ [.ref q2]))) b = some o := fun b o n e => by
              rw [upd_ne n]
              exact nu _ _ e
            have cc : Same (cut H4 (L :: ps)) (cut (upd (upd H4 q2 (.tup [kV y, v])) L (.lst (ts ++ [.ref q2]))) (L :: ps)) := by
              rw [cut_cons]
              exact cut_put hq2
            have pne : p ≠ L := fun z => hLpr (by simp [z])
            have rne : r ≠ L := fun z => hLpr (by simp [z])
            obtain ⟨gg, gk, gc, dp, dd⟩ := D4
            obtain ⟨ri, rp⟩ := R4
            refine next (m' := n + i * (7 + drN k) + 7 + drN k) ⟨gg, gk, gc, sx _ _ pne dp, dd⟩ (by omega) ⟨ri, sx _ _ rne rp⟩ ?_ upd_same (es' := es ++ [(y, d)]) ?_ (by rw [List.length_append, List.length_singleton]; omega) ?_ ?_
            · refine fun b o nb e => sx b o (fun z => ?_) ((s12.sm s3).trans s4 b o nb e)
              rw [z, hL] at e
              cases e
            · refine Paired.snoc (Paired.mapP hE4 fun _ _ h => ?_) ⟨q2, v, rfl, ?_, VAt.same cc hv⟩
              · obtain ⟨b, y, e1, h1, h2⟩ := h
                exact ⟨b, y, e1, sx b _ (ne_of h1 hL4 (by intro z; cases z)) h1, VAt.same cc h2⟩
              · rw [upd_ne nL.symm, upd_same]
            · rw [List.map_append]
              refine List.nodup_append.mpr ⟨hnd, (by simp), fun a1 h1 b1 h2 => ?_⟩
              rw [List.map_singleton, List.mem_singleton] at h2
              rw [h2]
              exact fun z => hin (by rw [← show a1 = y from z]; exact h1)
            · intro e he
              rcases List.mem_append.mp he with z | z
              · exact hok e z
              · rw [List.mem_singleton.mp z]; exact ⟨hy, okd⟩
    · rintro σ H1 ⟨⟨u, v, rfl⟩, D1, R1, s1, ts, es, hL1, hE, hel, hnd, hok⟩
      have g1 := g.to s1 D1 R1
      refine ⟨_, rfl, fun x dx hx hd hn' => ?_⟩
      have s2 : Same H1 (upd (upd H1 dx (.own x)) x (.ins (CT K) dx [])) := Same.mk'' (Same.nu hd) hx
      have hnx : x ∉ ps := g1.hs.new hx
      refine ⟨x, L, dx, ts, es, ps, rfl, upd_same, SqL.of (s2 _ _ hL1), g1.hs.sx s2, hnx, Paired.mapP hE fun _ _ h => ?_, ⟨by omega, hnd, hok⟩, fun H2 kp hv => ⟨rfl, ?_⟩⟩
      · obtain ⟨b, y, e1, h1, h2⟩ := h
        refine ⟨b, y, e1, s2 _ _ h1, VAt.same (fun c o e => ?_) h2⟩
        have e2 := cut_le _ _ e
        unfold cut at e
        split at e
        · cases e
        · rename_i nc
          refine cut_at (fun z => ?_) (s2 _ _ e2)
          rcases List.mem_cons.mp z with z | z
          · rw [z, hx] at e2; cases e2
          · exact nc (List.mem_cons_of_mem _ z)
      · have s3 : Same H1 H2 := fun b o e => kp b o (ne_of_none e hx) (s2 _ _ e)
        refine q _ (.tab es) H2 hv (.inr (.inr ⟨es, rfl, by omega, hnd, hok⟩)) (fun es' z => by cases z; omega) ((D1.same s3).up ?_) (R1.same s3) (s1.sm s3)
        have : m.toNat * (7 + drN k) ≤ 3 * (7 + drN k) := Nat.mul_le_mul_right _ (by omega)
        omega
end
end Kt
set_option Elab.async false
set_option linter.all false
set_option maxRecDepth 100000
set_option maxHeartbeats 4000000
namespace Kt
open PySem PySem.Spec PyProof.Rows L2 Rz _root_.TL
section
variable {P : Program} {w : World} {K : PySem.W.Frag} {mg : Str → Option Value} {base : Heap}
theorem st__law_value (T : Tx w K mg) (k : Nat) (G__law_value : Gd P w K base mg CX0 (2 * k + 2) (He.fAd K d__law_value.at_) ["_law_source_here", "_law_deep", "_law_twins_here", "_law_atoms_here", "_law_room"] [] (prv (spValue K) k)) :
    Gd P w K base mg CX0 (2 * (k + 1) + 2) (He.fAd K d__law_value.at_) ["_law_source_here", "_law_deep", "_law_twins_here", "_law_atoms_here", "_law_room"] [] (spValue K k) := by
  have G__law_draw := ok__law_draw (P := P) (w := w) (base := base) T
  have G__law_scalar := ok__law_scalar (P := P) (w := w) (base := base) T
  obtain ⟨sT, hsT, G__law_table⟩ : ∃ sT : Sp, (∀ j, k = j + 1 → sT = spTabl K j) ∧ Gd P w K base mg CX0 (2 * k + 3) (He.fAd K d__law_table.at_) ["_law_source_here", "_law_many", "_law_deep", "_law_twins_here", "_law_atoms_here", "_law_room"] [] sT := by
    cases k with
    | zero => exact ⟨_, fun _ z => (nomatch z), mkGdF (T.f__law_table) sc__law_table (fun _ _ _ _ _ _ us hl => match us, hl with | [_, _, _, _, _, _], _ => rfl) _⟩
    | succ j => exact ⟨_, fun _ z => by cases z; rfl, ok__law_table T j (2 * (j + 1) + 2) (by omega) G__law_value⟩
  refine mkGd (T.f__law_value) sc__law_value (fun vs H Q E h => ?_) (fun _ _ _ _ _ _ us hl => match us, hl with | [_, _, _, _, _], _ => rfl) (fun cdv A outer s H vs Q E hr h => ?_)
  · obtain ⟨p, t, a, r, n, ps, rfl, _⟩ := h
    rfl
  · have hu := hu_of hr
    obtain ⟨p, t, a, r, n, ps, rfl, g, hn, q⟩ := h
    have hg7 := drN_ge k
    refine ⟨_, (pss_cons (ps_set (i := 5) sc__law_value.nd rfl (Or.inl rfl) (pe_callG G__law_draw T.g__law_draw (hr.mono (by first | decide | omega)) pass0 (pa_cons (pv 0) (pa_cons pe_int pa_nil))))
      (pss_cons (ps_if (PW.pt (pw_or (pt_cmpR op_eq (pv 1) pe_int (nomark _)) (pw_or (pt_cmpR op_le (pe_ix (r := rIxL K) ix_list (pv 4) pe_int (fun _ _ => rfl)) pe_int (nomark _)) (pw_or1 (pt_cmpR op_lt (pv 5) pe_int (nomark _)))))) (pss_one (ps_ret (pe_callG G__law_scalar T.g__law_scalar (hr.mono (by first | decide | omega)) pass0 (pa_cons (pv 0) (pa_cons (pv 3) pa_nil))))) pss_nil)
      (pss_cons (ps_set (i := 6) sc__law_value.nd rfl (Or.inl rfl) (pe_callG G__law_draw T.g__law_draw (hr.mono (by first | decide | omega)) pass0 (pa_cons (pv 0) (pa_cons pe_int pa_nil))))
      (pss_cons (ps_asg (pe_op op_sub (pe_ix (r := rIxL K) ix_list (pv 4) pe_int (fun _ _ => rfl)) (pv 6)) (pg_sub (pv 4) pe_int set_list))
      (pss_cons (ps_if (pt_cmpR op_lt (pv 5) pe_int (nomark _)) (pss_cons (ps_setLc (i := 8) (own := [("_law_turn", 7)]) (g := gName 7) (tt := tYes) rfl sc__law_value.nd rfl rfl (sw_true rfl rfl rfl (by decide +kernel)) (pi_range1 rfl T.n_range (pa_cons (pv 6) pa_nil)) (blkOk_by (own := [("_law_turn", 7)]) (N := N__law_value) (sc := defScope s__law_value) (by decide +kernel)) (fun _ _ _ _ _ => (pg_name (i := 7) sc__law_value.nd rfl (Or.inl rfl))) (fun _ _ _ _ _ => pts_nil) (fun _ _ _ _ _ => (pe_callG G__law_value T.g__law_value (hr.mono (by first | decide | omega)) pass0 (pa_cons (pv 0) (pa_cons (pe_op op_sub (pv 1) pe_int) (pa_cons (pv 2) (pa_cons (pv 3) (pa_cons (pv 4) pa_nil))))))))
      (pss_one (ps_ret (pe_ifExp (pt_cmpR op_lt (pv 5) pe_int (nomark _)) (pe_callTy call_tuple_of (by rfl) T.n_tuple (by decide +kernel) (pa_cons (pv 8) pa_nil)) (pv 8))))) pss_nil)
      (pss_one (ps_ret (pe_callG G__law_table T.g__law_table (hr.mono (by first | decide | omega)) pass0 (pa_cons (pv 0) (pa_cons (pv 6) (pa_cons (pv 1) (pa_cons (pv 2) (pa_cons (pv 3) (pa_cons (pv 4) pa_nil)))))))))))))), ?_⟩
    refine ⟨_, rfl, p, n, 8, rfl, g.gd, by omega, by decide, by decide, fun d H1 d0 d1 D1 s1 => ?_⟩
    have R1 := g.gr.sx g.rp s1
    have g1 := g.to (Sx.two s1) D1 R1
    have hap : a ≠ p := fun z => g.an (by simp [z])
    have sc : ∀ D : Ends, D.rt = Q → tRet (tCall spScalar [] E0 (tCons (tVar 0) (tCons (tVar 3) tNil))) D [some (.ref p), some (.int (k : Int)), some (.ref t), some (.ref a), some (.ref r), some (.int d), none, none, none] H1 := fun D eD => by
      refine ⟨_, rfl, _, rfl, p, a, n + 1, rfl, D1, by omega, g1.ga, hap, fun v e H2 hv he D2 s2 => ?_⟩
      rw [eD]
      exact q v e H2 (VAt.flat hv) (Ok.flat he) (T3.flat hv) (D2.up (by omega)) (R1.sx g.rp s2) ((Sx.two s1).trans (Sx.two s2))
    obtain ⟨ri, hri⟩ := R1
    refine ⟨_, rfl, rfl, _, rfl, ite2 (fun _ => iteT (sc _ rfl)) (fun hk => ⟨_, rfl, r, _, 0, _, rfl, rfl, SqL.of hri, at_of (j := 0) rfl rfl, _, _, rfl, rfl, _, rfl, ite2 (fun _ => iteT (sc _ rfl)) (fun _ => ⟨_, rfl, _, _, rfl, rfl, _, rfl, ite2 (fun _ => sc _ rfl) (fun _ => ?_)⟩)⟩)⟩
    clear sc
    have hk : k ≠ 0 := fun z => hk (by rw [z]; rfl)
    obtain ⟨j, rfl⟩ : ∃ j, k = j + 1 := ⟨k - 1, by omega⟩
    cases hsT j rfl
    have en : drN (j + 1) = 23 + 3 * drN j := rfl
    rw [en] at hn q
    refine ⟨_, rfl, p, n + 1, 4, rfl, D1, by omega, by decide, by decide, fun m H2 m0 m1 D2 s2 => ?_⟩
    have hr2 := s2.one g.rp hri
    refine ⟨_, rfl, r, _, 0, _, rfl, rfl, SqL.of hr2, at_of (j := 0) rfl rfl, _, rfl, _, _, rfl, rfl, _, rfl, r, _, _, 0, rfl, rfl, hr2, rfl, ?_⟩
    obtain ⟨H3, hH3⟩ : ∃ H3, upd H2 r (.lst [.int (ri - m)]) = H3 := ⟨_, rfl⟩
    have s3 : Sx [p, r] H H3 := ((Sx.two s1).trans (Sx.two s2)).trans (by rw [← hH3]; exact Sx.up (by simp))
    have D3 : Dr H3 p (n + 2) := by
      obtain ⟨gg, gk, gc, dp, dd⟩ := D2
      exact ⟨gg, gk, gc, by rw [← hH3, upd_ne g.rp.symm]; exact dp, dd⟩
    have R3 : Rm H3 r := ⟨_, by rw [← hH3]; exact upd_same⟩
    have g3 := g.to s3 D3 R3
    have hst : upd H2 r (.lst ([V.int ri].set 0 (.int (ri - m)))) = H3 := hH3
    have hT : ∀ (d2 : Int), spTabl K j [.ref p, .int m, .int ((j + 1 : Nat) : Int), .ref t, .ref a, .ref r] H3 Q E0 := fun _ =>
      ⟨p, t, a, r, m, n + 2, ps, rfl, m0, by omega, g3, by omega, fun v e H4 hv he t3 D4 R4 s4 => q v e H4 hv he t3 (D4.up (by omega)) R4 (s3.trans s4)⟩
    rw [hst]
    clear hst hH3
    refine ⟨_, rfl, _, _, rfl, rfl, _, rfl, ite2 (fun _ => ?_) (fun _ => ?_)⟩
    · refine ⟨_, rfl, _, rfl, by omega, by omega, fun D hD => lc_range (lo := 0) (n := m.toNat) (fun i H' => Dr H' p (n + 2 + i * drN j) ∧ Rm H' r ∧ Sx [p, r] H3 H' ∧ ∃ ys ds, H' D = some (.lst ys) ∧ Paired (VAt (CT K) (cut H' (D :: ps)) j) ys ds ∧ ds.length ≤ i ∧ ∀ e ∈ ds, Ok j e)
        ⟨(D3.same (Same.nu hD)).up (by omega), R3.same (Same.nu hD), Sx.of (Same.nu hD), [], [], upd_same, .nil, Nat.le_refl _, fun _ h => nomatch h⟩ ?_ ?_⟩
      · rintro i H4 hi ⟨D4, R4, s4, ys, ds, hD4, hP, hl, hok⟩
        have hi3 : i < 3 := by omega
        have bnd : n + 2 + i * drN j + drN j ≤ n + 2 + 3 * drN j := by
          have : (i + 1) * drN j ≤ 3 * drN j := Nat.mul_le_mul_right _ (by omega)
          rw [Nat.add_mul] at this
          omega
        have g4 := (g3.to s4 D4 R4).cons hD4
        have hDpr : D ∉ [p, r] := g3.ne hD
        refine ⟨rfl, _, rfl, _, rfl, _, _, rfl, rfl, _, rfl, _, rfl, _, rfl, p, t, a, r, _, D :: ps, ?_, g4, by omega, fun v e H5 hv he _ D5 R5 s5 => ⟨ys, s5.at2 hD4 hDpr, ?_, ?_⟩⟩
        · exact congrArg (fun z => [V.ref p, V.int z, V.ref t, V.ref a, V.ref r]) (show ((j + 1 : Nat) : Int) - 1 = (j : Int) by omega)
        · have := Paired.length hP
          exact small1000 (by omega)
        · have pne : p ≠ D := fun z => hDpr (by simp [z])
          have rne : r ≠ D := fun z => hDpr (by simp [z])
          have sx : ∀ b o, b ≠ D → H5 b = some o → (upd H5 D (.lst (ys ++ [v]))) b = some o := fun b o n e => by
            rw [upd_ne n]
            exact e
          obtain ⟨gg, gk, gc, dp, dd⟩ := D5.up (m := n + 2 + (i + 1) * drN j) (by rw [Nat.add_mul]; omega)
          obtain ⟨r5, rp⟩ := R5
          refine ⟨⟨gg, gk, gc, sx _ _ pne dp, dd⟩, ⟨r5, sx _ _ rne rp⟩, fun b o nb e => sx b o (fun z => ?_) (s4.trans s5 b o nb e), ys ++ [v], ds ++ [e], upd_same, ?_, by rw [List.length_append, List.length_singleton]; omega, fun e' h' => ?_⟩
          · rw [z, hD] at e
            cases e
          · rw [cut_cons]
            exact Paired.snoc (Paired.mapP hP fun _ _ h => VAt.same (cut_pr s5 (List.mem_cons_of_mem _ g.pp) (List.mem_cons_of_mem _ g.rr)) h) hv
          · rcases List.mem_append.mp h' with z | z
            · exact hok e' z
            · rw [List.mem_singleton.mp z]; exact he
      · rintro H4 ⟨D4, R4, s4, ys, ds, hD4, hP, hl, hok⟩
        have bnd : m.toNat * drN j ≤ 3 * drN j := Nat.mul_le_mul_right _ (by omega)
        have hnD : D ∉ ps := g3.hs.new hD
        have hP2 : Paired (VAt (CT K) (cut H4 ps) j) ys ds := Paired.mapP hP fun _ _ h => VAt.same (cut_mono fun b hb => List.mem_cons_of_mem _ hb) h
        refine ⟨_, rfl, _, _, rfl, rfl, _, rfl, ite2 (fun _ => ?_) (fun _ => ?_)⟩
        · refine ⟨_, rfl, D, ys, rfl, .inl ⟨SqL.of hD4, fun q2 hq2 => ?_⟩⟩
          have nu := Same.nu (o := .tup ys) hq2
          have nq : q2 ∉ ps := fun z => (g3.to s4 D4 R4).hs q2 z hq2
          exact q _ (.seq false ds) _ (.inr (.inl ⟨false, ds, q2, ys, rfl, rfl, cut_at nq upd_same, Paired.mapP hP2 fun _ _ h => VAt.same (cut_put hq2) h⟩)) (.inr (.inl ⟨false, ds, rfl, by omega, hok⟩)) (fun _ z => nomatch z) ((D4.same nu).up (by omega)) (R4.same nu) ((s3.trans s4).sm nu)
        · exact ⟨_, rfl, q _ (.seq true ds) H4 (.inr (.inl ⟨true, ds, D, ys, rfl, rfl, cut_at hnD hD4, hP2⟩)) (.inr (.inl ⟨true, ds, rfl, by omega, hok⟩)) (fun _ z => nomatch z) (D4.up (by omega)) R4 (s3.trans s4)⟩
    · exact ⟨_, rfl, _, rfl, _, rfl, _, rfl, _, rfl, _, rfl, hT 0⟩
theorem ok__law_value (T : Tx w K mg) : ∀ k, Gd P w K base mg CX0 (2 * (k + 1) + 2) (He.fAd K d__law_value.at_) ["_law_source_here", "_law_deep", "_law_twins_here", "_law_atoms_here", "_law_room"] [] (spValue K k) :=
  recGdN (fun k => 2 * k + 2) (fun l => mkGdF (T.f__law_value) sc__law_value (fun _ _ _ _ _ _ us hl => match us, hl with | [_, _, _, _, _], _ => rfl) l) fun k G => st__law_value T k G
end
end Kt
set_option Elab.async false
set_option linter.all false
set_option maxRecDepth 100000
set_option maxHeartbeats 4000000
namespace Kt
open PySem PySem.Spec PyProof.Rows L2 Rz _root_.TL
section
variable {P : Program} {w : World} {K : PySem.W.Frag} {mg : Str → Option Value} {base : Heap}
theorem sum_cast (l : List Nat) : ((l.map fun (n : Nat) => (n : Int)).sum : Int) = ((l.sum : Nat) : Int) := by
  induction l with
  | nil => rfl
  | cons a r ih => rw [List.map_cons, List.sum_cons, List.sum_cons, ih]; omega
def spParts (K : PySem.W.Frag) (k : Nat) : Sp := fun vs H Q _ => ∃ (j : Nat) (x : V) (d : Val), j ≤ k ∧ vs = [x] ∧ VAt (CT K) H j x d ∧ Ok j d ∧ ∀ H', Same H H' → Q (.int ((Rz.parts j d : Nat) : Int)) H'
theorem parts_leaf {k : Nat} {d : Val} (n1 : ∀ t l, d ≠ .seq t l) (n2 : ∀ es, d ≠ .tab es) : Rz.parts k d = 1 := by
  cases k with
  | zero => rfl
  | succ k => cases d with
    | seq t l => exact absurd rfl (n1 t l)
    | tab es => exact absurd rfl (n2 es)
    | _ => rfl
theorem st__law_parts (T : Tx w K mg) (k : Nat) (G__law_parts : Gd P w K base mg CX0 (k + 2) (He.fAd K d__law_parts.at_) ["_law_value_here"] [] (prv (spParts K) k)) : Gd P w K base mg CX0 ((k + 2) + 1) (He.fAd K d__law_parts.at_) ["_law_value_here"] [] ((spParts K) k) := by
  refine mkGd (T.f__law_parts) sc__law_parts (fun vs H Q E h => ?_) (fun _ _ _ _ _ _ us hl => match us, hl with | [_], _ => rfl) (fun cdv A outer s H vs Q E hr h => ?_)
  · obtain ⟨j, x, d, _, rfl, _⟩ := h
    rfl
  · have hu := hu_of hr
    obtain ⟨j, x, d, hj, rfl, hv, ok, q⟩ := h
    have G_Table_entries := ok_Table_entries (P := P) (w := w) (base := base) T (j - 1)
    refine ⟨_, (pss_cons (ps_if (pt_val (pe_callB call_isiT (by rfl) T.n_isinstance (by decide +kernel) (pa_cons (pv 0) (pa_cons (pe_tup (pa_cons (pe_bltn (v := .ty "list") (u := .type "list") (by rfl) T.n_list (by decide +kernel) rfl) (pa_cons (pe_bltn (v := .ty "tuple") (u := .type "tuple") (by rfl) T.n_tuple (by decide +kernel) rfl) pa_nil))) pa_nil)))) (pss_one (ps_ret (pe_op op_add pe_int (pe_callB (cr_sum rfl) (by rfl) T.n_sum (by decide +kernel) (pa_cons (pe_lc (own := [("_law_item", 1)]) (g := gName 1) (tt := tYes) rfl sc__law_parts.nd (pi_seqB (pv 0)) (blkOk_by (own := [("_law_item", 1)]) (N := N__law_parts) (sc := defScope s__law_parts) (by decide +kernel)) (fun _ _ _ _ _ => (pg_name (i := 1) sc__law_parts.nd rfl (Or.inl rfl))) (fun _ _ _ _ _ => pts_nil) (fun _ _ _ _ _ => (pe_callG G__law_parts T.g__law_parts (hr.mono (by first | decide | omega)) pass0 (pa_cons (pv 1) pa_nil)))) pa_nil))))) pss_nil)
      (pss_cons (ps_if (pt_val (pe_callB call_isi (by rfl) T.n_isinstance (by decide +kernel) (pa_cons (pv 0) (pa_cons (pe_glob (v := .ref (He.ga K "Table")) rfl T.g_Table rfl) pa_nil)))) (pss_one (ps_ret (pe_op op_add pe_int (pe_callB (cr_sum rfl) (by rfl) T.n_sum (by decide +kernel) (pa_cons (pe_lc (own := [("_law_key_here", 2), ("_law_item", 1)]) (g := gTup K 2 (gCons (gName 2) (gCons (gName 1) gNil))) (tt := tYes) rfl sc__law_parts.nd (pi_list (pe_methG0 (pv 0) T.cl_Table T.m_Table_entries G_Table_entries (hr.mono (by first | decide | omega)) pass0)) (blkOk_by (own := [("_law_key_here", 2), ("_law_item", 1)]) (N := N__law_parts) (sc := defScope s__law_parts) (by decide +kernel)) (fun _ _ _ _ _ => (pg_tup rfl (pgs_cons (pg_name (i := 2) sc__law_parts.nd rfl (Or.inl rfl)) (pgs_cons (pg_name (i := 1) sc__law_parts.nd rfl (Or.inl rfl)) pgs_nil)))) (fun _ _ _ _ _ => pts_nil) (fun _ _ _ _ _ => (pe_callG G__law_parts T.g__law_parts (hr.mono (by first | decide | omega)) pass0 (pa_cons (pv 1) pa_nil)))) pa_nil))))) pss_nil)
      (pss_one (ps_ret pe_int)))), ?_⟩
    refine ⟨_, rfl, (by show 2 ≤ sizeLine; decide), fun tt htt => ?_⟩
    have nu0 := Same.nu (o := .tup [V.ty "list", V.ty "tuple"]) htt
    obtain ⟨t3, y3, k3⟩ := isiLT T nu0 hv
    obtain ⟨t1, y1, k1⟩ := isiC T nu0 hv
    refine ⟨_, tt, _, t3, _, _, rfl, upd_same, .cons (.ty _) (.cons (.ty _) .nil), y3, k3, _, rfl, ?_⟩
    have hlf : (∀ t l, d ≠ .seq t l) → (∀ es, d ≠ .tab es) → Q (.int 1) (upd H tt (.tup [V.ty "list", V.ty "tuple"])) := fun n1 n2 => by
      have := q _ nu0
      rw [parts_leaf n1 n2] at this
      exact this
    cases d with
    | seq t l =>
      obtain ⟨i, a, xs, rfl, rfl, ha, hx⟩ := at_list hv
      obtain ⟨h4, hok⟩ := ok_list ok
      obtain ⟨k, rfl⟩ : ∃ m, k = m + 1 := ⟨k - 1, by omega⟩
      have hl := Paired.length hx
      have hS : SqB K t (upd H tt (.tup [V.ty "list", V.ty "tuple"])) a xs := sqB_of (nu0 _ _ ha)
      have tru : (isT "list" (.seq t l) || isT "tuple" (.seq t l)) = true := by cases t <;> rfl
      rw [tru]
      have es : ((l.map fun e => ((Rz.parts i e : Nat) : Int)).sum : Int) = (((l.map (Rz.parts i)).sum : Nat) : Int) := by
        rw [← sum_cast, List.map_map]
        rfl
      have ep : (1 : Int) + (l.map fun e => ((Rz.parts i e : Nat) : Int)).sum = ((Rz.parts (i + 1) (.seq t l) : Nat) : Int) := by
        rw [es]
        show (1 : Int) + _ = ((1 + (l.map (Rz.parts i)).sum : Nat) : Int)
        omega
      refine iteT ⟨_, rfl, t, a, xs, rfl, hS, fun D hD => lc_seqB (xs := xs) (fun m H' => Same (upd H tt (.tup [V.ty "list", V.ty "tuple"])) H' ∧ H' D = some (.lst (((l.take m).map fun e => ((Rz.parts i e : Nat) : Int)).map V.int)))
        ⟨Same.nu hD, upd_same⟩ (fun m H' _ h => sqB_same h.1 hS) ?_ ?_⟩
      · rintro m y H' hy ⟨s1, hd⟩
        obtain ⟨e, he, hye⟩ := Paired.at hx hy
        have hm := lt_of_at he
        refine ⟨rfl, _, rfl, i, y, e, by omega, rfl, VAt.same (nu0.trans s1) hye, hok e (List.mem_of_getElem? he), fun H2 s2 => ⟨_, s2 _ _ hd, ?_, Same.mk'' (s1.trans s2) hD, ?_⟩⟩
        · rw [List.length_map, List.length_map, List.length_take]
          exact small1000 (by omega)
        · rw [upd_same, take_snoc he, List.map_append, List.map_append]
          rfl
      · rintro H' ⟨s1, hd⟩
        rw [List.take_of_length_le (by omega)] at hd
        refine ⟨D, _, rfl, SqL.of hd, _, _, rfl, rfl, ?_⟩
        have := q H' (nu0.trans s1)
        rw [← ep] at this
        exact this
    | tab es =>
      obtain ⟨i, p, dx, dd, od, kvs, rfl, rfl, hp, hd, hpr⟩ := at_tab hv
      obtain ⟨h4, hnd, hok⟩ := ok_tab ok
      obtain ⟨k, rfl⟩ : ∃ m, k = m + 1 := ⟨k - 1, by omega⟩
      have esum : ((es.map fun e => ((Rz.parts i e.2 : Nat) : Int)).sum : Int) = (((es.map fun e => Rz.parts i e.2).sum : Nat) : Int) := by
        rw [← sum_cast, List.map_map]
        rfl
      have ep : (1 : Int) + (es.map fun e => ((Rz.parts i e.2 : Nat) : Int)).sum = ((Rz.parts (i + 1) (.tab es) : Nat) : Int) := by
        rw [esum]
        show (1 : Int) + _ = ((1 + (es.map fun e => Rz.parts i e.2).sum : Nat) : Int)
        omega
      refine iteF ⟨_, rfl, .ref p, _, t1, _, _, rfl, .own _, y1, k1, _, rfl, iteT ?_⟩
      refine ⟨_, rfl, p, dx, _, rfl, nu0 _ _ hp, rfl, .ref p, es, [], rfl, Has.nil, (by rw [cut_nil]; exact VAt.same nu0 hv), ⟨h4, hnd, hok⟩, fun H1 l ts s1 hl0 hl hE => ⟨l, rfl, ⟨_, SqL.of hl⟩, fun D hD => lc_list (xs := ts)
        (fun m H' => Same H1 H' ∧ H' D = some (.lst (((es.take m).map fun e => ((Rz.parts i e.2 : Nat) : Int)).map V.int))) ⟨Same.nu hD, upd_same⟩ (fun m H' _ h => SqL.of (h.1 _ _ hl)) ?_ ?_⟩⟩
      · rintro m y H' hy ⟨s2, hd2⟩
        obtain ⟨e, he, b, x2, rfl, hb, hx2⟩ := Paired.at hE hy
        have hm := lt_of_at he
        refine ⟨b, _, rfl, SqT.of (s2 _ _ hb), rfl, _, _, rfl, _, _, rfl, rfl, rfl, _, rfl, i, x2, e.2, by omega, rfl, VAt.same s2 (VAt.same cut_le hx2), (hok e (List.mem_of_getElem? he)).2, fun H2 s3 => ⟨_, s3 _ _ hd2, ?_, Same.mk'' (s2.trans s3) hD, ?_⟩⟩
        · rw [List.length_map, List.length_map, List.length_take]
          exact small1000 (by omega)
        · rw [upd_same, take_snoc he, List.map_append, List.map_append]
          rfl
      · rintro H' ⟨s2, hd2⟩
        have hlE := Paired.length hE
        rw [List.take_of_length_le (by omega)] at hd2
        refine ⟨D, _, rfl, SqL.of hd2, _, _, rfl, rfl, ?_⟩
        have := q H' ((nu0.trans s1).trans s2)
        rw [← ep] at this
        exact this
    | _ => exact iteF ⟨_, rfl, _, _, t1, _, _, rfl, .own _, y1, k1, _, rfl, iteF (hlf (fun _ _ z => nomatch z) (fun _ z => nomatch z))⟩
theorem ok__law_parts (T : Tx w K mg) : ∀ k, Gd P w K base mg CX0 ((k + 2) + 1) (He.fAd K d__law_parts.at_) ["_law_value_here"] [] ((spParts K) k) := fun k => recGd (fun k => (k + 2)) (fun l => mkGdF (T.f__law_parts) sc__law_parts (fun _ _ _ _ _ _ us hl => match us, hl with | [_], _ => rfl) l) (fun k G => st__law_parts T k G) (by intro _; first | rfl | omega) k
end
end Kt
set_option Elab.async false
set_option linter.all false
set_option maxRecDepth 100000
set_option maxHeartbeats 4000000
namespace Kt
open PySem PySem.Spec PyProof.Rows L2 Rz _root_.TL
section
variable {P : Program} {w : World} {K : PySem.W.Frag} {mg : Str → Option Value} {base : Heap}
/-- a list of ten numbers below 4 -/
def spPass (K : PySem.W.Frag) : Sp := fun vs H Q _ => ∃ (p : Addr) (n : Nat), vs = [.ref p] ∧ Dr H p n ∧ n < 400000 ∧ ∀ x o r H', PAt K H' x o r → o.ok → r.ok → x ≠ p → Dr H' p (n + 10) → Sx [p] H H' → Q (.ref x) H'
theorem four_str {z0 z1 z2 z3 : Str} {M : List Str} (h : ∀ z ∈ [z0, z1, z2, z3], z ∈ M) {c : Int} (h0 : 0 ≤ c) (h1 : c < 4) : ∃ z ∈ M, atI [V.str z0, .str z1, .str z2, .str z3] c = some (.str z) := by
  have hc : c = 0 ∨ c = 1 ∨ c = 2 ∨ c = 3 := by omega
  rcases hc with rfl | rfl | rfl | rfl
  · exact ⟨z0, h _ (by simp), atI_nat (j := 0) rfl⟩
  · exact ⟨z1, h _ (by simp), atI_nat (j := 1) rfl⟩
  · exact ⟨z2, h _ (by simp), atI_nat (j := 2) rfl⟩
  · exact ⟨z3, h _ (by simp), atI_nat (j := 3) rfl⟩
theorem ok__law_passage (T : Tx w K mg) : Gd P w K base mg CX0 5 (He.fAd K d__law_passage.at_) ["_law_source_here"] [] (spPass K) := by
  have G__law_draw := ok__law_draw (P := P) (w := w) (base := base) T
  refine mkGd (T.f__law_passage) sc__law_passage (fun vs H Q E h => ?_) (fun _ _ _ _ _ _ us hl => match us, hl with | [_], _ => rfl) (fun cdv A outer s H vs Q E hr h => ?_)
  · obtain ⟨p, n, rfl, _⟩ := h
    rfl
  · have hu := hu_of hr
    obtain ⟨fdP, mvP, F_Passage, hb_Passage⟩ := ok_Passage_init (P := P) (w := w) (base := base) T
    obtain ⟨p, n, rfl, D, hn, q⟩ := h
    refine ⟨_, (pss_cons (ps_setLc (i := 2) (own := [("_law_turn", 1)]) (g := gName 1) (tt := tYes) rfl sc__law_passage.nd rfl rfl (sw_true rfl rfl rfl (by decide +kernel)) (pi_range1 rfl T.n_range (pa_cons pe_int pa_nil)) (blkOk_by (own := [("_law_turn", 1)]) (N := N__law_passage) (sc := defScope s__law_passage) (by decide +kernel)) (fun _ _ _ _ _ => (pg_name (i := 1) sc__law_passage.nd rfl (Or.inl rfl))) (fun _ _ _ _ _ => pts_nil) (fun _ _ _ _ _ => (pe_callG G__law_draw T.g__law_draw (hr.mono (by first | decide | omega)) pass0 (pa_cons (pv 0) (pa_cons pe_int pa_nil)))))
      (pss_one (ps_ret (pe_makeK0 T.mk_Passage F_Passage (hr.mono (by first | decide | omega)) rfl T.g_Passage hb_Passage pass0 (pk_cons (pe_ix (r := rIxL K) ix_list (pe_lst (pa_cons pe_str (pa_cons pe_str (pa_cons pe_str (pa_cons pe_str pa_nil))))) (pe_ix (r := rIxL K) ix_list (pv 2) pe_int (fun _ _ => rfl)) (fun _ _ => rfl)) (pk_cons (pe_ix (r := rIxL K) ix_list (pe_lst (pa_cons pe_str (pa_cons pe_str (pa_cons pe_str (pa_cons pe_str pa_nil))))) (pe_ix (r := rIxL K) ix_list (pv 2) pe_int (fun _ _ => rfl)) (fun _ _ => rfl)) (pk_cons (pe_ix (r := rIxL K) ix_list (pe_lst (pa_cons pe_str (pa_cons pe_str (pa_cons pe_str (pa_cons pe_str pa_nil))))) (pe_ix (r := rIxL K) ix_list (pv 2) pe_int (fun _ _ => rfl)) (fun _ _ => rfl)) (pk_cons (pe_ix (r := rIxL K) ix_list (pe_lst (pa_cons pe_str (pa_cons pe_str (pa_cons pe_str (pa_cons pe_str pa_nil))))) (pe_ix (r := rIxL K) ix_list (pv 2) pe_int (fun _ _ => rfl)) (fun _ _ => rfl)) (pk_cons (pe_ix (r := rIxL K) ix_list (pe_lst (pa_cons pe_str (pa_cons pe_str (pa_cons pe_str (pa_cons pe_str pa_nil))))) (pe_ix (r := rIxL K) ix_list (pv 2) pe_int (fun _ _ => rfl)) (fun _ _ => rfl)) (pk_cons (pe_ix (r := rIxL K) ix_list (pe_lst (pa_cons pe_str (pa_cons pe_str (pa_cons pe_str (pa_cons pe_str pa_nil))))) (pe_ix (r := rIxL K) ix_list (pv 2) pe_int (fun _ _ => rfl)) (fun _ _ => rfl)) (pk_cons (pe_ix (r := rIxL K) ix_list (pe_lst (pa_cons pe_str (pa_cons pe_str (pa_cons pe_str (pa_cons pe_str pa_nil))))) (pe_ix (r := rIxL K) ix_list (pv 2) pe_int (fun _ _ => rfl)) (fun _ _ => rfl)) (pk_cons (pe_ix (r := rIxL K) ix_list (pe_lst (pa_cons pe_str (pa_cons pe_str (pa_cons pe_str (pa_cons pe_str pa_nil))))) (pe_ix (r := rIxL K) ix_list (pv 2) pe_int (fun _ _ => rfl)) (fun _ _ => rfl)) (pk_cons (pe_ix (r := rIxL K) ix_list (pe_lst (pa_cons pe_str (pa_cons pe_str (pa_cons pe_str (pa_cons pe_str pa_nil))))) (pe_ix (r := rIxL K) ix_list (pv 2) pe_int (fun _ _ => rfl)) (fun _ _ => rfl)) (pk_cons (pe_ix (r := rIxL K) ix_list (pe_lst (pa_cons pe_str (pa_cons pe_str (pa_cons pe_str (pa_cons pe_str pa_nil))))) (pe_ix (r := rIxL K) ix_list (pv 2) pe_int (fun _ _ => rfl)) (fun _ _ => rfl)) pk_nil)))))))))))))), ?_⟩
    refine ⟨_, rfl, by decide, by decide, fun L hL => lc_range (lo := 0) (n := 10) (fun i H' => Dr H' p (n + i) ∧ Sx [p] H H' ∧ ∃ cs : List Int, H' L = some (.lst (cs.map V.int)) ∧ cs.length = i ∧ ∀ c ∈ cs, 0 ≤ c ∧ c < 4) ?_ ?_ ?_⟩
    · exact ⟨D.same (Same.nu hL), Sx.of (Same.nu hL), [], upd_same, rfl, fun _ h => nomatch h⟩
    · rintro i H1 hi ⟨D1, s1, cs, hL1, hcl, hc⟩
      have hLp : L ≠ p := D.ne hL
      refine ⟨rfl, _, rfl, p, n + i, 4, rfl, D1, (by have h10 : i < 10 := hi; omega), by decide, by decide, fun d H2 d0 d1 D2 s2 => ⟨_, s2.one hLp hL1, ?_, ?_⟩⟩
      · rw [List.length_map, hcl]
        exact small1000 (by have h10 : i < 10 := hi; omega)
      · refine ⟨?_, ?_, cs ++ [d], ?_, by rw [List.length_append, hcl]; rfl, fun c h => ?_⟩
        · obtain ⟨gg, gk, gc, dp, dd⟩ := D2
          exact ⟨gg, gk, gc, by rw [upd_ne hLp.symm]; exact dp, dd⟩
        · intro b o nb e
          rw [upd_ne (ne_of_none e hL)]
          exact (s1.trans s2) b o nb e
        · rw [upd_same, List.map_append]
          rfl
        · rcases List.mem_append.mp h with z | z
          · exact hc c z
          · rw [List.mem_singleton.mp z]; exact ⟨d0, d1⟩
    · rintro H1 ⟨D1, s1, cs, hL1, hcl, hc⟩
      match cs, hcl with
      | [c0, c1, c2, c3, c4, c5, c6, c7, c8, c9], _ =>
      have hL1 : H1 L = some (.lst [.int c0, .int c1, .int c2, .int c3, .int c4, .int c5, .int c6, .int c7, .int c8, .int c9]) := hL1
      have hLp : L ≠ p := D.ne hL
      obtain ⟨z0, m0, a0⟩ := four_str (z0 := "text") (z1 := "text") (z2 := "skip") (z3 := "refuse") (M := ["text", "skip", "refuse"]) (by decide +kernel) (hc c0 (by simp)).1 (hc c0 (by simp)).2
      obtain ⟨z1, m1, a1⟩ := four_str (z0 := "list") (z1 := "list") (z2 := "list") (z3 := "refuse") (M := ["list", "refuse"]) (by decide +kernel) (hc c1 (by simp)).1 (hc c1 (by simp)).2
      obtain ⟨z2, m2, a2⟩ := four_str (z0 := "keep") (z1 := "keep") (z2 := "keep") (z3 := "skip") (M := ["keep", "skip"]) (by decide +kernel) (hc c2 (by simp)).1 (hc c2 (by simp)).2
      obtain ⟨z3, m3, a3⟩ := four_str (z0 := "keep") (z1 := "keep") (z2 := "keep") (z3 := "refuse") (M := ["keep", "refuse"]) (by decide +kernel) (hc c3 (by simp)).1 (hc c3 (by simp)).2
      obtain ⟨z4, m4, a4⟩ := four_str (z0 := "keep") (z1 := "rising") (z2 := "keep") (z3 := "rising") (M := ["keep", "rising"]) (by decide +kernel) (hc c4 (by simp)).1 (hc c4 (by simp)).2
      obtain ⟨z5, m5, a5⟩ := four_str (z0 := "keep") (z1 := "keep") (z2 := "text") (z3 := "refuse") (M := ["keep", "text", "refuse"]) (by decide +kernel) (hc c5 (by simp)).1 (hc c5 (by simp)).2
      obtain ⟨z6, m6, a6⟩ := four_str (z0 := "last") (z1 := "last") (z2 := "first") (z3 := "refuse") (M := ["last", "first", "refuse"]) (by decide +kernel) (hc c6 (by simp)).1 (hc c6 (by simp)).2
      obtain ⟨z7, m7, a7⟩ := four_str (z0 := "text") (z1 := "text") (z2 := "text") (z3 := "number") (M := ["text", "number"]) (by decide +kernel) (hc c7 (by simp)).1 (hc c7 (by simp)).2
      obtain ⟨z8, m8, a8⟩ := four_str (z0 := "list") (z1 := "list") (z2 := "list") (z3 := "tuple") (M := ["list", "tuple"]) (by decide +kernel) (hc c8 (by simp)).1 (hc c8 (by simp)).2
      obtain ⟨z9, m9, a9⟩ := four_str (z0 := "keep") (z1 := "keep") (z2 := "keep") (z3 := "skip") (M := ["keep", "skip"]) (by decide +kernel) (hc c9 (by simp)).1 (hc c9 (by simp)).2
      have S0 : Same H1 H1 := Same.refl _
      refine ⟨(by show 4 ≤ sizeLine; decide), fun l0 h0 => ⟨_, rfl, L, _, 0, .int c0, rfl, rfl, SqL.of (Same.nu h0 _ _ (S0 _ _ hL1)), at_of (j := 0) rfl rfl, l0, _, c0, .str z0, rfl, rfl, SqL.of upd_same, a0, ?_⟩⟩
      have S1 := S0.trans (Same.nu (o := .lst [.str "text", .str "text", .str "skip", .str "refuse"]) h0)
      generalize upd _ l0 _ = G0 at S1 ⊢
      refine ⟨(by show 4 ≤ sizeLine; decide), fun l1 h1 => ⟨_, rfl, L, _, 1, .int c1, rfl, rfl, SqL.of (Same.nu h1 _ _ (S1 _ _ hL1)), at_of (j := 1) rfl rfl, l1, _, c1, .str z1, rfl, rfl, SqL.of upd_same, a1, ?_⟩⟩
      have S2 := S1.trans (Same.nu (o := .lst [.str "list", .str "list", .str "list", .str "refuse"]) h1)
      generalize upd _ l1 _ = G1 at S2 ⊢
      refine ⟨(by show 4 ≤ sizeLine; decide), fun l2 h2 => ⟨_, rfl, L, _, 2, .int c2, rfl, rfl, SqL.of (Same.nu h2 _ _ (S2 _ _ hL1)), at_of (j := 2) rfl rfl, l2, _, c2, .str z2, rfl, rfl, SqL.of upd_same, a2, ?_⟩⟩
      have S3 := S2.trans (Same.nu (o := .lst [.str "keep", .str "keep", .str "keep", .str "skip"]) h2)
      generalize upd _ l2 _ = G2 at S3 ⊢
      refine ⟨(by show 4 ≤ sizeLine; decide), fun l3 h3 => ⟨_, rfl, L, _, 3, .int c3, rfl, rfl, SqL.of (Same.nu h3 _ _ (S3 _ _ hL1)), at_of (j := 3) rfl rfl, l3, _, c3, .str z3, rfl, rfl, SqL.of upd_same, a3, ?_⟩⟩
      have S4 := S3.trans (Same.nu (o := .lst [.str "keep", .str "keep", .str "keep", .str "refuse"]) h3)
      generalize upd _ l3 _ = G3 at S4 ⊢
      refine ⟨(by show 4 ≤ sizeLine; decide), fun l4 h4 => ⟨_, rfl, L, _, 4, .int c4, rfl, rfl, SqL.of (Same.nu h4 _ _ (S4 _ _ hL1)), at_of (j := 4) rfl rfl, l4, _, c4, .str z4, rfl, rfl, SqL.of upd_same, a4, ?_⟩⟩
      have S5 := S4.trans (Same.nu (o := .lst [.str "keep", .str "rising", .str "keep", .str "rising"]) h4)
      generalize upd _ l4 _ = G4 at S5 ⊢
      refine ⟨(by show 4 ≤ sizeLine; decide), fun l5 h5 => ⟨_, rfl, L, _, 5, .int c5, rfl, rfl, SqL.of (Same.nu h5 _ _ (S5 _ _ hL1)), at_of (j := 5) rfl rfl, l5, _, c5, .str z5, rfl, rfl, SqL.of upd_same, a5, ?_⟩⟩
      have S6 := S5.trans (Same.nu (o := .lst [.str "keep", .str "keep", .str "text", .str "refuse"]) h5)
      generalize upd _ l5 _ = G5 at S6 ⊢
      refine ⟨(by show 4 ≤ sizeLine; decide), fun l6 h6 => ⟨_, rfl, L, _, 6, .int c6, rfl, rfl, SqL.of (Same.nu h6 _ _ (S6 _ _ hL1)), at_of (j := 6) rfl rfl, l6, _, c6, .str z6, rfl, rfl, SqL.of upd_same, a6, ?_⟩⟩
      have S7 := S6.trans (Same.nu (o := .lst [.str "last", .str "last", .str "first", .str "refuse"]) h6)
      generalize upd _ l6 _ = G6 at S7 ⊢
      refine ⟨(by show 4 ≤ sizeLine; decide), fun l7 h7 => ⟨_, rfl, L, _, 7, .int c7, rfl, rfl, SqL.of (Same.nu h7 _ _ (S7 _ _ hL1)), at_of (j := 7) rfl rfl, l7, _, c7, .str z7, rfl, rfl, SqL.of upd_same, a7, ?_⟩⟩
      have S8 := S7.trans (Same.nu (o := .lst [.str "text", .str "text", .str "text", .str "number"]) h7)
      generalize upd _ l7 _ = G7 at S8 ⊢
      refine ⟨(by show 4 ≤ sizeLine; decide), fun l8 h8 => ⟨_, rfl, L, _, 8, .int c8, rfl, rfl, SqL.of (Same.nu h8 _ _ (S8 _ _ hL1)), at_of (j := 8) rfl rfl, l8, _, c8, .str z8, rfl, rfl, SqL.of upd_same, a8, ?_⟩⟩
      have S9 := S8.trans (Same.nu (o := .lst [.str "list", .str "list", .str "list", .str "tuple"]) h8)
      generalize upd _ l8 _ = G8 at S9 ⊢
      refine ⟨(by show 4 ≤ sizeLine; decide), fun l9 h9 => ⟨_, rfl, L, _, 9, .int c9, rfl, rfl, SqL.of (Same.nu h9 _ _ (S9 _ _ hL1)), at_of (j := 9) rfl rfl, l9, _, c9, .str z9, rfl, rfl, SqL.of upd_same, a9, ?_⟩⟩
      have S10 := S9.trans (Same.nu (o := .lst [.str "keep", .str "keep", .str "keep", .str "skip"]) h9)
      generalize upd _ l9 _ = G9 at S10 ⊢
      have D9 := D1.same S10
      refine ⟨rfl, rfl, fun x dx hx hd hn' => ⟨x, dx, ⟨z0, z1, z2, z3, z4, z5⟩, ⟨z6, z7, z8, z9⟩, rfl, upd_same, ⟨m0, m1, m2, m3, m4, m5⟩, ⟨m6, m7, m8, m9⟩, fun H' s' hx' => ⟨rfl, ?_⟩⟩⟩
      have S11 : Same G9 (upd (upd G9 dx (.own x)) x (.ins (CW K) dx [])) := Same.mk'' (Same.nu hd) hx
      have S12 : Same G9 H' := fun b u e => s' b u (by simp; exact ne_of_none e hx) (S11 b u e)
      exact q x _ _ H' hx' ⟨m0, m1, m2, m3, m4, m5⟩ ⟨m6, m7, m8, m9⟩ (D9.ne hx) (D9.same S12) ((s1.sm S10).sm S12)
end
end Kt
set_option Elab.async false
set_option linter.all false
set_option maxRecDepth 100000
set_option maxHeartbeats 4000000
namespace Kt
open PySem PySem.Spec PyProof.Rows L2 Rz _root_.TL
section
variable {P : Program} {w : World} {K : PySem.W.Frag} {mg : Str → Option Value} {base : Heap}
def sNames : List Str := ["number_keys", "tuples", "order", "long_numbers", "lists", "digit_keys", "same_keys"]
def gS {α : Type} (us mz zs : List α) : List α := us ++ (zs.take 2 ++ (mz.take 2 ++ ((zs.drop 2).take 2 ++ ((zs.drop 6).take 1 ++ ((zs.drop 5).take 1 ++ ((zs.drop 4).take 1 ++ mz.drop 2))))))
theorem ok_Passage_some (T : Tx w K mg) : ∃ fd mv, FnOk P w K mg base CX0 3 (He.fAd K d_Passage_init.at_) fd ("self" :: pNames) (spPInit K) ∧ KBn K fd ("self" :: pNames) 1 sNames (fun us ws => gS us mv ws) (fun vs zs => gS vs [.str "keep", .str "keep", .str "keep"] zs) := by
  obtain ⟨fdW, mvW, F_Writer, hb_Writer⟩ := ok_Writer_init (P := P) (w := w) (base := base) T
  obtain ⟨fdR, mvR, F_Reader, hb_Reader⟩ := ok_Reader_init (P := P) (w := w) (base := base) T
  have iniWriter := T.iniW
  have iniReader := T.iniR
  obtain ⟨fd, F⟩ := T.f_Passage_init
  obtain ⟨mv, hk⟩ := F.kbinds0 (ps := "self" :: pNames) 1 sNames [("nulls", .str "keep"), ("double_keys", .str "keep"), ("null_items", .str "keep")] gS (fun z => by cases z) (fun q hq => by simp only [List.mem_cons, List.not_mem_nil, or_false] at hq; rcases hq with rfl | rfl | rfl <;> simp [He.DefD.kws, d_Passage_init, He.Dv.v])
    (fun r1 r2 r3 => Vals.append r1 (Vals.append (Vals.take 2 r3) (Vals.append (Vals.take 2 r2) (Vals.append (Vals.take 2 (Vals.drop 2 r3)) (Vals.append (Vals.take 1 (Vals.drop 6 r3)) (Vals.append (Vals.take 1 (Vals.drop 5 r3)) (Vals.append (Vals.take 1 (Vals.drop 4 r3)) (Vals.drop 2 r2)))))))) (fun D doc pm an cdv ct us mv ws l1 l2 l3 => by
    match us, mv, ws, l1, l2, l3 with
    | [_], [_, _, _], [_, _, _, _, _, _, _], _, _, _ => exact ⟨_, _, _, _, _, _, rfl, rfl, _, _, _, _, _, _, rfl, rfl, _, _, _, _, _, _, rfl, rfl, rfl⟩)
  refine ⟨fd, mv, F.ok sc_Passage_init (fun vs H Q E h => ?_) fun cdv A outer s H vs Q E hr h => ?_, hk⟩
  · obtain ⟨a, dx, o, r, rfl, _⟩ := h
    rfl
  · have hu := hu_of hr
    obtain ⟨a, dx, o, r, rfl, ha, ho, hr', q⟩ := h
    refine ⟨_, PSs.nox (pss_cons (ps_expr (Rn.pe_cinit (pe_glob (v := .ref (He.ga K "Writer")) rfl T.g_Writer rfl) iniWriter.1 iniWriter.2.1 iniWriter.2.2 F_Writer (hr.mono (by first | decide | omega)) hb_Writer pass0 (pa_cons (pv 0) pa_nil) (pk_cons (pv 1) (pk_cons (pv 2) (pk_cons (pv 3) (pk_cons (pv 4) (pk_cons (pv 5) (pk_cons (pv 6) pk_nil))))))))
      (pss_one (ps_expr (Rn.pe_cinit (pe_glob (v := .ref (He.ga K "Reader")) rfl T.g_Reader rfl) iniReader.1 iniReader.2.1 iniReader.2.2 F_Reader (hr.mono (by first | decide | omega)) hb_Reader pass0 (pa_cons (pv 0) pa_nil) (pk_cons (pv 7) (pk_cons (pv 8) (pk_cons (pv 9) (pk_cons (pv 10) pk_nil)))))))), ?_⟩
    refine ⟨rfl, _, rfl, _, rfl, _, rfl, _, rfl, _, rfl, _, rfl, _, rfl, rfl, rfl, a, dx, o, rfl, ha, ho, fun H2 s2 h2 => ?_⟩
    exact ⟨rfl, _, rfl, _, rfl, _, rfl, _, rfl, _, rfl, rfl, rfl, a, dx, o, r, rfl, h2, hr', fun H3 s3 h3 => q H3 (s2.trans s3) ⟨dx, h3⟩⟩
/-- strict: the passage itself or one that refuses much -/
def spStrict (K : PySem.W.Frag) : Sp := fun vs H Q _ => ∃ (p : Addr) (n : Nat) (x : Addr) (o : Opt) (r : ROpt), vs = [.ref p, .ref x] ∧ Dr H p n ∧ n < 400000 ∧ PAt K H x o r ∧ o.ok ∧ r.ok ∧ x ≠ p ∧ ∀ x' o' r' H', PAt K H' x' o' r' → o'.ok → r'.ok → Dr H' p (n + 2) → Sx [p] H H' → Q (.ref x') H'
theorem ok__law_strict (T : Tx w K mg) : Gd P w K base mg CX0 5 (He.fAd K d__law_strict.at_) ["_law_source_here", "_law_passage_here"] [] (spStrict K) := by
  have G__law_draw := ok__law_draw (P := P) (w := w) (base := base) T
  have G__law_pick := ok__law_pick (P := P) (w := w) (base := base) T
  refine mkGd (T.f__law_strict) sc__law_strict (fun vs H Q E h => ?_) (fun _ _ _ _ _ _ us hl => match us, hl with | [_, _], _ => rfl) (fun cdv A outer s H vs Q E hr h => ?_)
  · obtain ⟨p, n, x, o, r, rfl, _⟩ := h
    rfl
  · have hu := hu_of hr
    obtain ⟨fdP, mvP, F_Passage, hs_Passage⟩ := ok_Passage_some (P := P) (w := w) (base := base) T
    obtain ⟨p, n, x, o, r, rfl, D, hn, hW, ho, hro, hxp, q⟩ := h
    refine ⟨_, (pss_cons (ps_set (i := 2) sc__law_strict.nd rfl (Or.inl rfl) (pe_callG G__law_draw T.g__law_draw (hr.mono (by first | decide | omega)) pass0 (pa_cons (pv 0) (pa_cons pe_int pa_nil))))
      (pss_cons (ps_if (pt_cmpR op_lt (pv 2) pe_int (nomark _)) (pss_one (ps_ret (pv 1))) pss_nil)
      (pss_one (ps_ret (pe_makeK0 T.mk_Passage F_Passage (hr.mono (by first | decide | omega)) rfl T.g_Passage hs_Passage pass0 (pk_cons pe_str (pk_cons pe_str (pk_cons (pe_ix (r := rIxL K) ix_list (pe_lst (pa_cons pe_str (pa_cons pe_str pa_nil))) (pe_op op_sub (pv 2) pe_int) (fun _ _ => rfl)) (pk_cons (pe_callG G__law_pick T.g__law_pick (hr.mono (by first | decide | omega)) pass0 (pa_cons (pv 0) (pa_cons (pe_lst (pa_cons pe_str (pa_cons pe_str (pa_cons pe_str pa_nil)))) pa_nil))) (pk_cons (pe_fld (pv 1) rfl) (pk_cons (pe_fld (pv 1) rfl) (pk_cons (pe_fld (pv 1) rfl) pk_nil)))))))))))), ?_⟩
    refine ⟨_, rfl, p, n, 4, rfl, D, by omega, by decide, by decide, fun d H1 d0 d1 D1 s1 => ?_⟩
    have hW1 : PAt K H1 x o r := let ⟨dx, e⟩ := hW; ⟨dx, s1.one hxp e⟩
    refine ⟨_, rfl, _, _, rfl, rfl, _, rfl, ite2 (fun _ => ⟨_, rfl, q x o r H1 hW1 ho hro (D1.up (by omega)) s1⟩) (fun h2 => ?_)⟩
    have h2 : ¬ d < 2 := fun y => h2 (decide_eq_true y)
    obtain ⟨zo, mo, ho2⟩ : ∃ z ∈ (["keep", "rising"] : List Str), atI [V.str "keep", .str "rising"] (d - 2) = some (.str z) := by
      have hc : d = 2 ∨ d = 3 := by omega
      rcases hc with rfl | rfl
      · exact ⟨"keep", by simp, atI_nat (j := 0) rfl⟩
      · exact ⟨"rising", by simp, atI_nat (j := 1) rfl⟩
    refine ⟨(by show 2 ≤ sizeLine; decide), fun l1 h1 => ⟨_, rfl, _, _, rfl, rfl, l1, _, d - 2, .str zo, rfl, rfl, SqL.of upd_same, ho2, ?_⟩⟩
    have n1 := Same.nu (o := .lst [V.str "keep", .str "rising"]) h1
    refine ⟨_, rfl, (by show 3 ≤ sizeLine; decide), fun l2 h2 => ?_⟩
    have n2 := Same.nu (o := .lst [V.str "keep", .str "refuse", .str "text"]) h2
    refine ⟨p, l2, n + 1, _, rfl, (D1.same n1).same n2, by omega, upd_same, (D1.same n1).ne h2, (by show 0 < 3; decide), (by show 3 ≤ 1000; decide), fun y hy H3 D3 s3 => ?_⟩
    obtain ⟨zl, ml, rfl⟩ : ∃ z ∈ (["keep", "text", "refuse"] : List Str), y = .str z := by
      simp only [List.mem_cons, List.not_mem_nil, or_false] at hy
      rcases hy with rfl | rfl | rfl
      · exact ⟨_, by simp, rfl⟩
      · exact ⟨_, by simp, rfl⟩
      · exact ⟨_, by simp, rfl⟩
    obtain ⟨dw, hw⟩ := hW1
    have hw3 := s3.one hxp (n2 _ _ (n1 _ _ hw))
    have S3 := ((s1.sm n1).sm n2).trans s3
    refine ⟨_, rfl, x, _, _, _, _, rfl, hw3, T.cl_Reader, T.a_Reader_lists, rfl, _, rfl, x, _, _, _, _, rfl, hw3, T.cl_Reader, T.a_Reader_digit_keys, rfl, _, rfl, x, _, _, _, _, rfl, hw3, T.cl_Reader, T.a_Reader_same_keys, rfl, ?_⟩
    obtain ⟨r1, r2, r3, r4⟩ := hro
    have oo : Opt.ok ⟨"refuse", "refuse", "keep", "keep", zo, zl⟩ := ⟨by simp, by simp, by simp, by simp, mo, ml⟩
    have rr : ROpt.ok ⟨r.sk, r.dg, r.ls, "keep"⟩ := ⟨r1, r2, r3, by simp⟩
    refine ⟨rfl, rfl, fun x' dx hx hd hn' => ⟨x', dx, _, _, rfl, upd_same, oo, rr, fun H' s' hx' => ⟨rfl, ?_⟩⟩⟩
    have S11 : Same H3 (upd (upd H3 dx (.own x')) x' (.ins (CW K) dx [])) := Same.mk'' (Same.nu hd) hx
    have S12 : Same H3 H' := fun b u e => s' b u (by simp; exact ne_of_none e hx) (S11 b u e)
    exact q x' _ _ H' hx' oo rr (D3.same S12) (S3.sm S12)
end
end Kt
set_option Elab.async false
set_option linter.all false
set_option maxRecDepth 100000
set_option maxHeartbeats 4000000
namespace Kt
open PySem PySem.Spec PyProof.Rows L2 Rz _root_.TL
section
variable {P : Program} {w : World} {K : PySem.W.Frag} {mg : Str → Option Value} {base : Heap}
def spLBack (K : PySem.W.Frag) (k : Nat) : Sp := spWCB K k
theorem ok_back (T : Tx w K mg) (hTB : LamX.TabB base mg (He.codeOf K keD) (keT K)) (k : Nat) (hk : k ≤ 6) : Gd P w K base mg CX0 (2 * (k + 1) + 9) (He.fAd K d__law_back.at_) ["_law_passage_here", "_law_value_here"] [] (spLBack K k) := by
  have G_Passage_carry := ok_Passage_carry (P := P) (w := w) (base := base) T hTB k hk
  refine mkGd (T.f__law_back) sc__law_back (fun vs H Q E h => ?_) (fun _ _ _ _ _ _ us hl => match us, hl with | [_, _], _ => rfl) (fun cdv A outer s H vs Q E hr h => ?_)
  · obtain ⟨p, x, o, r, d, rfl, _⟩ := h
    rfl
  · have hu := hu_of hr
    obtain ⟨p, x, o, r, d, rfl, hW, hv, ok, hT, q⟩ := h
    have hW' := hW
    obtain ⟨dw, hW⟩ := hW
    refine ⟨_, (pss_cons (ps_try_only rfl rfl ⟨rfl, by decide, .inl T.g_Refused⟩ takes0 (fun W pn xe tkN _ => (pss_one (ps_set (i := 2) sc__law_back.nd rfl (Or.inl rfl) (pe_lst (pa_cons (pe_methXS (pv 0) T.cl_Passage T.m_Passage_carry G_Passage_carry (hr.mono (by first | decide | omega)) (fun σ => L2.passAt tkN σ) (pa_cons (pv 1) pa_nil)) pa_nil))))) (fun a oe cls d pn _ _ => (pss_one (ps_set (i := 2) sc__law_back.nd rfl (Or.inl rfl) (pe_lst pa_nil)))))
      (pss_one (ps_ret (pv 2)))), ?_⟩
    refine ⟨_, rfl, p, _, _, rfl, hW, rfl, _, rfl, p, x, o, r, d, rfl, hW', hv, ok, hT, fun hn d1 H' X => ⟨true, T.exm_Refused, fun _ a ha => ?_, fun z => nomatch z⟩, fun z ez H' y X hy => ?_⟩
    · refine ⟨Nat.zero_le _, fun l hl => ⟨_, rfl, q _ l [] (X.of (Same.nu hl)) upd_same ?_⟩⟩
      unfold carryL
      rw [hn]
      exact .nil
    · refine ⟨(by show 1 ≤ sizeLine; decide), fun l hl => ⟨_, rfl, q _ l [y] (X.of (Same.nu hl)) upd_same ?_⟩⟩
      unfold carryL
      rw [ez]
      exact .cons (VAt.same (Same.nu hl) hy) .nil
/-- the law's own test: both told at most k deep -/
def spConfs (K : PySem.W.Frag) (k : Nat) : Sp := fun vs H Q _ => ∃ (p : Addr) (x y : V) (o : Opt) (r : ROpt) (d e : Val), vs = [.ref p, x, y] ∧ PAt K H p o r ∧ VAt (CT K) H k x d ∧ VAt (CT K) H k y e ∧ Ok k d ∧ Ok k e ∧ LamX.Tabs (TT K) H ∧
  ∀ (b : Bool) H', Xt K H H' → (b = true ↔ d ≠ e ∧ confB o r k d e) → Q (.bl b) H'
theorem ok_confuses (T : Tx w K mg) (hTB : LamX.TabB base mg (He.codeOf K keD) (keT K)) (k : Nat) (hk : k ≤ 6) : Gd P w K base mg CX0 (2 * (k + 1) + 10) (He.fAd K d__law_confuses.at_) ["_law_passage_here", "_law_one", "_law_other"] [] (spConfs K k) := by
  have G__law_back := ok_back (P := P) (w := w) (base := base) T hTB k hk
  obtain ⟨⟨fdS, mvS, F_same, hb_same⟩, kp_same⟩ := ok_same (P := P) (w := w) (base := base) T (k + 1)
  refine mkGd (T.f__law_confuses) sc__law_confuses (fun vs H Q E h => ?_) (fun _ _ _ _ _ _ us hl => match us, hl with | [_, _, _], _ => rfl) (fun cdv A outer s H vs Q E hr h => ?_)
  · obtain ⟨p, x, y, o, r, d, e, rfl, _⟩ := h
    rfl
  · have hu := hu_of hr
    obtain ⟨p, x, y, o, r, d, e, rfl, hW, hx, hy, okd, oke, hT, q⟩ := h
    refine ⟨_, (pss_cons (ps_set (i := 3) sc__law_confuses.nd rfl (Or.inl rfl) (pe_callG G__law_back T.g__law_back (hr.mono (by first | decide | omega)) pass0 (pa_cons (pv 0) (pa_cons (pv 1) pa_nil))))
      (pss_cons (ps_if (PW.pt (pw_or (pt_cmpR (op_eqE hr.units) (pv 3) (pe_lst pa_nil) (nomark _)) (pw_or1 (pt_val (pe_callN F_same (hr.mono (by first | decide | omega)) rfl T.g_same kp_same hb_same pass0 (pa_cons (pv 1) (pa_cons (pv 2) pa_nil)) (pk_cons pe_bl pk_nil)))))) (pss_one (ps_ret pe_bl)) pss_nil)
      (pss_one (ps_ret (pe_callN F_same (hr.mono (by first | decide | omega)) rfl T.g_same kp_same hb_same pass0 (pa_cons (pv 3) (pa_cons (pe_callG G__law_back T.g__law_back (hr.mono (by first | decide | omega)) pass0 (pa_cons (pv 0) (pa_cons (pv 2) pa_nil))) pa_nil)) (pk_cons pe_bl pk_nil)))))), ?_⟩
    refine ⟨_, rfl, _, rfl, p, x, o, r, d, rfl, hW, hx, okd, hT, fun H1 l1 ys X1 hl1 hp1 => ?_⟩
    refine ⟨_, rfl, Nat.zero_le _, fun e0 he0 => ?_⟩
    have ne := Same.nu (o := .lst []) he0
    have X2 := X1.of ne
    have hyl := Paired.length hp1
    refine ⟨l1, e0, ys, rfl, rfl, SqL.of (ne _ _ hl1), SqL.of upd_same, _, rfl, ?_⟩
    by_cases hc : carryL o r k d = []
    · have : ys = [] := by
        rw [hc] at hp1
        cases hp1
        rfl
      rw [this]
      exact iteT (q false _ X2 ⟨fun z => (nomatch z), fun z => absurd hc z.2.1⟩)
    · have : ys.isEmpty = false := by
        cases ys with
        | nil => exact absurd (List.length_eq_zero_iff.mp hyl.symm) hc
        | cons a r => rfl
      rw [this]
      have hx2 := VAt.up (VAt.x X2.1 hx)
      have hy2 := VAt.up (VAt.x X2.1 hy)
      refine iteF ⟨_, rfl, _, rfl, rfl, rfl, x, y, d, e, rfl, hx2, hy2, okd.up, oke.up, fun b1 H2 s2 hb1 => ⟨_, rfl, ?_⟩⟩
      have X3 := X2.of s2
      cases b1 with
      | true => exact iteT (q false _ X3 ⟨fun z => (nomatch z), fun z => absurd (hb1.mp rfl) z.1⟩)
      | false =>
        have hde : d ≠ e := fun z => absurd (hb1.mpr z) (by simp)
        refine iteF ⟨_, rfl, _, rfl, _, rfl, p, y, o, r, e, rfl, PAt.x hW X3.1, VAt.x X3.1 hy, oke, X3.2, fun H4 l2 zs X4 hl2 hp2 => ?_⟩
        have X5 : Xt K H H4 := Xt.trans X3 X4
        refine ⟨rfl, rfl, .ref l1, .ref l2, .seq true (carryL o r k d), .seq true (carryL o r k e), rfl, .inr (.inl ⟨true, _, l1, ys, rfl, rfl, X4.1 _ _ (s2 _ _ (ne _ _ hl1)) (fun _ z => nomatch z), Paired.mapP hp1 fun _ _ h => VAt.x X4.1 (VAt.same s2 (VAt.same ne h))⟩), .inr (.inl ⟨true, _, l2, zs, rfl, rfl, hl2, hp2⟩), seqL_ok okd, seqL_ok oke, fun b2 H6 s6 hb2 => ?_⟩
        refine q b2 _ (X5.of s6) (hb2.trans ⟨fun z => ⟨hde, hc, by injection z⟩, fun z => by rw [z.2.2]⟩)
end
end Kt
set_option Elab.async false
set_option linter.all false
set_option maxRecDepth 100000
set_option maxHeartbeats 4000000
namespace Kt
open PySem PySem.Spec PyProof.Rows L2 Rz _root_.TL
section
variable {P : Program} {w : World} {K : PySem.W.Frag} {mg : Str → Option Value} {base : Heap}
/-- a value made anew of a value, what is in ps left out -/
def spMap (K : PySem.W.Frag) (k : Nat) : Sp := fun vs H Q _ => ∃ (x : V) (d : Val) (ps : List Addr), vs = [x] ∧ Has H ps ∧ VAt (CT K) (cut H ps) k x d ∧ Ok k d ∧ ∀ H' y e, Same H H' → VAt (CT K) (cut H' ps) k y e → Ok k e → Q y H'
theorem isiBS (T : Tx w K mg) {H G : Hp} {k : Nat} {x : V} {d : Val} (g : Same G H) (h : VAt (CT K) G k x d) : ∃ t, TyX K H x t ∧ PySem.W.kitAny K t [.type "bool", .type "str"] = some (isT "bool" d || isT "str" d) := by
  obtain ⟨t, ty, c⟩ := at_ty T g h
  refine ⟨t, ty, ?_⟩
  have k1 : ∀ b ∈ ["bool", "str"], PySem.W.kitOne K t (.type b) = some (isT b d) := fun b hb => by
    rcases c with ⟨a, ha, rfl, e⟩ | ⟨rfl, e⟩
    · unfold isT
      rw [e]
      exact kits ha (by simp only [List.mem_cons, List.not_mem_nil, or_false] at hb ⊢; rcases hb with rfl | rfl <;> simp)
    · have hb2 : b ∈ tyN := by
        simp only [List.mem_cons, List.not_mem_nil, or_false] at hb
        rcases hb with rfl | rfl <;> decide
      rw [T.kTb hb2]
      unfold isT
      rw [e]
      simp only [List.mem_cons, List.not_mem_nil, or_false] at hb
      rcases hb with rfl | rfl <;> decide
  refine kitAny_cons (k1 "bool" (by simp)) (fun z => ?_) (fun z => by rw [z, Bool.true_or])
  refine kitAny_cons (k1 "str" (by simp)) (fun z2 => ?_) (fun z2 => by rw [z2, Bool.or_true])
  rw [kitAny_nil, z, z2]
  rfl
theorem st__law_spelt (T : Tx w K mg) (k : Nat) (G__law_spelt : Gd P w K base mg CX0 (k + 3) (He.fAd K d__law_spelt.at_) ["_law_value_here"] [] (prv (spMap K) k)) : Gd P w K base mg CX0 ((k + 3) + 1) (He.fAd K d__law_spelt.at_) ["_law_value_here"] [] ((spMap K) k) := by
  refine mkGd (T.f__law_spelt) sc__law_spelt (fun vs H Q E h => ?_) (fun _ _ _ _ _ _ us hl => match us, hl with | [_], _ => rfl) (fun cdv A outer s H vs Q E hr h => ?_)
  · obtain ⟨x, d, ps, rfl, _⟩ := h
    rfl
  · have hu := hu_of hr
    obtain ⟨x, d, ps, rfl, hps, hv, ok, q⟩ := h
    have G_Table_init := ok_Table_init (P := P) (w := w) (base := base) T (k - 1)
    have G_Table_entries := ok_Table_entries (P := P) (w := w) (base := base) T (k - 1)
    refine ⟨_, (pss_cons (ps_if (pt_val (pe_callB call_isiT (by rfl) T.n_isinstance (by decide +kernel) (pa_cons (pv 0) (pa_cons (pe_tup (pa_cons (pe_bltn (v := .ty "list") (u := .type "list") (by rfl) T.n_list (by decide +kernel) rfl) (pa_cons (pe_bltn (v := .ty "tuple") (u := .type "tuple") (by rfl) T.n_tuple (by decide +kernel) rfl) pa_nil))) pa_nil)))) (pss_cons (ps_setLc (i := 2) (own := [("_law_item", 1)]) (g := gName 1) (tt := tYes) rfl sc__law_spelt.nd rfl rfl (sw_true rfl rfl rfl (by decide +kernel)) (pi_seqB (pv 0)) (blkOk_by (own := [("_law_item", 1)]) (N := N__law_spelt) (sc := defScope s__law_spelt) (by decide +kernel)) (fun _ _ _ _ _ => (pg_name (i := 1) sc__law_spelt.nd rfl (Or.inl rfl))) (fun _ _ _ _ _ => pts_nil) (fun _ _ _ _ _ => (pe_callG G__law_spelt T.g__law_spelt (hr.mono (by first | decide | omega)) pass0 (pa_cons (pv 1) pa_nil))))
      (pss_one (ps_ret (pe_ifExp (pt_val (pe_callB call_isi (by rfl) T.n_isinstance (by decide +kernel) (pa_cons (pv 0) (pa_cons (pe_bltn (v := .ty "list") (u := .type "list") (by rfl) T.n_list (by decide +kernel) rfl) pa_nil)))) (pv 2) (pe_callTy call_tuple_of (by rfl) T.n_tuple (by decide +kernel) (pa_cons (pv 2) pa_nil)))))) pss_nil)
      (pss_cons (ps_if (pt_val (pe_callB call_isi (by rfl) T.n_isinstance (by decide +kernel) (pa_cons (pv 0) (pa_cons (pe_glob (v := .ref (He.ga K "Table")) rfl T.g_Table rfl) pa_nil)))) (pss_one (ps_ret (pe_makeG T.mk_Table G_Table_init (hr.mono (by first | decide | omega)) T.g_Table pass0 (pa_cons (pe_lc (own := [("_law_key_here", 3), ("_law_item", 1)]) (g := gTup K 2 (gCons (gName 3) (gCons (gName 1) gNil))) (tt := tYes) rfl sc__law_spelt.nd (pi_list (pe_methG0 (pv 0) T.cl_Table T.m_Table_entries G_Table_entries (hr.mono (by first | decide | omega)) pass0)) (blkOk_by (own := [("_law_key_here", 3), ("_law_item", 1)]) (N := N__law_spelt) (sc := defScope s__law_spelt) (by decide +kernel)) (fun _ _ _ _ _ => (pg_tup rfl (pgs_cons (pg_name (i := 3) sc__law_spelt.nd rfl (Or.inl rfl)) (pgs_cons (pg_name (i := 1) sc__law_spelt.nd rfl (Or.inl rfl)) pgs_nil)))) (fun _ _ _ _ _ => pts_nil) (fun _ _ _ _ _ => (pe_tup (pa_cons (pv 3) (pa_cons (pe_callG G__law_spelt T.g__law_spelt (hr.mono (by first | decide | omega)) pass0 (pa_cons (pv 1) pa_nil)) pa_nil))))) pa_nil)))) pss_nil)
      (pss_cons (ps_if (PW.pt (pw_or (pt_val (pe_callB call_isiT (by rfl) T.n_isinstance (by decide +kernel) (pa_cons (pv 0) (pa_cons (pe_tup (pa_cons (pe_bltn (v := .ty "bool") (u := .type "bool") (by rfl) T.n_bool (by decide +kernel) rfl) (pa_cons (pe_bltn (v := .ty "str") (u := .type "str") (by rfl) T.n_str (by decide +kernel) rfl) pa_nil))) pa_nil)))) (pw_or (pt_cmpR op_isN (pv 0) pe_non (nomark _)) (pw_or1 (pt_cmpR op_lt (pe_callB call_abs (by rfl) T.n_abs (by decide +kernel) (pa_cons (pv 0) pa_nil)) (pe_op op_pow pe_int pe_int) (nomark _)))))) (pss_one (ps_ret (pv 0))) pss_nil)
      (pss_one (ps_ret (pe_callTy call_str_int (by rfl) T.n_str (by decide +kernel) (pa_cons (pv 0) pa_nil))))))), ?_⟩
    refine ⟨_, rfl, (by show 2 ≤ sizeLine; decide), fun tt htt => ?_⟩
    have nu0 := Same.nu (o := .tup [V.ty "list", V.ty "tuple"]) htt
    have hv0 : VAt (CT K) (cut (upd H tt (.tup [V.ty "list", V.ty "tuple"])) ps) k x d := VAt.same (cut_put htt) hv
    have ht0 : (upd H tt (.tup [V.ty "list", V.ty "tuple"])) tt = some (.tup [V.ty "list", V.ty "tuple"]) := upd_same
    obtain ⟨H1, eH1⟩ : ∃ H1, upd H tt (.tup [V.ty "list", V.ty "tuple"]) = H1 := ⟨_, rfl⟩
    rw [eH1] at nu0 hv0 ht0 ⊢
    obtain ⟨t3, y3, k3⟩ := isiLT T cut_le hv0
    obtain ⟨t1, y1, k1⟩ := isiC T cut_le hv0
    refine ⟨_, tt, _, t3, _, _, rfl, ht0, .cons (.ty _) (.cons (.ty _) .nil), y3, k3, _, rfl, ?_⟩
    have hps1 := hps.sx nu0
    cases d with
    | seq t l =>
      obtain ⟨j, a, xs, rfl, rfl, ha, hx⟩ := at_list hv0
      obtain ⟨h4, hok⟩ := ok_list ok
      have hl := Paired.length hx
      have hS := sqB_of (K := K) (cut_le _ _ ha)
      rw [show (isT "list" (.seq t l) || isT "tuple" (.seq t l)) = true by cases t <;> rfl]
      refine iteT ⟨_, rfl, t, a, xs, rfl, hS, fun D hD => lc_seqB (xs := xs) (fun i H' => Same H1 H' ∧ ∃ ys ds, H' D = some (.lst ys) ∧ Paired (VAt (CT K) (cut H' (D :: ps)) j) ys ds ∧ ds.length = i ∧ ∀ e ∈ ds, Ok j e)
        ⟨Same.nu hD, [], [], upd_same, .nil, rfl, fun _ h => nomatch h⟩ (fun i H' _ h => sqB_same h.1 hS) ?_ ?_⟩
      · rintro i y H' hy ⟨s1, ys, ds, hd, hp1, hdl, hdo⟩
        obtain ⟨e, he, hv1⟩ := Paired.at hx hy
        have hi := lt_of_at he
        have l1 := Paired.length hp1
        have hps' : Has H' (D :: ps) := fun c hc => by
          rcases List.mem_cons.mp hc with z | z
          · rw [z, hd]; simp
          · exact hps1.sx s1 c z
        refine ⟨rfl, _, rfl, y, e, D :: ps, rfl, hps', VAt.same (cut_add hD s1) hv1, hok e (List.mem_of_getElem? he), fun H2 z f s2 hz okf => ⟨ys, s2 _ _ hd, small1000 (by omega), Same.mk'' (s1.trans s2) hD, ys ++ [z], ds ++ [f], upd_same, ?_, by rw [List.length_append, hdl]; rfl, fun e' h' => ?_⟩⟩
        · rw [cut_cons]
          exact Paired.snoc (Paired.mapP hp1 fun _ _ q => VAt.same (cut_sx (Sx.of s2)) q) hz
        · rcases List.mem_append.mp h' with h | h
          · exact hdo e' h
          · rw [List.mem_singleton.mp h]; exact okf
      · rintro H' ⟨s1, ys, ds, hd, hp1, hdl, hdo⟩
        have hp2 : Paired (VAt (CT K) (cut H' ps) j) ys ds := Paired.mapP hp1 fun _ _ h => VAt.same (cut_mono fun b hb => List.mem_cons_of_mem _ hb) h
        have hps' := hps1.sx s1
        obtain ⟨t2, y2, k2⟩ := isi T "list" (cut_le.trans s1) (k := j + 1) (x := .ref a) (d := .seq t l) (VAt.same (Same.refl _) hv0)
        refine ⟨_, rfl, _, _, t2, _, _, rfl, .ty _, y2, k2, _, rfl, ?_⟩
        cases t with
        | true =>
          exact iteT ⟨_, rfl, q H' (.ref D) (.seq true ds) (nu0.trans s1) (.inr (.inl ⟨true, ds, D, ys, rfl, rfl, cut_at (hps1.new hD) hd, hp2⟩)) (.inr (.inl ⟨true, ds, rfl, by omega, hdo⟩))⟩
        | false =>
          refine iteF ⟨_, rfl, D, ys, rfl, .inl ⟨SqL.of hd, fun q2 hq2 => ?_⟩⟩
          exact q _ (.ref q2) (.seq false ds) ((nu0.trans s1).trans (Same.nu hq2)) (.inr (.inl ⟨false, ds, q2, ys, rfl, rfl, cut_at (hps'.new hq2) upd_same, Paired.mapP hp2 fun _ _ h => VAt.same (cut_put hq2) h⟩)) (.inr (.inl ⟨false, ds, rfl, by omega, hdo⟩))
    | tab es =>
      obtain ⟨j, p, dx, dd, od, kvs, rfl, rfl, hp, hd, hpr⟩ := at_tab hv0
      obtain ⟨h4, hnd, hok⟩ := ok_tab ok
      have hp' := cut_le _ _ hp
      refine iteF ⟨_, rfl, .ref p, _, t1, _, _, rfl, .own _, y1, k1, _, rfl, iteT ?_⟩
      refine ⟨_, rfl, p, dx, _, rfl, hp', rfl, .ref p, es, ps, rfl, hps1, hv0, ⟨h4, hnd, hok⟩, fun H2 l ts s2 hl0 hl hE => ⟨l, rfl, ⟨_, SqL.of hl⟩, fun D hD => lc_list (xs := ts)
        (fun i H' => Same H2 H' ∧ ∃ us fs, H' D = some (.lst us) ∧ Paired (EntAt K H' (D :: ps) j) us fs ∧ fs.map (·.1) = (es.take i).map (·.1) ∧ ∀ e ∈ fs, okK e.1 ∧ Ok j e.2) ⟨Same.nu hD, [], [], upd_same, .nil, by rw [List.take_zero], fun _ h => nomatch h⟩ (fun i H' _ h => SqL.of (h.1 _ _ hl)) ?_ ?_⟩⟩
      · rintro i t H' ht ⟨s3, us, fs, hd3, hp3, hk3, ho3⟩
        obtain ⟨e, he, b, y0, rfl, hb, hy⟩ := Paired.at hE ht
        have hi := lt_of_at he
        have l1 := Paired.length hp3
        have l2 := congrArg List.length hk3
        rw [List.length_map, List.length_map, List.length_take] at l2
        have okk := hok e (List.mem_of_getElem? he)
        have hps' : Has H' (D :: ps) := fun c hc => by
          rcases List.mem_cons.mp hc with z | z
          · rw [z, hd3]; simp
          · exact (hps1.sx s2).sx s3 c z
        have hy' : VAt (CT K) (cut H' (D :: ps)) j y0 e.2 := VAt.same (fun c o hc => cut_add hD s3 c o (cut_mono (fun c hc => List.mem_cons_of_mem _ hc) c o hc)) hy
        refine ⟨b, _, rfl, SqT.of (s3 _ _ hb), rfl, _, _, rfl, _, _, rfl, rfl, rfl, _, rfl, _, rfl, y0, e.2, D :: ps, rfl, hps', hy', okk.2, fun H5 z f s5 hz okf => ⟨(by show 2 ≤ sizeLine; decide), fun q2 hq2 => ?_⟩⟩
        have nq := Same.nu (o := .tup [kV e.1, z]) hq2
        have hd5 := s5 _ _ hd3
        have nD : D ≠ q2 := ne_of_none hd5 hq2
        have cc : Same (cut H5 (D :: ps)) (cut (upd (upd H5 q2 (.tup [kV e.1, z])) D (.lst (us ++ [.ref q2]))) (D :: ps)) := by
          rw [cut_cons]
          exact cut_put hq2
        refine ⟨us, nq _ _ hd5, small1000 (by omega), Same.mk'' ((s3.trans s5).trans nq) hD, _, fs ++ [(e.1, f)], upd_same, Paired.snoc (Paired.mapP hp3 fun t e h => ?_) ⟨q2, z, rfl, ?_, VAt.same cc hz⟩, ?_, fun e' h' => ?_⟩
        · obtain ⟨b, y, e1, h1, h2⟩ := h
          exact ⟨b, y, e1, by rw [upd_ne (ne_of h1 hd3 (by intro z; cases z))]; exact nq _ _ (s5 _ _ h1), VAt.same cc (VAt.same (cut_sx (Sx.of s5)) h2)⟩
        · rw [upd_ne nD.symm, upd_same]
        · rw [take_snoc he, List.map_append, List.map_append, hk3]
          rfl
        · rcases List.mem_append.mp h' with h | h
          · exact ho3 e' h
          · rw [List.mem_singleton.mp h]; exact ⟨okk.1, okf⟩
      · rintro H' ⟨s3, us, fs, hd3, hp3, hk3, ho3⟩
        rw [List.take_of_length_le (by have := Paired.length hE; omega)] at hk3
        refine fun x dx2 hx hd2 hn' => ?_
        have s4 : Same H' (upd (upd H' dx2 (.own x)) x (.ins (CT K) dx2 [])) := Same.mk'' (Same.nu hd2) hx
        have hps' : Has H' ps := (hps1.sx s2).sx s3
        have okes : okE j fs := ⟨by have := congrArg List.length hk3; rw [List.length_map, List.length_map] at this; omega, by rw [hk3]; exact hnd, ho3⟩
        refine ⟨x, D, dx2, us, fs, ps, rfl, upd_same, SqL.of (s4 _ _ hd3), hps'.sx s4, hps'.new hx, Paired.mapP hp3 fun _ _ h => ?_, okes, fun H5 kp hv => ⟨rfl, ?_⟩⟩
        · obtain ⟨b, y, e1, h1, h2⟩ := h
          refine ⟨b, y, e1, s4 _ _ h1, VAt.same (fun c o e => ?_) h2⟩
          have e2 := cut_le _ _ e
          unfold cut at e
          split at e
          · cases e
          · rename_i nc
            refine cut_at (fun z => ?_) (s4 _ _ e2)
            rcases List.mem_cons.mp z with z | z
            · rw [z, hx] at e2; cases e2
            · exact nc (List.mem_cons_of_mem _ z)
        · exact q H5 _ (.tab fs) (((nu0.trans s2).trans s3).trans fun b o e => kp b o (ne_of_none e hx) (s4 _ _ e)) hv (.inr (.inr ⟨fs, rfl, okes.1, okes.2.1, okes.2.2⟩))
    | non =>
      refine iteF ⟨_, rfl, _, _, t1, _, _, rfl, .own _, y1, k1, _, rfl, iteF ?_⟩
      refine ⟨_, rfl, (by show 2 ≤ sizeLine; decide), fun q1 hq1 => ?_⟩
      have n1 := Same.nu (o := .tup [V.ty "bool", V.ty "str"]) hq1
      obtain ⟨t4, y4, k4⟩ := isiBS T (cut_le.trans n1) hv0
      have ex := Option.some.inj (at_flat hv0 (fun _ _ z => nomatch z) (fun _ z => nomatch z))
      subst ex
      refine ⟨_, q1, _, t4, _, _, rfl, upd_same, .cons (.ty _) (.cons (.ty _) .nil), y4, k4, _, rfl, ?_⟩
      exact iteF (by
        first
          | exact ⟨_, rfl, rfl, _, rfl, iteT ⟨_, rfl, q _ _ .non (nu0.trans n1) (VAt.flat rfl) (Ok.flat trivial)⟩⟩
          | skip)
    | bl b =>
      refine iteF ⟨_, rfl, _, _, t1, _, _, rfl, .own _, y1, k1, _, rfl, iteF ?_⟩
      refine ⟨_, rfl, (by show 2 ≤ sizeLine; decide), fun q1 hq1 => ?_⟩
      have n1 := Same.nu (o := .tup [V.ty "bool", V.ty "str"]) hq1
      obtain ⟨t4, y4, k4⟩ := isiBS T (cut_le.trans n1) hv0
      have ex := Option.some.inj (at_flat hv0 (fun _ _ z => nomatch z) (fun _ z => nomatch z))
      subst ex
      refine ⟨_, q1, _, t4, _, _, rfl, upd_same, .cons (.ty _) (.cons (.ty _) .nil), y4, k4, _, rfl, ?_⟩
      exact iteT ⟨_, rfl, q _ _ (.bl b) (nu0.trans n1) (VAt.flat rfl) (Ok.flat trivial)⟩
    | str s0 =>
      refine iteF ⟨_, rfl, _, _, t1, _, _, rfl, .own _, y1, k1, _, rfl, iteF ?_⟩
      refine ⟨_, rfl, (by show 2 ≤ sizeLine; decide), fun q1 hq1 => ?_⟩
      have n1 := Same.nu (o := .tup [V.ty "bool", V.ty "str"]) hq1
      obtain ⟨t4, y4, k4⟩ := isiBS T (cut_le.trans n1) hv0
      have ex := Option.some.inj (at_flat hv0 (fun _ _ z => nomatch z) (fun _ z => nomatch z))
      subst ex
      refine ⟨_, q1, _, t4, _, _, rfl, upd_same, .cons (.ty _) (.cons (.ty _) .nil), y4, k4, _, rfl, ?_⟩
      have eo : okF (.str s0) := ok_leaf ok (fun _ _ z => nomatch z) (fun _ z => nomatch z)
      exact iteT ⟨_, rfl, q _ _ (.str s0) (nu0.trans n1) (VAt.flat rfl) (Ok.flat eo)⟩
    | int i0 =>
      refine iteF ⟨_, rfl, _, _, t1, _, _, rfl, .own _, y1, k1, _, rfl, iteF ?_⟩
      refine ⟨_, rfl, (by show 2 ≤ sizeLine; decide), fun q1 hq1 => ?_⟩
      have n1 := Same.nu (o := .tup [V.ty "bool", V.ty "str"]) hq1
      obtain ⟨t4, y4, k4⟩ := isiBS T (cut_le.trans n1) hv0
      have ex := Option.some.inj (at_flat hv0 (fun _ _ z => nomatch z) (fun _ z => nomatch z))
      have eo : i0.natAbs < 10 ^ 21 := ok_leaf ok (fun _ _ z => nomatch z) (fun _ z => nomatch z)
      subst ex
      refine ⟨_, q1, _, t4, _, _, rfl, upd_same, .cons (.ty _) (.cons (.ty _) .nil), y4, k4, _, rfl, iteF ⟨_, rfl, rfl, _, rfl, iteF ?_⟩⟩
      refine ⟨_, rfl, i0, rfl, _, _, rfl, rfl, ⟨by decide, by decide, by decide⟩, _, _, rfl, rfl, _, rfl, ite2 (fun _ => ⟨_, rfl, q _ _ (.int i0) (nu0.trans n1) (VAt.flat rfl) (Ok.flat eo)⟩) (fun _ => ⟨_, rfl, i0, rfl, log_of eo, q _ _ (.str (istr i0)) (nu0.trans n1) (VAt.flat rfl) (Ok.flat (istr_60 eo))⟩)⟩
theorem ok__law_spelt (T : Tx w K mg) : ∀ k, Gd P w K base mg CX0 ((k + 3) + 1) (He.fAd K d__law_spelt.at_) ["_law_value_here"] [] ((spMap K) k) := fun k => recGd (fun k => (k + 3)) (fun l => mkGdF (T.f__law_spelt) sc__law_spelt (fun _ _ _ _ _ _ us hl => match us, hl with | [_], _ => rfl) l) (fun k G => st__law_spelt T k G) (by intro _; first | rfl | omega) k
end
end Kt
set_option Elab.async false
set_option linter.all false
set_option maxRecDepth 100000
set_option maxHeartbeats 4000000
namespace Kt
open PySem PySem.Spec PyProof.Rows L2 Rz _root_.TL
section
variable {P : Program} {w : World} {K : PySem.W.Frag} {mg : Str → Option Value} {base : Heap}
theorem Paired.rev {α β : Type} {F : α → β → Prop} : ∀ {l : List α} {m : List β}, Paired F l m → Paired F l.reverse m.reverse
  | _, _, .nil => .nil
  | _, _, .cons r t => by
    rw [List.reverse_cons, List.reverse_cons]
    exact Paired.snoc (Paired.rev t) r
def spTurn (K : PySem.W.Frag) (k : Nat) : Sp := fun vs H Q _ => ∃ (x : V) (bb : Bool) (d : Val) (ps : List Addr), vs = [x, .bl bb] ∧ Has H ps ∧ VAt (CT K) (cut H ps) k x d ∧ Ok k d ∧ ∀ H' y e, Same H H' → VAt (CT K) (cut H' ps) k y e → Ok k e → Q y H'
theorem st__law_turned (T : Tx w K mg) (k : Nat) (G__law_turned : Gd P w K base mg CX0 (k + 3) (He.fAd K d__law_turned.at_) ["_law_value_here", "_law_is_row"] [] (prv (spTurn K) k)) : Gd P w K base mg CX0 ((k + 3) + 1) (He.fAd K d__law_turned.at_) ["_law_value_here", "_law_is_row"] [] ((spTurn K) k) := by
  refine mkGd (T.f__law_turned) sc__law_turned (fun vs H Q E h => ?_) (fun _ _ _ _ _ _ us hl => match us, hl with | [_, _], _ => rfl) (fun cdv A outer s H vs Q E hr h => ?_)
  · obtain ⟨x, bb, d, ps, rfl, _⟩ := h
    rfl
  · have hu := hu_of hr
    obtain ⟨x, bb, d, ps, rfl, hps, hv, ok, q⟩ := h
    have G_Table_init := ok_Table_init (P := P) (w := w) (base := base) T (k - 1)
    have G_Table_entries := ok_Table_entries (P := P) (w := w) (base := base) T (k - 1)
    refine ⟨_, (pss_cons (ps_if (pt_val (pe_callB call_isiT (by rfl) T.n_isinstance (by decide +kernel) (pa_cons (pv 0) (pa_cons (pe_tup (pa_cons (pe_bltn (v := .ty "list") (u := .type "list") (by rfl) T.n_list (by decide +kernel) rfl) (pa_cons (pe_bltn (v := .ty "tuple") (u := .type "tuple") (by rfl) T.n_tuple (by decide +kernel) rfl) pa_nil))) pa_nil)))) (pss_cons (ps_setLc (i := 3) (own := [("_law_item", 2)]) (g := gName 2) (tt := tYes) rfl sc__law_turned.nd rfl rfl (sw_true rfl rfl rfl (by decide +kernel)) (pi_seqB (pv 0)) (blkOk_by (own := [("_law_item", 2)]) (N := N__law_turned) (sc := defScope s__law_turned) (by decide +kernel)) (fun _ _ _ _ _ => (pg_name (i := 2) sc__law_turned.nd rfl (Or.inl rfl))) (fun _ _ _ _ _ => pts_nil) (fun _ _ _ _ _ => (pe_callG G__law_turned T.g__law_turned (hr.mono (by first | decide | omega)) pass0 (pa_cons (pv 2) (pa_cons (pv 1) pa_nil)))))
      (pss_one (ps_ret (pe_ifExp (pt_cmpR op_eq (pe_callB call_isi (by rfl) T.n_isinstance (by decide +kernel) (pa_cons (pv 0) (pa_cons (pe_bltn (v := .ty "list") (u := .type "list") (by rfl) T.n_list (by decide +kernel) rfl) pa_nil))) (pv 1) (nomark _)) (pe_callTy call_tuple_of (by rfl) T.n_tuple (by decide +kernel) (pa_cons (pv 3) pa_nil)) (pv 3))))) pss_nil)
      (pss_cons (ps_if (pt_val (pe_callB call_isi (by rfl) T.n_isinstance (by decide +kernel) (pa_cons (pv 0) (pa_cons (pe_glob (v := .ref (He.ga K "Table")) rfl T.g_Table rfl) pa_nil)))) (pss_cons (ps_setLc (i := 5) (own := [("_law_key_here", 4), ("_law_item", 2)]) (g := gTup K 2 (gCons (gName 4) (gCons (gName 2) gNil))) (tt := tYes) rfl sc__law_turned.nd rfl rfl (sw_true rfl rfl rfl (by decide +kernel)) (pi_list (pe_methG0 (pv 0) T.cl_Table T.m_Table_entries G_Table_entries (hr.mono (by first | decide | omega)) pass0)) (blkOk_by (own := [("_law_key_here", 4), ("_law_item", 2)]) (N := N__law_turned) (sc := defScope s__law_turned) (by decide +kernel)) (fun _ _ _ _ _ => (pg_tup rfl (pgs_cons (pg_name (i := 4) sc__law_turned.nd rfl (Or.inl rfl)) (pgs_cons (pg_name (i := 2) sc__law_turned.nd rfl (Or.inl rfl)) pgs_nil)))) (fun _ _ _ _ _ => pts_nil) (fun _ _ _ _ _ => (pe_tup (pa_cons (pv 4) (pa_cons (pe_callG G__law_turned T.g__law_turned (hr.mono (by first | decide | omega)) pass0 (pa_cons (pv 2) (pa_cons (pv 1) pa_nil))) pa_nil)))))
      (pss_one (ps_ret (pe_makeG T.mk_Table G_Table_init (hr.mono (by first | decide | omega)) T.g_Table pass0 (pa_cons (pe_ifExp (pt_val (pv 1)) (pv 5) (pe_revL (pv 5))) pa_nil))))) pss_nil)
      (pss_one (ps_ret (pv 0))))), ?_⟩
    refine ⟨_, rfl, (by show 2 ≤ sizeLine; decide), fun tt htt => ?_⟩
    have nu0 := Same.nu (o := .tup [V.ty "list", V.ty "tuple"]) htt
    have hv0 : VAt (CT K) (cut (upd H tt (.tup [V.ty "list", V.ty "tuple"])) ps) k x d := VAt.same (cut_put htt) hv
    have ht0 : (upd H tt (.tup [V.ty "list", V.ty "tuple"])) tt = some (.tup [V.ty "list", V.ty "tuple"]) := upd_same
    obtain ⟨H1, eH1⟩ : ∃ H1, upd H tt (.tup [V.ty "list", V.ty "tuple"]) = H1 := ⟨_, rfl⟩
    rw [eH1] at nu0 hv0 ht0 ⊢
    obtain ⟨t3, y3, k3⟩ := isiLT T cut_le hv0
    obtain ⟨t1, y1, k1⟩ := isiC T cut_le hv0
    refine ⟨_, tt, _, t3, _, _, rfl, ht0, .cons (.ty _) (.cons (.ty _) .nil), y3, k3, _, rfl, ?_⟩
    have hps1 := hps.sx nu0
    cases d with
    | seq t l =>
      obtain ⟨j, a, xs, rfl, rfl, ha, hx⟩ := at_list hv0
      obtain ⟨h4, hok⟩ := ok_list ok
      have hl := Paired.length hx
      have hS := sqB_of (K := K) (cut_le _ _ ha)
      rw [show (isT "list" (.seq t l) || isT "tuple" (.seq t l)) = true by cases t <;> rfl]
      refine iteT ⟨_, rfl, t, a, xs, rfl, hS, fun D hD => lc_seqB (xs := xs) (fun i H' => Same H1 H' ∧ ∃ ys ds, H' D = some (.lst ys) ∧ Paired (VAt (CT K) (cut H' (D :: ps)) j) ys ds ∧ ds.length = i ∧ ∀ e ∈ ds, Ok j e)
        ⟨Same.nu hD, [], [], upd_same, .nil, rfl, fun _ h => nomatch h⟩ (fun i H' _ h => sqB_same h.1 hS) ?_ ?_⟩
      · rintro i y H' hy ⟨s1, ys, ds, hd, hp1, hdl, hdo⟩
        obtain ⟨e, he, hv1⟩ := Paired.at hx hy
        have hi := lt_of_at he
        have l1 := Paired.length hp1
        have hps' : Has H' (D :: ps) := fun c hc => by
          rcases List.mem_cons.mp hc with z | z
          · rw [z, hd]; simp
          · exact hps1.sx s1 c z
        refine ⟨rfl, _, rfl, _, rfl, y, bb, e, D :: ps, rfl, hps', VAt.same (cut_add hD s1) hv1, hok e (List.mem_of_getElem? he), fun H2 z f s2 hz okf => ⟨ys, s2 _ _ hd, small1000 (by omega), Same.mk'' (s1.trans s2) hD, ys ++ [z], ds ++ [f], upd_same, ?_, by rw [List.length_append, hdl]; rfl, fun e' h' => ?_⟩⟩
        · rw [cut_cons]
          exact Paired.snoc (Paired.mapP hp1 fun _ _ q => VAt.same (cut_sx (Sx.of s2)) q) hz
        · rcases List.mem_append.mp h' with h | h
          · exact hdo e' h
          · rw [List.mem_singleton.mp h]; exact okf
      · rintro H' ⟨s1, ys, ds, hd, hp1, hdl, hdo⟩
        have hp2 : Paired (VAt (CT K) (cut H' ps) j) ys ds := Paired.mapP hp1 fun _ _ h => VAt.same (cut_mono fun b hb => List.mem_cons_of_mem _ hb) h
        have hps' := hps1.sx s1
        obtain ⟨t2, y2, k2⟩ := isi T "list" (cut_le.trans s1) (k := j + 1) (x := .ref a) (d := .seq t l) (VAt.same (Same.refl _) hv0)
        refine ⟨_, rfl, _, _, t2, _, _, rfl, .ty _, y2, k2, _, rfl, rfl, _, rfl, ?_⟩
        cases hb : decide (V.bl (isT "list" (.seq t l)) = V.bl bb) with
        | false =>
          exact iteF ⟨_, rfl, q H' (.ref D) (.seq true ds) (nu0.trans s1) (.inr (.inl ⟨true, ds, D, ys, rfl, rfl, cut_at (hps1.new hD) hd, hp2⟩)) (.inr (.inl ⟨true, ds, rfl, by omega, hdo⟩))⟩
        | true =>
          refine iteT ⟨_, rfl, D, ys, rfl, .inl ⟨SqL.of hd, fun q2 hq2 => ?_⟩⟩
          exact q _ (.ref q2) (.seq false ds) ((nu0.trans s1).trans (Same.nu hq2)) (.inr (.inl ⟨false, ds, q2, ys, rfl, rfl, cut_at (hps'.new hq2) upd_same, Paired.mapP hp2 fun _ _ h => VAt.same (cut_put hq2) h⟩)) (.inr (.inl ⟨false, ds, rfl, by omega, hdo⟩))
    | tab es =>
      obtain ⟨j, p, dx, dd, od, kvs, rfl, rfl, hp, hd, hpr⟩ := at_tab hv0
      obtain ⟨h4, hnd, hok⟩ := ok_tab ok
      have hp' := cut_le _ _ hp
      refine iteF ⟨_, rfl, .ref p, _, t1, _, _, rfl, .own _, y1, k1, _, rfl, iteT ?_⟩
      refine ⟨_, rfl, p, dx, _, rfl, hp', rfl, .ref p, es, ps, rfl, hps1, hv0, ⟨h4, hnd, hok⟩, fun H2 l ts s2 hl0 hl hE => ⟨l, rfl, ⟨_, SqL.of hl⟩, fun D hD => lc_list (xs := ts)
        (fun i H' => Same H2 H' ∧ ∃ us fs, H' D = some (.lst us) ∧ Paired (EntAt K H' (D :: ps) j) us fs ∧ fs.map (·.1) = (es.take i).map (·.1) ∧ ∀ e ∈ fs, okK e.1 ∧ Ok j e.2) ⟨Same.nu hD, [], [], upd_same, .nil, by rw [List.take_zero], fun _ h => nomatch h⟩ (fun i H' _ h => SqL.of (h.1 _ _ hl)) ?_ ?_⟩⟩
      · rintro i t H' ht ⟨s3, us, fs, hd3, hp3, hk3, ho3⟩
        obtain ⟨e, he, b, y0, rfl, hb, hy⟩ := Paired.at hE ht
        have hi := lt_of_at he
        have l1 := Paired.length hp3
        have l2 := congrArg List.length hk3
        rw [List.length_map, List.length_map, List.length_take] at l2
        have okk := hok e (List.mem_of_getElem? he)
        have hps' : Has H' (D :: ps) := fun c hc => by
          rcases List.mem_cons.mp hc with z | z
          · rw [z, hd3]; simp
          · exact (hps1.sx s2).sx s3 c z
        have hy' : VAt (CT K) (cut H' (D :: ps)) j y0 e.2 := VAt.same (fun c o hc => cut_add hD s3 c o (cut_mono (fun c hc => List.mem_cons_of_mem _ hc) c o hc)) hy
        refine ⟨b, _, rfl, SqT.of (s3 _ _ hb), rfl, _, _, rfl, _, _, rfl, rfl, rfl, _, rfl, _, rfl, _, rfl, y0, bb, e.2, D :: ps, rfl, hps', hy', okk.2, fun H5 z f s5 hz okf => ⟨(by show 2 ≤ sizeLine; decide), fun q2 hq2 => ?_⟩⟩
        have nq := Same.nu (o := .tup [kV e.1, z]) hq2
        have hd5 := s5 _ _ hd3
        have nD : D ≠ q2 := ne_of_none hd5 hq2
        have cc : Same (cut H5 (D :: ps)) (cut (upd (upd H5 q2 (.tup [kV e.1, z])) D (.lst (us ++ [.ref q2]))) (D :: ps)) := by
          rw [cut_cons]
          exact cut_put hq2
        refine ⟨us, nq _ _ hd5, small1000 (by omega), Same.mk'' ((s3.trans s5).trans nq) hD, _, fs ++ [(e.1, f)], upd_same, Paired.snoc (Paired.mapP hp3 fun t e h => ?_) ⟨q2, z, rfl, ?_, VAt.same cc hz⟩, ?_, fun e' h' => ?_⟩
        · obtain ⟨b, y, e1, h1, h2⟩ := h
          exact ⟨b, y, e1, by rw [upd_ne (ne_of h1 hd3 (by intro z; cases z))]; exact nq _ _ (s5 _ _ h1), VAt.same cc (VAt.same (cut_sx (Sx.of s5)) h2)⟩
        · rw [upd_ne nD.symm, upd_same]
        · rw [take_snoc he, List.map_append, List.map_append, hk3]
          rfl
        · rcases List.mem_append.mp h' with h | h
          · exact ho3 e' h
          · rw [List.mem_singleton.mp h]; exact ⟨okk.1, okf⟩
      · rintro H' ⟨s3, us, fs, hd3, hp3, hk3, ho3⟩
        rw [List.take_of_length_le (by have := Paired.length hE; omega)] at hk3
        have hps' : Has H' ps := (hps1.sx s2).sx s3
        have okes : okE j fs := ⟨by have := congrArg List.length hk3; rw [List.length_map, List.length_map] at this; omega, by rw [hk3]; exact hnd, ho3⟩
        have make : ∀ (L : Addr) (us' : List V) (fs' : List (Key × Val)) (H5 : Hp) (ps' : List Addr), Same H' H5 → H5 L = some (.lst us') → Paired (fun t e => ∃ b y, t = V.ref b ∧ H5 b = some (.tup [kV e.1, y]) ∧ VAt (CT K) (cut H' (D :: ps)) j y e.2) us' fs' → okE j fs' → ∀ x dx2, H5 x = none → H5 dx2 = none → dx2 ≠ x →
            spTable K j (.ref x :: ([.ref L] ++ [])) (upd (upd H5 dx2 (.own x)) x (.ins (CT K) dx2 [])) (fun v H6 => v = .non ∧ Q (.ref x) H6) (fun _ _ _ => False) := fun L us' fs' H5 ps' sL hL hpp okf x dx2 hx hd2 hn' => by
          have s4 : Same H5 (upd (upd H5 dx2 (.own x)) x (.ins (CT K) dx2 [])) := Same.mk'' (Same.nu hd2) hx
          have xn : H' x = none := by
            cases z : H' x with
            | none => rfl
            | some o => rw [sL _ _ z] at hx; cases hx
          refine ⟨x, L, dx2, us', fs', ps, rfl, upd_same, SqL.of (s4 _ _ hL), (hps'.sx sL).sx s4, (hps'.sx sL).new hx, Paired.mapP hpp fun _ _ h => ?_, okf, fun H6 kp hv => ⟨rfl, ?_⟩⟩
          · obtain ⟨b, y, e1, h1, h2⟩ := h
            refine ⟨b, y, e1, s4 _ _ h1, VAt.same (fun c o e => ?_) h2⟩
            have e2 := cut_le _ _ e
            unfold cut at e
            split at e
            · cases e
            · rename_i nc
              refine cut_at (fun z => ?_) (s4 _ _ (sL _ _ e2))
              rcases List.mem_cons.mp z with z | z
              · rw [z, xn] at e2; cases e2
              · exact nc (List.mem_cons_of_mem _ z)
          · exact q H6 _ (.tab fs') ((((nu0.trans s2).trans s3).trans sL).trans fun b o e => kp b o (ne_of_none e hx) (s4 _ _ e)) hv (.inr (.inr ⟨fs', rfl, okf.1, okf.2.1, okf.2.2⟩))
        cases bb with
        | true => exact ⟨_, rfl, _, rfl, iteT ⟨_, rfl, make D us fs H' [] (Same.refl _) hd3 hp3 okes⟩⟩
        | false =>
          refine ⟨_, rfl, _, rfl, iteF ⟨_, rfl, D, us, rfl, SqL.of hd3, fun l hl => make l us.reverse fs.reverse _ [] (Same.nu hl) upd_same (Paired.rev (Paired.mapP hp3 fun _ _ ⟨b, y, e1, h1, h2⟩ => ⟨b, y, e1, Same.nu hl _ _ h1, h2⟩)) ⟨by rw [List.length_reverse]; exact okes.1, by rw [List.map_reverse]; exact (List.reverse_perm _).nodup_iff.mpr okes.2.1, fun e he => okes.2.2 e (List.mem_reverse.mp he)⟩⟩⟩
    | non =>
      exact iteF ⟨_, rfl, _, _, t1, _, _, rfl, .own _, y1, k1, _, rfl, iteF ⟨_, rfl, q _ _ _ nu0 hv0 ok⟩⟩
    | bl b =>
      exact iteF ⟨_, rfl, _, _, t1, _, _, rfl, .own _, y1, k1, _, rfl, iteF ⟨_, rfl, q _ _ _ nu0 hv0 ok⟩⟩
    | str s0 =>
      exact iteF ⟨_, rfl, _, _, t1, _, _, rfl, .own _, y1, k1, _, rfl, iteF ⟨_, rfl, q _ _ _ nu0 hv0 ok⟩⟩
    | int i0 =>
      exact iteF ⟨_, rfl, _, _, t1, _, _, rfl, .own _, y1, k1, _, rfl, iteF ⟨_, rfl, q _ _ _ nu0 hv0 ok⟩⟩
theorem ok__law_turned (T : Tx w K mg) : ∀ k, Gd P w K base mg CX0 ((k + 3) + 1) (He.fAd K d__law_turned.at_) ["_law_value_here", "_law_is_row"] [] ((spTurn K) k) := fun k => recGd (fun k => (k + 3)) (fun l => mkGdF (T.f__law_turned) sc__law_turned (fun _ _ _ _ _ _ us hl => match us, hl with | [_, _], _ => rfl) l) (fun k G => st__law_turned T k G) (by intro _; first | rfl | omega) k
end
end Kt
set_option Elab.async false
set_option linter.all false
set_option maxRecDepth 100000
set_option maxHeartbeats 4000000
namespace Kt
open PySem PySem.Spec PyProof.Rows L2 Rz _root_.TL
section
variable {P : Program} {w : World} {K : PySem.W.Frag} {mg : Str → Option Value} {base : Heap}
section
variable {o : Opt} {r : ROpt}
theorem p1_tp (h : ¬ confB o r 1 (.seq true []) (.seq false [])) : (o.tp == "refuse") = true := by
  cases ht : (o.tp == "refuse") with
  | true => rfl
  | false =>
    refine absurd ⟨?_, ?_⟩ h
    · simp [carryL, Rz.carry, rawV, bldV, allS]
    · simp [carryL, Rz.carry, rawV, bldV, allS, ht]
theorem p2_ln (ho : o.ok) (h : ¬ confB o r 1 (.int (10 ^ 15)) (.str (istr (10 ^ 15)))) : o.ln = "keep" ∨ o.ln = "refuse" := by
  have lg : longI (10 ^ 15) = true := by decide +kernel
  obtain ⟨_, _, _, _, _, ol⟩ := ho
  simp only [List.mem_cons, List.not_mem_nil, or_false] at ol
  rcases ol with e | e | e
  · exact .inl e
  · have e1 : (Str.ofString "text" == Str.ofString "keep") = false := by decide +kernel
    have e2 : ¬ (Str.ofString "text" = Str.ofString "refuse") := by decide +kernel
    have er : rawV o 1 (.int (10 ^ 15)) = some (.str (istr (10 ^ 15))) := by
      show (if longI (10 ^ 15) && !(o.ln == "keep") then (if o.ln = "refuse" then none else some (Val.str (istr (10 ^ 15)))) else some (.int (10 ^ 15))) = _
      rw [lg, e, e1, if_pos (show (true && !false) = true from rfl), if_neg e2]
    have c1 : carryL o r 1 (.int (10 ^ 15)) = [.str (istr (10 ^ 15))] := by
      unfold carryL Rz.carry
      rw [er]
      rfl
    have c2 : carryL o r 1 (.str (istr (10 ^ 15))) = [.str (istr (10 ^ 15))] := rfl
    exact absurd ⟨by rw [c1]; simp, by rw [c1, c2]⟩ h
  · exact .inr e
/-- a table of one entry comes back as it is kept -/
theorem raw_one {e : Key × Val} : rawV o 1 (.tab [e]) = if bad o [e] then none else (allS ((kept o [e]).map (pairT (rawF o)))).map Val.tab := by
  have l : (kept o [e]).length ≤ 1 := List.length_filter_le _ _
  have eo : ordE o (kept o [e]) = kept o [e] := by
    unfold ordE
    split
    · match hk : kept o [e], l with
      | [], _ => simp
      | [x], _ => simp
    · rfl
  have ed : dup o (kept o [e]) = false := by
    unfold dup
    match hk : kept o [e], l with
    | [], _ => simp
    | [x], _ => simp
  show (if bad o [e] then none else if dup o (ordE o (kept o [e])) then none else (allS ((ordE o (kept o [e])).map (pairT (rawF o)))).map fun zs => Val.tab zs) = _
  rw [eo, ed]
  rfl
theorem bld_nil : bldV r 1 (.tab []) = some (.tab []) := by
  simp [bldV, dubB, allS, outB, fputs]
theorem p3_nl (h : ¬ confB o r 1 (.tab []) (.tab [(.inr "k", .non)])) : (o.nl == "skip") = false ∧ (r.ni == "keep") = true := by
  have c0 : carryL o r 1 (.tab []) = [.tab []] := by
    have e0 : rawV o 1 (.tab []) = some (.tab []) := by simp [rawV, bad, kept, ordE, dup, allS]
    unfold carryL Rz.carry
    rw [e0]
    show (bldV r 1 (.tab [])).toList = _
    rw [bld_nil]
    rfl
  have b5 : bad o [(.inr "k", .non)] = false := by simp [bad, isI]
  cases hs : (o.nl == "skip") with
  | true =>
    refine absurd ⟨by rw [c0]; simp, ?_⟩ h
    have k5 : kept o [(.inr "k", .non)] = [] := by simp [kept, Rz.seen, isI, isN, hs]
    rw [c0]
    unfold carryL Rz.carry
    rw [raw_one, b5, k5]
    show [Val.tab []] = ((some (Val.tab [])).bind (bldV r 1)).toList
    show _ = (bldV r 1 (.tab [])).toList
    rw [bld_nil]
    rfl
  | false =>
    refine ⟨rfl, ?_⟩
    cases hn : (r.ni == "keep") with
    | true => rfl
    | false =>
      refine absurd ⟨by rw [c0]; simp, ?_⟩ h
      have k5 : kept o [(.inr "k", .non)] = [(.inr "k", .non)] := by simp [kept, Rz.seen, isI, isN, hs]
      rw [c0]
      unfold carryL Rz.carry
      rw [raw_one, b5, k5]
      have e1 : bldV r 1 (.tab [(.inr "k", .non)]) = some (.tab []) := by
        simp [bldV, dubB, allS, outB, fputs, fput, pairB, heldB, isN, hn]
      show [Val.tab []] = (bldV r 1 (.tab [(.inr "k", .non)])).toList
      rw [e1]
      rfl
theorem c_nil : carryL o r 1 (.tab []) = [.tab []] := by
  have e0 : rawV o 1 (.tab []) = some (.tab []) := by simp [rawV, bad, kept, ordE, dup, allS]
  unfold carryL Rz.carry
  rw [e0]
  show (bldV r 1 (.tab [])).toList = _
  rw [bld_nil]
  rfl
theorem p4_nk (ho : o.ok) (h : ¬ confB o r 1 (.tab []) (.tab [(.inl 5, .int 0)])) : o.nk = "text" ∨ o.nk = "refuse" := by
  obtain ⟨on, _⟩ := ho
  simp only [List.mem_cons, List.not_mem_nil, or_false] at on
  rcases on with e | e | e
  · exact .inl e
  · have e1 : (Str.ofString "skip" == Str.ofString "refuse") = false := by decide +kernel
    have e2 : (Str.ofString "skip" == Str.ofString "text") = false := by decide +kernel
    have b5 : bad o [(.inl 5, .int 0)] = false := by simp [bad, isI, e, e1]
    have k5 : kept o [(.inl 5, .int 0)] = [] := by simp [kept, isI, e, e2]
    refine absurd ⟨by rw [c_nil]; simp, ?_⟩ h
    rw [c_nil]
    unfold carryL Rz.carry
    rw [raw_one, b5, k5]
    show _ = (bldV r 1 (.tab [])).toList
    rw [bld_nil]
    rfl
  · exact .inr e
theorem p5_nk (hn : o.nk = "text" ∨ o.nk = "refuse") (h : ¬ confB o r 1 (.tab [(.inl 5, .int 0)]) (.tab [(.inr "5", .int 0)])) : o.nk = "refuse" := by
  rcases hn with e | e
  · have lg : longI 0 = false := by decide +kernel
    have e1 : (Str.ofString "text" == Str.ofString "refuse") = false := by decide +kernel
    have e3 : keyT (.inl 5) = "5" := by decide +kernel
    have z0 : rawF o (.int 0) = some (.int 0) := by simp [rawF, lg]
    have b1 : bad o [(.inl 5, .int 0)] = false := by simp [bad, isI, e, e1]
    have b2 : bad o [(.inr "5", .int 0)] = false := by simp [bad, isI]
    have k1 : kept o [(.inl 5, .int 0)] = [(.inl 5, .int 0)] := by simp [kept, Rz.seen, isI, isN, e]
    have k2 : kept o [(.inr "5", .int 0)] = [(.inr "5", .int 0)] := by simp [kept, Rz.seen, isI, isN]
    have r1 : rawV o 1 (.tab [(.inl 5, .int 0)]) = some (.tab [(.inr "5", .int 0)]) := by
      rw [raw_one, b1, k1]
      simp [allS, pairT, z0, e3]
    have r2 : rawV o 1 (.tab [(.inr "5", .int 0)]) = some (.tab [(.inr "5", .int 0)]) := by
      rw [raw_one, b2, k2]
      simp [allS, pairT, z0, keyT]
    have ec : carryL o r 1 (.tab [(.inl 5, .int 0)]) = carryL o r 1 (.tab [(.inr "5", .int 0)]) := by
      unfold carryL Rz.carry
      rw [r1, r2]
    refine absurd ⟨?_, ec⟩ h
    unfold carryL Rz.carry
    rw [r1]
    show (bldV r 1 (.tab [(.inr "5", .int 0)])).toList ≠ []
    simp [bldV, dubB, allS, pairB]
  · exact e
theorem sort_two {α : Type} (le : α → α → Bool) (a b : α) : [a, b].mergeSort le = if le a b then [a, b] else [b, a] := by
  cases h : le a b <;> simp [List.mergeSort, List.MergeSort.Internal.splitInTwo, List.merge, h]
theorem p6_od (ho : o.ok) (h : ¬ confB o r 1 (.tab [(.inr "b", .int 0), (.inr "a", .int 0)]) (.tab [(.inr "a", .int 0), (.inr "b", .int 0)])) : o.od = "keep" := by
  obtain ⟨_, _, _, _, oo, _⟩ := ho
  simp only [List.mem_cons, List.not_mem_nil, or_false] at oo
  rcases oo with e | e
  · exact e
  · have lg : longI 0 = false := by decide +kernel
    have z0 : rawF o (.int 0) = some (.int 0) := by simp [rawF, lg]
    have l1 : leE (.inr "b", .int 0) (.inr "a", .int 0) = false := by decide +kernel
    have l2 : leE (.inr "a", .int 0) (.inr "b", .int 0) = true := by decide +kernel
    have nd : (([(.inr "a", .int 0), (.inr "b", .int 0)] : List (Key × Val)).map fun e => keyT e.1).Nodup := by decide +kernel
    have dd : dup o [(.inr "a", .int 0), (.inr "b", .int 0)] = false := by
      unfold dup
      rw [decide_eq_true nd]
      simp
    have end_ : ∀ es : List (Key × Val), bad o es = false → kept o es = es → es.mergeSort leE = [(.inr "a", .int 0), (.inr "b", .int 0)] → rawV o 1 (.tab es) = some (.tab [(.inr "a", .int 0), (.inr "b", .int 0)]) := fun es b k m => by
      show (if bad o es then none else if dup o (ordE o (kept o es)) then none else (allS ((ordE o (kept o es)).map (pairT (rawV o 0)))).map fun zs => Val.tab zs) = _
      have eo : ordE o (kept o es) = [(.inr "a", .int 0), (.inr "b", .int 0)] := by
        unfold ordE
        rw [if_pos e, k, m]
      rw [b, eo, dd]
      have z1 : rawV o 0 (.int 0) = some (.int 0) := z0
      simp [allS, pairT, z1, keyT]
    have r1 := end_ [(.inr "b", .int 0), (.inr "a", .int 0)] (by simp [bad, isI]) (by simp [kept, Rz.seen, isI, isN]) (by rw [sort_two, l1]; rfl)
    have r2 := end_ [(.inr "a", .int 0), (.inr "b", .int 0)] (by simp [bad, isI]) (by simp [kept, Rz.seen, isI, isN]) (by rw [sort_two, l2]; rfl)
    have ec : carryL o r 1 (.tab [(.inr "b", .int 0), (.inr "a", .int 0)]) = carryL o r 1 (.tab [(.inr "a", .int 0), (.inr "b", .int 0)]) := by
      unfold carryL Rz.carry
      rw [r1, r2]
    refine absurd ⟨?_, ec⟩ h
    have nd2 : (([(.inr "a", .int 0), (.inr "b", .int 0)] : List (Key × Val)).map (·.1)).Nodup := by decide +kernel
    have du : dubB r [(.inr "a", .int 0), (.inr "b", .int 0)] = false := by
      unfold dubB
      rw [decide_eq_true nd2]
      simp
    unfold carryL Rz.carry
    rw [r1]
    show (bldV r 1 (.tab [(.inr "a", .int 0), (.inr "b", .int 0)])).toList ≠ []
    simp [bldV, du, allS, pairB]
end
end
end Kt
set_option Elab.async false
set_option linter.all false
set_option maxRecDepth 100000
set_option maxHeartbeats 4000000
namespace Kt
open PySem PySem.Spec PyProof.Rows L2 Rz _root_.TL
section
variable {P : Program} {w : World} {K : PySem.W.Frag} {mg : Str → Option Value} {base : Heap}
theorem allS_bind {α β γ : Type} {f : α → Option β} {g : β → Option γ} : ∀ l : List α, (allS (l.map f)).bind (fun zs => allS (zs.map g)) = allS (l.map fun x => (f x).bind g)
  | [] => rfl
  | x :: l => by
    have ih := allS_bind (f := f) (g := g) l
    simp only [List.map_cons, allS]
    cases hx : f x with
    | none => simp
    | some y =>
      rw [← ih]
      cases hl : allS (l.map f) with
      | none => cases hg : g y <;> simp
      | some zs => simp [allS]
/-- what the probes leave when none of the first five is confused -/
structure Low (o : Opt) (r : ROpt) : Prop where
  tp : (o.tp == "refuse") = true
  ln : o.ln = "keep" ∨ o.ln = "refuse"
  nl : (o.nl == "skip") = false
  ni : (r.ni == "keep") = true
  nk : o.nk = "refuse"
section
variable {o : Opt} {r : ROpt}
theorem rawF_low (h : o.ln = "keep" ∨ o.ln = "refuse") {d z : Val} (e : rawF o d = some z) : z = d := by
  cases d with
  | int i =>
    simp only [rawF] at e
    rcases h with h | h
    · rw [h] at e
      have e1 : (Str.ofString "keep" == Str.ofString "keep") = true := by decide +kernel
      rw [e1, Bool.not_true, Bool.and_false] at e
      simpa using e.symm
    · rw [h] at e
      rw [if_pos rfl] at e
      split at e
      · cases e
      · simpa using e.symm
  | _ => simpa [rawF] using e.symm
theorem carry_row (k : Nat) (l : List Val) : Rz.carry o r (k + 1) (.seq true l) = (allS (l.map (Rz.carry o r k))).map fun zs => Val.seq (!(r.ls == "tuple")) zs := by
  have e : allS (l.map (Rz.carry o r k)) = (allS (l.map (rawV o k))).bind fun zs => allS (zs.map (bldV r k)) := (allS_bind l).symm
  rw [e]
  show ((allS (l.map (rawV o k))).map fun zs => Val.seq true zs).bind (bldV r (k + 1)) = _
  cases allS (l.map (rawV o k)) with
  | none => rfl
  | some zs => rfl
theorem carry_tup (h : Low o r) (k : Nat) (l : List Val) : Rz.carry o r (k + 1) (.seq false l) = none := by
  show (if (!false && o.tp == "refuse") = true then none else _).bind _ = none
  rw [h.tp]
  rfl
theorem fold_nodup : ∀ (ys acc : List (Key × Val)), ((acc ++ ys).map (·.1)).Nodup → ys.foldl (fput r) acc = acc ++ ys
  | [], acc, _ => by simp
  | y :: ys, acc, h => by
    have hm : y.1 ∉ acc.map (·.1) := by
      rw [List.map_append, List.nodup_append] at h
      exact fun z => h.2.2 y.1 z y.1 (by simp) rfl
    have e : fput r acc y = acc ++ [y] := by
      unfold fput
      rw [if_neg (fun z => hm (anyK.mp z))]
    rw [List.foldl_cons, e, fold_nodup ys (acc ++ [y]) (by simpa using h)]
    simp
theorem fputs_nodup {ys : List (Key × Val)} (h : (ys.map (·.1)).Nodup) : fputs r ys = ys := by
  unfold fputs
  rw [fold_nodup ys [] (by simpa using h)]
  rfl
theorem outB_low (h : Low o r) {ys : List (Key × Val)} (hn : (ys.map (·.1)).Nodup) : outB r ys = ys.map fun e => (bk r e.1, e.2) := by
  unfold outB
  rw [fputs_nodup hn]
  have : ys.filter (heldB r) = ys := List.filter_eq_self.mpr fun e _ => by unfold heldB; rw [h.ni, Bool.or_true]
  rw [this]
theorem bad_low (h : Low o r) (es : List (Key × Val)) : bad o es = es.any fun e => isI e.1 := by
  unfold bad
  congr 1
  funext e
  have s : Rz.seen o e = true := by unfold Rz.seen; rw [h.nl, Bool.and_false]; rfl
  rw [s, h.nk]
  simp
theorem kept_low (h : Low o r) {es : List (Key × Val)} (hs : (es.any fun e => isI e.1) = false) : kept o es = es := by
  unfold kept
  refine List.filter_eq_self.mpr fun e he => ?_
  have s : Rz.seen o e = true := by unfold Rz.seen; rw [h.nl, Bool.and_false]; rfl
  have hi : isI e.1 = false := by
    have := List.any_eq_false.mp hs e he
    simpa using this
  rw [s, hi]
  rfl
theorem ord_perm (es : List (Key × Val)) : (ordE o es).Perm es := by
  unfold ordE
  split
  · exact List.mergeSort_perm _ _
  · exact .refl _
theorem keyT_str {es : List (Key × Val)} (hs : (es.any fun e => isI e.1) = false) {e : Key × Val} (he : e ∈ es) : Sum.inr (keyT e.1) = e.1 := by
  have hi := List.any_eq_false.mp hs e he
  obtain ⟨k, v⟩ := e
  cases k with
  | inl i => exact absurd rfl hi
  | inr x => rfl
theorem allS_map {α β γ : Type} {f : α → Option β} {φ : β → γ} : ∀ l : List α, allS (l.map fun x => (f x).map φ) = (allS (l.map f)).map (List.map φ)
  | [] => rfl
  | x :: l => by
    have ih := allS_map (f := f) (φ := φ) l
    simp only [List.map_cons, allS]
    rw [ih]
    cases f x <;> cases allS (l.map f) <;> simp
theorem pairT_keys {f : Val → Option Val} : ∀ {l zs : List (Key × Val)}, l.map (pairT f) = zs.map some → zs.map (·.1) = l.map fun e => Sum.inr (keyT e.1)
  | [], [], _ => rfl
  | [], _ :: _, h => by cases h
  | _ :: _, [], h => by cases h
  | e :: l, z :: zs, h => by
    injection h with h1 h2
    have e1 : z.1 = .inr (keyT e.1) := by
      unfold pairT at h1
      cases q : f e.2 with
      | none => rw [q] at h1; cases h1
      | some w => rw [q] at h1; cases h1; rfl
    rw [List.map_cons, List.map_cons, e1, pairT_keys h2]
theorem pairB_keys {f : Val → Option Val} : ∀ {l zs : List (Key × Val)}, l.map (pairB f) = zs.map some → zs.map (·.1) = l.map (·.1)
  | [], [], _ => rfl
  | [], _ :: _, h => by cases h
  | _ :: _, [], h => by cases h
  | e :: l, z :: zs, h => by
    injection h with h1 h2
    have e1 : z.1 = e.1 := by
      unfold pairB at h1
      cases q : f e.2 with
      | none => rw [q] at h1; cases h1
      | some w => rw [q] at h1; cases h1; rfl
    rw [List.map_cons, List.map_cons, e1, pairB_keys h2]
theorem carry_tab (h : Low o r) (k : Nat) {es : List (Key × Val)} (hn : (es.map (·.1)).Nodup) (hs : (es.any fun e => isI e.1) = false) :
    Rz.carry o r (k + 1) (.tab es) = (allS ((ordE o es).map fun e => (Rz.carry o r k e.2).map fun z => (bk r e.1, z))).map Val.tab := by
  have pm := ord_perm (o := o) es
  have hsL : ((ordE o es).any fun e => isI e.1) = false := List.any_eq_false.mpr fun e he => List.any_eq_false.mp hs e (pm.mem_iff.mp he)
  have hnL : ((ordE o es).map (·.1)).Nodup := (pm.map _).nodup_iff.mpr hn
  have hkL : (ordE o es).map (fun e => Sum.inr (keyT e.1)) = (ordE o es).map (·.1) := List.map_congr_left fun e he => keyT_str hsL he
  have hnT : ((ordE o es).map fun e => keyT e.1).Nodup := by
    rw [← hkL] at hnL
    have e : (ordE o es).map (fun e => (Sum.inr (keyT e.1) : Key)) = ((ordE o es).map fun e => keyT e.1).map Sum.inr := by rw [List.map_map]; rfl
    rw [e] at hnL
    exact (List.pairwise_map.mp hnL).imp fun q z => q (by rw [z])
  have hd : dup o (ordE o es) = false := by
    unfold dup
    rw [decide_eq_true hnT]
    simp
  have e0 : Rz.carry o r (k + 1) (.tab es) = ((allS ((ordE o es).map (pairT (rawV o k)))).map fun zs => Val.tab zs).bind (bldV r (k + 1)) := by
    show (if bad o es then none else if dup o (ordE o (kept o es)) then none else (allS ((ordE o (kept o es)).map (pairT (rawV o k)))).map fun zs => Val.tab zs).bind (bldV r (k + 1)) = _
    rw [bad_low h, hs, kept_low h hs, hd]
    rfl
  have e1 : allS ((ordE o es).map fun e => (Rz.carry o r k e.2).map fun z => (bk r e.1, z)) = (allS ((ordE o es).map (pairT (rawV o k)))).bind fun zs => allS (zs.map fun z => (pairB (bldV r k) z).map fun e => (bk r e.1, e.2)) := by
    rw [allS_bind]
    congr 1
    refine List.map_congr_left fun e he => ?_
    unfold Rz.carry pairT pairB
    rw [← keyT_str hsL he]
    cases rawV o k e.2 with
    | none => rfl
    | some u =>
      cases q : bldV r k u with
      | none => simp [q]
      | some y =>
        simp [q]
        rfl
  rw [e0, e1]
  cases q : allS ((ordE o es).map (pairT (rawV o k))) with
  | none => rfl
  | some zs =>
    have hz := pairT_keys (allS_some.mp q)
    have hnz : (zs.map (·.1)).Nodup := by rw [hz, hkL]; exact hnL
    have du : dubB r zs = false := by
      unfold dubB
      rw [decide_eq_true hnz]
      simp
    show (if dubB r zs then none else (allS (zs.map (pairB (bldV r k)))).map fun ys => Val.tab (outB r ys)) = (allS (zs.map fun z => (pairB (bldV r k) z).map fun e => (bk r e.1, e.2))).map Val.tab
    rw [du, allS_map]
    cases q2 : allS (zs.map (pairB (bldV r k))) with
    | none => rfl
    | some ys =>
      have hny : (ys.map (·.1)).Nodup := by rw [pairB_keys (allS_some.mp q2)]; exact hnz
      show some (Val.tab (outB r ys)) = some (Val.tab (ys.map fun e => (bk r e.1, e.2)))
      rw [outB_low h hny]
theorem carry_int (h : Low o r) (k : Nat) {es : List (Key × Val)} (hs : (es.any fun e => isI e.1) = true) : Rz.carry o r (k + 1) (.tab es) = none := by
  show (if bad o es then none else _).bind _ = none
  rw [bad_low h, hs]
  rfl
end
end
end Kt
set_option Elab.async false
set_option linter.all false
set_option maxRecDepth 100000
set_option maxHeartbeats 4000000
namespace Kt
open PySem PySem.Spec PyProof.Rows L2 Rz _root_.TL
section
variable {P : Program} {w : World} {K : PySem.W.Frag} {mg : Str → Option Value} {base : Heap}
theorem allS_inj {α β : Type} {f : α → Option β} : ∀ {l m : List α} {zs : List β}, (∀ x ∈ l, ∀ y ∈ m, ∀ w, f x = some w → f y = some w → x = y) → allS (l.map f) = some zs → allS (m.map f) = some zs → l = m
  | [], m, zs, _, h1, h2 => by
    have a := allS_len h1
    have b := allS_len h2
    rw [List.length_map] at a b
    have : m.length = 0 := by rw [← b, a]; rfl
    rw [List.length_eq_zero_iff.mp this]
  | x :: l, [], zs, _, h1, h2 => by
    have a := allS_len h1
    have b := allS_len h2
    rw [List.length_map] at a b
    rw [b] at a
    cases a
  | x :: l, y :: m, zs, hi, h1, h2 => by
    have q1 := allS_some.mp h1
    have q2 := allS_some.mp h2
    cases zs with
    | nil => cases q1
    | cons z zs =>
      simp only [List.map_cons, List.cons.injEq] at q1 q2
      have e := hi x List.mem_cons_self y List.mem_cons_self z q1.1 q2.1
      rw [e, allS_inj (fun u hu v hv w => hi u (List.mem_cons_of_mem _ hu) v (List.mem_cons_of_mem _ hv) w) (allS_some.mpr q1.2) (allS_some.mpr q2.2)]
section
variable {o : Opt} {r : ROpt}
theorem carry_leaf (h : Low o r) {k : Nat} {d w : Val} (hd : okF d) (e : Rz.carry o r k d = some w) : w = d := by
  have n1 : ∀ t l, d ≠ .seq t l := fun t l z => by subst z; cases hd
  have n2 : ∀ es, d ≠ .tab es := fun es z => by subst z; cases hd
  unfold Rz.carry at e
  rw [raw_leaf n1 n2] at e
  cases q : rawF o d with
  | none => rw [q] at e; cases e
  | some z =>
    rw [q] at e
    have hz := rawF_low h.ln q
    subst hz
    have : bldV r k z = some z := bld_leaf n1 n2
    rw [show (some z).bind (bldV r k) = bldV r k z from rfl, this] at e
    exact (Option.some.inj e).symm
/-- what comes back tells its shape -/
theorem carry_shape (h : Low o r) {k : Nat} {d w : Val} (hd : Ok (k + 1) d) (e : Rz.carry o r (k + 1) d = some w) : (okF d ∧ w = d) ∨ (∃ l zs, d = .seq true l ∧ (l.length ≤ 4 ∧ ∀ x ∈ l, Ok k x) ∧ allS (l.map (Rz.carry o r k)) = some zs ∧ w = .seq (!(r.ls == "tuple")) zs) ∨
    ∃ es zs, d = .tab es ∧ okE k es ∧ (es.any fun e => isI e.1) = false ∧ allS ((ordE o es).map fun e => (Rz.carry o r k e.2).map fun z => (bk r e.1, z)) = some zs ∧ w = .tab zs := by
  rcases hd with hd | ⟨t, l, rfl, h1, h2⟩ | ⟨es, rfl, h1, h2, h3⟩
  · exact .inl ⟨hd, carry_leaf h hd e⟩
  · cases t with
    | false => rw [carry_tup h] at e; cases e
    | true =>
      rw [carry_row] at e
      cases q : allS (l.map (Rz.carry o r k)) with
      | none => rw [q] at e; cases e
      | some zs => rw [q] at e; exact .inr (.inl ⟨l, zs, rfl, ⟨h1, h2⟩, q, (Option.some.inj e).symm⟩)
  · cases hs : (es.any fun e => isI e.1) with
    | true => rw [carry_int h k hs] at e; cases e
    | false =>
      rw [carry_tab h k h2 hs] at e
      cases q : allS ((ordE o es).map fun e => (Rz.carry o r k e.2).map fun z => (bk r e.1, z)) with
      | none => rw [q] at e; cases e
      | some zs => rw [q] at e; exact .inr (.inr ⟨es, zs, rfl, ⟨h1, h2, h3⟩, hs, q, (Option.some.inj e).symm⟩)
theorem carry_inj (h : Low o r) (hod : o.od = "keep") : ∀ {k : Nat} {d e w : Val}, Ok k d → Ok k e → Rz.carry o r k d = some w → Rz.carry o r k e = some w → d = e
  | 0, d, e, w, hd, he, h1, h2 => (carry_leaf h hd h1).symm.trans (carry_leaf h he h2)
  | k + 1, d, e, w, hd, he, h1, h2 => by
    have eo : ∀ es, ordE o es = es := fun es => by
      unfold ordE
      rw [if_neg (by rw [hod]; decide +kernel)]
    rcases carry_shape h hd h1 with ⟨f1, e1⟩ | ⟨l, zs, rfl, ⟨_, hl⟩, q1, e1⟩ | ⟨es, zs, rfl, ⟨_, _, hes⟩, hs, q1, e1⟩ <;> rcases carry_shape h he h2 with ⟨f2, e2⟩ | ⟨m, zs2, rfl, ⟨_, hm⟩, q2, e2⟩ | ⟨es2, zs2, rfl, ⟨_, _, hes2⟩, hs2, q2, e2⟩
    · exact e1.symm.trans e2
    · rw [e1] at e2; subst e2; cases f1
    · rw [e1] at e2; subst e2; cases f1
    · rw [e2] at e1; subst e1; cases f2
    · rw [e1] at e2
      injection e2 with _ e3
      subst e3
      rw [allS_inj (fun x hx y hy w => carry_inj h hod (hl x hx) (hm y hy)) q1 q2]
    · rw [e1] at e2; cases e2
    · rw [e2] at e1; subst e1; cases f2
    · rw [e1] at e2; cases e2
    · rw [e1] at e2
      injection e2 with e3
      subst e3
      rw [eo] at q1 q2
      rw [allS_inj (fun x hx y hy w a b => ?_) q1 q2]
      have kx := hes x hx
      have ky := hes2 y hy
      have ix := List.any_eq_false.mp hs x hx
      have iy := List.any_eq_false.mp hs2 y hy
      obtain ⟨xk, xv⟩ := x
      obtain ⟨yk, yv⟩ := y
      dsimp only at a b kx ky ix iy
      cases cx : Rz.carry o r k xv with
      | none => rw [cx] at a; cases a
      | some u =>
        cases cy : Rz.carry o r k yv with
        | none => rw [cy] at b; cases b
        | some v =>
          rw [cx] at a
          rw [cy] at b
          have ab := (Option.some.inj a).trans (Option.some.inj b).symm
          injection ab with a1 a2
          subst a2
          cases xk with
          | inl i => exact absurd rfl ix
          | inr x =>
            cases yk with
            | inl i => exact absurd rfl iy
            | inr y => rw [bk_inj kx.1 ky.1 a1, carry_inj h hod kx.2 ky.2 cx cy]
end
end
end Kt
set_option Elab.async false
set_option linter.all false
set_option maxRecDepth 100000
set_option maxHeartbeats 4000000
namespace Kt
open PySem PySem.Spec PyProof.Rows L2 Rz _root_.TL
section
variable {P : Program} {w : World} {K : PySem.W.Frag} {mg : Str → Option Value} {base : Heap}
theorem parts_pos : ∀ (k : Nat) (d : Val), 1 ≤ Rz.parts k d
  | 0, _ => Nat.le_refl _
  | k + 1, d => by cases d <;> simp [Rz.parts]
theorem sum_mem {α : Type} {f : α → Nat} : ∀ {l : List α} {x : α}, x ∈ l → f x ≤ (l.map f).sum
  | y :: l, x, h => by
    rw [List.map_cons, List.sum_cons]
    rcases List.mem_cons.mp h with rfl | h
    · omega
    · have := sum_mem (f := f) h; omega
theorem sum_len {α : Type} {f : α → Nat} (hf : ∀ x, 1 ≤ f x) : ∀ l : List α, l.length ≤ (l.map f).sum
  | [] => by simp
  | y :: l => by
    rw [List.map_cons, List.sum_cons, List.length_cons]
    have := sum_len hf l
    have := hf y
    omega
theorem allS_sum {α β : Type} {f : α → Option β} {p : α → Nat} {q : β → Nat} : ∀ {l : List α} {zs : List β}, allS (l.map f) = some zs → (∀ x ∈ l, ∀ z, f x = some z → q z = p x) → (zs.map q).sum = (l.map p).sum
  | [], zs, h, _ => by
    have := allS_len h
    have : zs = [] := List.length_eq_zero_iff.mp this
    rw [this]
    rfl
  | x :: l, zs, h, hp => by
    have q1 := allS_some.mp h
    cases zs with
    | nil => cases q1
    | cons z zs =>
      simp only [List.map_cons, List.cons.injEq] at q1
      rw [List.map_cons, List.map_cons, List.sum_cons, List.sum_cons, hp x List.mem_cons_self z q1.1, allS_sum (allS_some.mpr q1.2) fun y hy => hp y (List.mem_cons_of_mem _ hy)]
theorem sum_perm {l m : List Nat} (h : l.Perm m) : l.sum = m.sum := by
  induction h with
  | nil => rfl
  | cons x _ ih => rw [List.sum_cons, List.sum_cons, ih]
  | swap x y l => simp only [List.sum_cons]; omega
  | trans _ _ a b => exact a.trans b
section
variable {o : Opt} {r : ROpt}
theorem parts_okF {k : Nat} {d : Val} (h : okF d) : Rz.parts k d = 1 := parts_leaf (fun t l z => by subst z; cases h) (fun es z => by subst z; cases h)
theorem carry_parts (h : Low o r) : ∀ {k : Nat} {d w : Val}, Ok k d → Rz.carry o r k d = some w → Rz.parts k w = Rz.parts k d
  | 0, d, w, _, _ => rfl
  | k + 1, d, w, hd, e => by
    rcases carry_shape h hd e with ⟨f1, rfl⟩ | ⟨l, zs, rfl, ⟨_, hl⟩, q, rfl⟩ | ⟨es, zs, rfl, ⟨_, _, hes⟩, hs, q, rfl⟩
    · rfl
    · show 1 + (zs.map (Rz.parts k)).sum = 1 + (l.map (Rz.parts k)).sum
      rw [allS_sum q fun x hx z ez => carry_parts h (hl x hx) ez]
    · show 1 + (zs.map fun e => Rz.parts k e.2).sum = 1 + (es.map fun e => Rz.parts k e.2).sum
      rw [allS_sum (p := fun e : Key × Val => Rz.parts k e.2) q fun x hx z ez => ?_, sum_perm ((ord_perm es).map _)]
      cases cx : Rz.carry o r k x.2 with
      | none => rw [cx] at ez; cases ez
      | some u =>
        rw [cx] at ez
        have : z = (bk r x.1, u) := (Option.some.inj ez).symm
        rw [this]
        exact carry_parts h (hes x ((ord_perm es).mem_iff.mp hx)).2 cx
theorem ord_short {l : List (Key × Val)} (h : l.length ≤ 1) : ordE o l = l := by
  unfold ordE
  split
  · match l, h with
    | [], _ => simp
    | [x], _ => simp
  · rfl
theorem carry_inj2 (h : Low o r) : ∀ {k : Nat} {d e w : Val}, Rz.parts k d ≤ 2 → Rz.parts k e ≤ 2 → Ok k d → Ok k e → Rz.carry o r k d = some w → Rz.carry o r k e = some w → d = e
  | 0, d, e, w, _, _, hd, he, h1, h2 => (carry_leaf h hd h1).symm.trans (carry_leaf h he h2)
  | k + 1, d, e, w, pd, pe, hd, he, h1, h2 => by
    rcases carry_shape h hd h1 with ⟨f1, e1⟩ | ⟨l, zs, rfl, ⟨_, hl⟩, q1, e1⟩ | ⟨es, zs, rfl, ⟨_, _, hes⟩, hs, q1, e1⟩ <;> rcases carry_shape h he h2 with ⟨f2, e2⟩ | ⟨m, zs2, rfl, ⟨_, hm⟩, q2, e2⟩ | ⟨es2, zs2, rfl, ⟨_, _, hes2⟩, hs2, q2, e2⟩
    · exact e1.symm.trans e2
    · rw [e1] at e2; subst e2; cases f1
    · rw [e1] at e2; subst e2; cases f1
    · rw [e2] at e1; subst e1; cases f2
    · rw [e1] at e2
      injection e2 with _ e3
      subst e3
      rw [allS_inj (fun x hx y hy w => carry_inj2 h (Nat.le_trans (sum_mem (f := Rz.parts k) hx) (by have : 1 + (l.map (Rz.parts k)).sum ≤ 2 := pd; omega)) (Nat.le_trans (sum_mem (f := Rz.parts k) hy) (by have : 1 + (m.map (Rz.parts k)).sum ≤ 2 := pe; omega)) (hl x hx) (hm y hy)) q1 q2]
    · rw [e1] at e2; cases e2
    · rw [e2] at e1; subst e1; cases f2
    · rw [e1] at e2; cases e2
    · rw [e1] at e2
      injection e2 with e3
      subst e3
      have pd : 1 + (es.map fun e => Rz.parts k e.2).sum ≤ 2 := pd
      have pe : 1 + (es2.map fun e => Rz.parts k e.2).sum ≤ 2 := pe
      have s1 := sum_len (f := fun e : Key × Val => Rz.parts k e.2) (fun _ => parts_pos _ _) es
      have s2 := sum_len (f := fun e : Key × Val => Rz.parts k e.2) (fun _ => parts_pos _ _) es2
      rw [ord_short (by omega)] at q1 q2
      rw [allS_inj (fun x hx y hy w a b => ?_) q1 q2]
      have px : Rz.parts k x.2 ≤ 2 := Nat.le_trans (sum_mem (f := fun e : Key × Val => Rz.parts k e.2) hx) (by omega)
      have py : Rz.parts k y.2 ≤ 2 := Nat.le_trans (sum_mem (f := fun e : Key × Val => Rz.parts k e.2) hy) (by omega)
      have kx := hes x hx
      have ky := hes2 y hy
      have ix := List.any_eq_false.mp hs x hx
      have iy := List.any_eq_false.mp hs2 y hy
      obtain ⟨xk, xv⟩ := x
      obtain ⟨yk, yv⟩ := y
      dsimp only at a b kx ky ix iy px py
      cases cx : Rz.carry o r k xv with
      | none => rw [cx] at a; cases a
      | some u =>
        cases cy : Rz.carry o r k yv with
        | none => rw [cy] at b; cases b
        | some v =>
          rw [cx] at a
          rw [cy] at b
          have ab := (Option.some.inj a).trans (Option.some.inj b).symm
          injection ab with a1 a2
          subst a2
          cases xk with
          | inl i => exact absurd rfl ix
          | inr x =>
            cases yk with
            | inl i => exact absurd rfl iy
            | inr y => rw [bk_inj kx.1 ky.1 a1, carry_inj2 h px py kx.2 ky.2 cx cy]
end
end
end Kt
set_option Elab.async false
set_option linter.all false
set_option maxRecDepth 100000
set_option maxHeartbeats 4000000
namespace Kt
open PySem PySem.Spec PyProof.Rows L2 Rz _root_.TL
section
variable {P : Program} {w : World} {K : PySem.W.Frag} {mg : Str → Option Value} {base : Heap}
section
variable {o : Opt} {r : ROpt}
theorem carry_leaf1 (h : o.ln = "keep" ∨ o.ln = "refuse") {k : Nat} {d w : Val} (hd : okF d) (e : Rz.carry o r k d = some w) : w = d := by
  have n1 : ∀ t l, d ≠ .seq t l := fun t l z => by subst z; cases hd
  have n2 : ∀ es, d ≠ .tab es := fun es z => by subst z; cases hd
  unfold Rz.carry at e
  rw [raw_leaf n1 n2] at e
  cases q : rawF o d with
  | none => rw [q] at e; cases e
  | some z =>
    rw [q] at e
    have hz := rawF_low h q
    subst hz
    have : bldV r k z = some z := bld_leaf n1 n2
    rw [show (some z).bind (bldV r k) = bldV r k z from rfl, this] at e
    exact (Option.some.inj e).symm
theorem c_nilk (k : Nat) : Rz.carry o r (k + 1) (.tab []) = some (.tab []) := by
  have e0 : rawV o (k + 1) (.tab []) = some (.tab []) := by simp [rawV, bad, kept, ordE, dup, allS]
  unfold Rz.carry
  rw [e0]
  show bldV r (k + 1) (.tab []) = _
  simp [bldV, dubB, allS, outB, fputs]
theorem one_shape (htp : (o.tp == "refuse") = true) (hln : o.ln = "keep" ∨ o.ln = "refuse") {k : Nat} {d w : Val} (hp : Rz.parts k d ≤ 1) (hd : Ok k d) (e : Rz.carry o r k d = some w) :
    (okF d ∧ w = d) ∨ (d = .seq true [] ∧ w = .seq (!(r.ls == "tuple")) []) ∨ (d = .tab [] ∧ w = .tab []) := by
  cases k with
  | zero => exact .inl ⟨hd, carry_leaf1 hln hd e⟩
  | succ k =>
    rcases hd with hd | ⟨t, l, rfl, h1, h2⟩ | ⟨es, rfl, h1, h2, h3⟩
    · exact .inl ⟨hd, carry_leaf1 hln hd e⟩
    · have hp : 1 + (l.map (Rz.parts k)).sum ≤ 1 := hp
      have := sum_len (f := Rz.parts k) (parts_pos k) l
      have hl : l = [] := List.length_eq_zero_iff.mp (by omega)
      subst hl
      cases t with
      | false =>
        have : Rz.carry o r (k + 1) (.seq false []) = none := by
          show (if (!false && o.tp == "refuse") = true then none else _).bind _ = none
          rw [htp]
          rfl
        rw [this] at e
        cases e
      | true =>
        rw [carry_row] at e
        exact .inr (.inl ⟨rfl, (Option.some.inj e).symm⟩)
    · have hp : 1 + (es.map fun e => Rz.parts k e.2).sum ≤ 1 := hp
      have := sum_len (f := fun e : Key × Val => Rz.parts k e.2) (fun _ => parts_pos _ _) es
      have hl : es = [] := List.length_eq_zero_iff.mp (by omega)
      subst hl
      rw [c_nilk] at e
      exact .inr (.inr ⟨rfl, (Option.some.inj e).symm⟩)
/-- values of one part are not confused -/
theorem one_inj (htp : (o.tp == "refuse") = true) (hln : o.ln = "keep" ∨ o.ln = "refuse") {k : Nat} {d e w : Val} (pd : Rz.parts k d ≤ 1) (pe : Rz.parts k e ≤ 1) (hd : Ok k d) (he : Ok k e) (h1 : Rz.carry o r k d = some w) (h2 : Rz.carry o r k e = some w) : d = e := by
  rcases one_shape htp hln pd hd h1 with ⟨f1, e1⟩ | ⟨rfl, e1⟩ | ⟨rfl, e1⟩ <;> rcases one_shape htp hln pe he h2 with ⟨f2, e2⟩ | ⟨rfl, e2⟩ | ⟨rfl, e2⟩
  · exact e1.symm.trans e2
  · rw [e1] at e2; subst e2; cases f1
  · rw [e1] at e2; subst e2; cases f1
  · rw [e2] at e1; subst e1; cases f2
  · rfl
  · rw [e1] at e2; cases e2
  · rw [e2] at e1; subst e1; cases f2
  · rw [e1] at e2; cases e2
  · rfl
end
end
end Kt
set_option Elab.async false
set_option linter.all false
set_option maxRecDepth 100000
set_option maxHeartbeats 4000000
namespace Kt
open PySem PySem.Spec PyProof.Rows L2 Rz _root_.TL
section
variable {P : Program} {w : World} {K : PySem.W.Frag} {mg : Str → Option Value} {base : Heap}
section
variable {o : Opt} {r : ROpt}
theorem raw_onek (k : Nat) {e : Key × Val} : rawV o (k + 1) (.tab [e]) = if bad o [e] then none else (allS ((kept o [e]).map (pairT (rawV o k)))).map Val.tab := by
  have l : (kept o [e]).length ≤ 1 := List.length_filter_le _ _
  have ed : dup o (kept o [e]) = false := by
    unfold dup
    match hk : kept o [e], l with
    | [], _ => simp
    | [x], _ => simp
  show (if bad o [e] then none else if dup o (ordE o (kept o [e])) then none else (allS ((ordE o (kept o [e])).map (pairT (rawV o k)))).map fun zs => Val.tab zs) = _
  rw [ord_short l, ed]
  rfl
/-- a value of two parts comes back with at least two -/
theorem two_parts (htp : (o.tp == "refuse") = true) (hnl : (o.nl == "skip") = false) (hni : (r.ni == "keep") = true) (hnk : o.nk = "text" ∨ o.nk = "refuse") {k : Nat} {d w : Val} (hp : Rz.parts k d = 2) (e : Rz.carry o r k d = some w) : 2 ≤ Rz.parts k w := by
  cases k with
  | zero => cases hp
  | succ k =>
    cases d with
    | seq t l =>
      cases t with
      | false =>
        have : Rz.carry o r (k + 1) (.seq false l) = none := by
          show (if (!false && o.tp == "refuse") = true then none else _).bind _ = none
          rw [htp]
          rfl
        rw [this] at e
        cases e
      | true =>
        rw [carry_row] at e
        cases q : allS (l.map (Rz.carry o r k)) with
        | none => rw [q] at e; cases e
        | some zs =>
          rw [q] at e
          have ew : w = .seq (!(r.ls == "tuple")) zs := (Option.some.inj e).symm
          subst ew
          have a := allS_len q
          rw [List.length_map] at a
          have hp : 1 + (l.map (Rz.parts k)).sum = 2 := hp
          have hl : l ≠ [] := fun z => by subst z; simp at hp
          have := List.length_pos_iff.mpr hl
          have b := sum_len (f := Rz.parts k) (parts_pos k) zs
          show 2 ≤ 1 + (zs.map (Rz.parts k)).sum
          omega
    | tab es =>
      have hp : 1 + (es.map fun e => Rz.parts k e.2).sum = 2 := hp
      have b := sum_len (f := fun e : Key × Val => Rz.parts k e.2) (fun _ => parts_pos _ _) es
      match es, hp, b, e with
      | [], hp, _, _ => simp at hp
      | _ :: _ :: _, hp, b, _ => simp only [List.length_cons] at b; omega
      | [en], _, _, e =>
        have hs : Rz.seen o en = true := by unfold Rz.seen; rw [hnl, Bool.and_false]; rfl
        unfold Rz.carry at e
        rw [raw_onek] at e
        cases hb : bad o [en] with
        | true => rw [hb] at e; cases e
        | false =>
          rw [hb] at e
          have hk : kept o [en] = [en] := by
            unfold kept
            refine List.filter_eq_self.mpr fun x hx => ?_
            rw [List.mem_singleton.mp hx, hs]
            unfold bad at hb
            simp only [List.any_cons, List.any_nil, hs, Bool.true_and, Bool.or_false] at hb
            rcases hnk with h | h
            · rw [h]; simp
            · rw [h] at hb
              cases hi : isI en.1 with
              | true => rw [hi] at hb; simp at hb
              | false => rfl
          rw [hk] at e
          cases q : rawV o k en.2 with
          | none => simp [allS, pairT, q] at e
          | some z =>
            have e2 : bldV r (k + 1) (.tab [(.inr (keyT en.1), z)]) = some w := by simpa [allS, pairT, q] using e
            cases q2 : bldV r k z with
            | none => simp [bldV, dubB, allS, pairB, q2] at e2
            | some y =>
              have e3 : w = .tab [(bk r (.inr (keyT en.1)), y)] := by
                have hh : ∀ u : Key × Val, heldB r u = true := fun u => by unfold heldB; rw [hni, Bool.or_true]
                have : some (Val.tab [(bk r (.inr (keyT en.1)), y)]) = some w := by
                  rw [← e2]
                  simp [bldV, dubB, allS, pairB, q2, outB, fputs, fput, hh]
                exact (Option.some.inj this).symm
              subst e3
              have := parts_pos k y
              show 2 ≤ 1 + ([(bk r (.inr (keyT en.1)), y)].map fun e => Rz.parts k e.2).sum
              simp
              omega
    | _ => cases hp
end
end
end Kt
set_option Elab.async false
set_option linter.all false
set_option maxRecDepth 100000
set_option maxHeartbeats 4000000
namespace Kt
open PySem PySem.Spec PyProof.Rows L2 Rz _root_.TL
section
variable {P : Program} {w : World} {K : PySem.W.Frag} {mg : Str → Option Value} {base : Heap}
section
variable {o : Opt} {r : ROpt}
theorem conf_some {k : Nat} {d e : Val} (h : confB o r k d e) : ∃ w, Rz.carry o r k d = some w ∧ Rz.carry o r k e = some w := by
  obtain ⟨h1, h2⟩ := h
  unfold carryL at h1 h2
  cases q : Rz.carry o r k d with
  | none => rw [q] at h1; exact absurd rfl h1
  | some w =>
    cases q2 : Rz.carry o r k e with
    | none => rw [q, q2] at h2; cases h2
    | some v =>
      rw [q, q2] at h2
      have : w = v := by simpa using h2
      subst this
      exact ⟨w, rfl, rfl⟩
/-- THE LAW, plainly: where the list finds none, none are confused -/
theorem law_none (ho : o.ok) (h : ∀ q ∈ pairsV, ¬ confB o r 1 q.1 q.2) {k : Nat} {d e : Val} (hd : Ok k d) (he : Ok k e) (hc : confB o r k d e) : d = e := by
  obtain ⟨w, h1, h2⟩ := conf_some hc
  have no : ∀ (j : Nat) (q : Val × Val), pairsV[j]? = some q → ¬ confB o r 1 q.1 q.2 := fun j q hq => h q (List.mem_of_getElem? hq)
  obtain ⟨n3, n3'⟩ := p3_nl (no 2 _ rfl)
  exact carry_inj ⟨p1_tp (no 0 _ rfl), p2_ln ho (no 1 _ rfl), n3, n3', p5_nk (p4_nk ho (no 3 _ rfl)) (no 4 _ rfl)⟩ (p6_od ho (no 5 _ rfl)) hd he h1 h2
/-- .. and what it finds has the fewest parts -/
theorem law_found (ho : o.ok) {i : Nat} {pr : Val × Val} (hf : FoundP o r i pr) {k : Nat} {d e : Val} (hd : Ok k d) (he : Ok k e) (hn : d ≠ e) (hc : confB o r k d e) : Rz.parts 1 pr.1 + Rz.parts 1 pr.2 ≤ Rz.parts k d + Rz.parts k e := by
  obtain ⟨w, h1, h2⟩ := conf_some hc
  obtain ⟨hi, _, hb⟩ := hf
  have pd := parts_pos k d
  have pe := parts_pos k e
  have no : ∀ (j : Nat) (q : Val × Val), j < i → pairsV[j]? = some q → ¬ confB o r 1 q.1 q.2 := fun j q hj hq => hb q (List.mem_of_getElem? (i := j) (by rw [List.getElem?_take, if_pos hj]; exact hq))
  match i, hi, no with
  | 0, hi, _ => cases hi; show 1 + 1 ≤ _; omega
  | 1, hi, _ => cases hi; show 1 + 1 ≤ _; omega
  | 2, hi, no =>
    cases hi
    show 1 + 2 ≤ _
    by_cases hle : Rz.parts k d + Rz.parts k e ≤ 2
    · exact absurd (one_inj (p1_tp (no 0 _ (by omega) rfl)) (p2_ln ho (no 1 _ (by omega) rfl)) (by omega) (by omega) hd he h1 h2) hn
    · omega
  | 3, hi, no =>
    cases hi
    show 1 + 2 ≤ _
    by_cases hle : Rz.parts k d + Rz.parts k e ≤ 2
    · exact absurd (one_inj (p1_tp (no 0 _ (by omega) rfl)) (p2_ln ho (no 1 _ (by omega) rfl)) (by omega) (by omega) hd he h1 h2) hn
    · omega
  | 4, hi, no =>
    cases hi
    show 2 + 2 ≤ _
    have tp := p1_tp (no 0 _ (by omega) rfl)
    have ln := p2_ln ho (no 1 _ (by omega) rfl)
    obtain ⟨n3, n3'⟩ := p3_nl (no 2 _ (by omega) rfl)
    have n4 := p4_nk ho (no 3 _ (by omega) rfl)
    by_cases hle : Rz.parts k d + Rz.parts k e ≤ 3
    · exfalso
      have one : ∀ {x y : Val}, Ok k x → Rz.parts k x ≤ 1 → Rz.parts k y = 2 → Rz.carry o r k x = some w → Rz.carry o r k y = some w → False := fun {x y} ox px py c1 c2 => by
        have g := two_parts tp n3 n3' n4 py c2
        rcases one_shape tp ln px ox c1 with ⟨f1, e1⟩ | ⟨rfl, e1⟩ | ⟨rfl, e1⟩
        · rw [e1] at g; omega
        · rw [e1] at g; cases k with
          | zero => simp [Rz.parts] at g
          | succ k => simp [Rz.parts] at g
        · rw [e1] at g; omega
      by_cases a : Rz.parts k d ≤ 1
      · by_cases b : Rz.parts k e ≤ 1
        · exact hn (one_inj tp ln a b hd he h1 h2)
        · exact one hd a (by omega) h1 h2
      · exact one he (by omega) (by omega) h2 h1
    · omega
  | 5, hi, no =>
    cases hi
    show 3 + 3 ≤ _
    obtain ⟨n3, n3'⟩ := p3_nl (no 2 _ (by omega) rfl)
    have low : Low o r := ⟨p1_tp (no 0 _ (by omega) rfl), p2_ln ho (no 1 _ (by omega) rfl), n3, n3', p5_nk (p4_nk ho (no 3 _ (by omega) rfl)) (no 4 _ (by omega) rfl)⟩
    have c1 := carry_parts low hd h1
    have c2 := carry_parts low he h2
    by_cases hle : Rz.parts k d ≤ 2
    · exact absurd (carry_inj2 low hle (by omega) hd he h1 h2) hn
    · omega
  | i + 6, hi, _ => simp [pairsV] at hi
end
end
end Kt
set_option Elab.async false
set_option linter.all false
set_option maxRecDepth 100000
set_option maxHeartbeats 4000000
namespace Kt
open PySem PySem.Spec PyProof.Rows L2 Rz _root_.TL
section
variable {P : Program} {w : World} {K : PySem.W.Frag} {mg : Str → Option Value} {base : Heap}
theorem Paired.drop {α β : Type} {F : α → β → Prop} : ∀ {l : List α} {m : List β} (n : Nat), Paired F l m → Paired F (l.drop n) (m.drop n)
  | _, _, 0, h => h
  | _, _, _ + 1, .nil => .nil
  | _, _, n + 1, .cons _ t => Paired.drop n t
theorem Paired.app {α β : Type} {F : α → β → Prop} : ∀ {a : List α} {b : List β} {a2 : List α} {b2 : List β}, Paired F a b → Paired F a2 b2 → Paired F (a ++ a2) (b ++ b2)
  | _, _, _, _, .nil, h => h
  | _, _, _, _, .cons r t, h => .cons r (Paired.app t h)
theorem cutV_to {xs : List V} {i : Nat} (h : i ≤ xs.length) : cutV xs none (some (i : Int)) = xs.take i := by
  unfold cutV
  rw [HT.sIx_none, HT.sIx_nat, List.drop_zero, Nat.sub_zero, Nat.min_eq_left h]
theorem cutV_from {xs : List V} {i : Nat} : cutV xs (some (i : Int)) none = xs.drop i := by
  unfold cutV
  rw [HT.sIx_none, HT.sIx_nat]
  by_cases h : i ≤ xs.length
  · rw [Nat.min_eq_left h, List.take_of_length_le (by rw [List.length_drop]; exact Nat.le_refl _)]
  · rw [Nat.min_eq_right (by omega), List.drop_of_length_le (Nat.le_refl _), List.drop_of_length_le (by omega), List.take_nil]
theorem slB {t : Bool} {H : Hp} {a : Addr} {xs : List V} {lo hi : Option Int} {Q : VK} (h : SqB K t H a xs) (hw : ¬ (HT.sIx xs.length 0 lo = 0 ∧ HT.sIx xs.length xs.length hi = xs.length)) (q : ∀ p H', H p = none → Same H H' → SqB K t H' p (cutV xs lo hi) → Q (.ref p) H') : rSlL K (.ref a) lo hi H Q ∨ rSlT K (.ref a) lo hi H Q := by
  cases t with
  | true => exact .inl ⟨a, xs, rfl, h, fun p hp => q p _ hp (Same.nu hp) (SqL.of upd_same)⟩
  | false => exact .inr ⟨a, xs, rfl, h, hw, fun p hp => q p _ hp (Same.nu hp) (SqT.of upd_same)⟩
theorem not_of_same {H H' : Hp} {b : Addr} (s : Same H H') (h : H' b = none) : H b = none := by
  cases z : H b with
  | none => rfl
  | some o => rw [s _ _ z] at h; cases h
/-- what the makers of changes are given -/
structure Nv (H : Hp) (p t : Addr) (n : Nat) (ps : List Addr) : Prop where
  gd : Dr H p n
  gt : TL H t
  tn : t ≠ p
  hs : Has H ps
  pp : p ∈ ps
theorem Nv.to {H H' : Hp} {p t : Addr} {n m : Nat} {ps : List Addr} (g : Nv H p t n ps) (s : Sx [p] H H') (d : Dr H' p m) : Nv H' p t m ps :=
  ⟨d, g.gt.sx (by simpa using g.tn) s, g.tn, g.hs.sx2 (r := p) (s.mono (by simp)) d.some d.some, g.pp⟩
theorem Nv.cons {H : Hp} {p t : Addr} {n : Nat} {ps : List Addr} {L : Addr} {o : HO} (g : Nv H p t n ps) (h : H L = some o) : Nv H p t n (L :: ps) :=
  ⟨g.gd, g.gt, g.tn, fun b hb => by
    rcases List.mem_cons.mp hb with z | z
    · rw [z, h]; simp
    · exact g.hs b z, List.mem_cons_of_mem _ g.pp⟩
theorem cut_p {H H' : Hp} {p : Addr} {ps : List Addr} (s : Sx [p] H H') (hp : p ∈ ps) : Same (cut H ps) (cut H' ps) := cut_sx (s.mono fun b hb => by
  rw [List.mem_singleton.mp hb]; exact hp)
theorem cut_not {H : Hp} {ps : List Addr} {b : Addr} {o : HO} (h : cut H ps b = some o) : b ∉ ps := by
  unfold cut at h
  split at h
  · cases h
  · assumption
def nrN (k : Nat) : Nat := 4 * (k + 1)
def spNear (K : PySem.W.Frag) (k : Nat) : Sp := fun vs H Q _ => ∃ (p t : Addr) (x : V) (d : Val) (n : Nat) (ps : List Addr), vs = [.ref p, x, .ref t] ∧ Nv H p t n ps ∧ n + nrN k ≤ 400000 ∧ VAt (CT K) (cut H ps) k x d ∧ Ok k d ∧
  ∀ y e H', VAt (CT K) (cut H' ps) (k + 1) y e → Ok (k + 1) e → Dr H' p (n + nrN k) → Sx [p] H H' → Q y H'
def spNRow (K : PySem.W.Frag) (k : Nat) : Sp := fun vs H Q _ => ∃ (p t : Addr) (x : V) (b : Bool) (l : List Val) (n : Nat) (ps : List Addr), vs = [.ref p, x, .ref t] ∧ Nv H p t n ps ∧ n + nrN (k + 1) ≤ 400000 ∧ 0 < l.length ∧ VAt (CT K) (cut H ps) (k + 1) x (.seq b l) ∧ Ok (k + 1) (.seq b l) ∧
  ∀ y e H', VAt (CT K) (cut H' ps) (k + 2) y e → Ok (k + 2) e → Dr H' p (n + nrN (k + 1)) → Sx [p] H H' → Q y H'
theorem ok__law_near_row (T : Tx w K mg) (k lev : Nat) (hlev : 2 ≤ lev) (G__law_near : Gd P w K base mg CX0 lev (He.fAd K d__law_near.at_) ["_law_source_here", "_law_value_here", "_law_twins_here"] [] (spNear K k)) :
    Gd P w K base mg CX0 (lev + 1) (He.fAd K d__law_near_row.at_) ["_law_source_here", "_law_items", "_law_twins_here"] [] (spNRow K k) := by
  have G__law_draw := ok__law_draw (P := P) (w := w) (base := base) T
  refine mkGd (T.f__law_near_row) sc__law_near_row (fun vs H Q E h => ?_) (fun _ _ _ _ _ _ us hl => match us, hl with | [_, _, _], _ => rfl) (fun cdv A outer s H vs Q E hr h => ?_)
  · obtain ⟨p, t, x, b, l, n, ps, rfl, _⟩ := h
    rfl
  · have hu := hu_of hr
    obtain ⟨p, t, x, b, l, n, ps, rfl, g, hn, hl0, hv, ok, q⟩ := h
    obtain ⟨j, a, xs, ej, rfl, ha, hx⟩ := at_list hv
    cases ej
    obtain ⟨h4, hok⟩ := ok_list ok
    have hl := Paired.length hx
    have en : nrN (k + 1) = nrN k + 4 := by unfold nrN; omega
    rw [en] at hn q
    have e4 : 4 ≤ nrN k := by unfold nrN; omega
    have hap := cut_not ha
    have hap1 : a ≠ p := fun z => hap (by rw [z]; exact g.pp)
    have ha0 := cut_le _ _ ha
    refine ⟨_, (pss_cons (ps_par (i := 3) (j := 4) (by rfl) sc__law_near_row.nd rfl rfl (by decide) rfl rfl (pa_cons (pe_callG G__law_draw T.g__law_draw (hr.mono (by first | decide | omega)) pass0 (pa_cons (pv 0) (pa_cons (pe_callB call_len_seq (by rfl) T.n_len PySem.boot_len (pa_cons (pv 1) pa_nil)) pa_nil))) (pa_cons (pe_callG G__law_draw T.g__law_draw (hr.mono (by first | decide | omega)) pass0 (pa_cons (pv 0) (pa_cons pe_int pa_nil))) pa_nil)) (by rfl))
      (pss_cons (ps_set (i := 5) sc__law_near_row.nd rfl (Or.inl rfl) (pe_op op_cat (pe_callTy call_list_of (by rfl) T.n_list (by decide +kernel) (pa_cons (pe_slice (sl_list.or sl_tup) (pv 1) po_none (po_some (pv 3))) pa_nil)) (pe_callTy call_list_of (by rfl) T.n_list (by decide +kernel) (pa_cons (pe_slice (sl_list.or sl_tup) (pv 1) (po_some (pe_op op_add (pv 3) pe_int)) po_none) pa_nil))))
      (pss_cons (ps_if (pt_cmpR op_eq (pv 4) pe_int (nomark _)) (pss_one (ps_ret (pe_ix (r := rIx K) ix_seq (pv 1) (pv 3) (fun _ _ => rfl)))) pss_nil)
      (pss_cons (ps_if (pt_cmpR op_eq (pv 4) pe_int (nomark _)) (pss_one (ps_ret (pe_ifExp (pt_val (pe_callB call_isi (by rfl) T.n_isinstance (by decide +kernel) (pa_cons (pv 1) (pa_cons (pe_bltn (v := .ty "list") (u := .type "list") (by rfl) T.n_list (by decide +kernel) rfl) pa_nil)))) (pv 5) (pe_callTy call_tuple_of (by rfl) T.n_tuple (by decide +kernel) (pa_cons (pv 5) pa_nil))))) pss_nil)
      (pss_cons (ps_if (pt_cmpR op_eq (pv 4) pe_int (nomark _)) (pss_one (ps_ret (pe_ifExp (pt_val (pe_callB call_isi (by rfl) T.n_isinstance (by decide +kernel) (pa_cons (pv 1) (pa_cons (pe_bltn (v := .ty "list") (u := .type "list") (by rfl) T.n_list (by decide +kernel) rfl) pa_nil)))) (pe_callTy call_tuple_of (by rfl) T.n_tuple (by decide +kernel) (pa_cons (pv 1) pa_nil)) (pe_callTy call_list_of (by rfl) T.n_list (by decide +kernel) (pa_cons (pv 1) pa_nil))))) pss_nil)
      (pss_cons (ps_expr (pe_bm PySem.F.plainAttrs_list PySem.F.slot_list_insert PySem.F.type_list_insert mt_insert (pv 5) (pa_cons (pv 3) (pa_cons (pe_callG G__law_near T.g__law_near (hr.mono (by first | decide | omega)) pass0 (pa_cons (pv 0) (pa_cons (pe_ix (r := rIx K) ix_seq (pv 1) (pv 3) (fun _ _ => rfl)) (pa_cons (pv 2) pa_nil)))) pa_nil))))
      (pss_one (ps_ret (pe_ifExp (pt_val (pe_callB call_isi (by rfl) T.n_isinstance (by decide +kernel) (pa_cons (pv 1) (pa_cons (pe_bltn (v := .ty "list") (u := .type "list") (by rfl) T.n_list (by decide +kernel) rfl) pa_nil)))) (pv 5) (pe_callTy call_tuple_of (by rfl) T.n_tuple (by decide +kernel) (pa_cons (pv 5) pa_nil))))))))))), ?_⟩
    refine ⟨_, rfl, _, rfl, a, xs, rfl, sqB_or (sqB_of ha0), p, n, _, rfl, g.gd, by omega, by omega, by omega, fun i H0 i0 i1 D0 s0 => ⟨_, rfl, p, n + 1, 5, rfl, D0, by omega, by decide, by decide, fun rd H1 r0 r1 D1 s1 => ⟨_, _, rfl, ?_⟩⟩⟩
    obtain ⟨i, rfl⟩ : ∃ m : Nat, i = (m : Int) := ⟨i.toNat, by omega⟩
    have s01 := s0.trans s1
    have hi : i < xs.length := by omega
    have g1 := g.to s01 D1
    have ha1 : SqB K b H1 a xs := sqB_of (s01.one hap1 ha0)
    have hx1 : Paired (VAt (CT K) (cut H1 ps) k) xs l := Paired.mapP hx fun _ _ h => VAt.same (cut_p s01 g.pp) h
    refine ⟨_, rfl, _, rfl, _, rfl, slB ha1 (by rw [HT.sIx_nat]; omega) fun p1 H2 hp1 s2 h2 => ⟨p1, _, rfl, sqB_or h2, fun l1 hl1 => ?_⟩⟩
    have ec1 : cutV xs none (some (i : Int)) = xs.take i := cutV_to (Nat.le_of_lt hi)
    have ec2 : cutV xs (some ((i : Int) + 1)) none = xs.drop (i + 1) := cutV_from (i := i + 1)
    rw [ec1] at h2 ⊢
    have n2 := s2.trans (Same.nu (o := .lst (xs.take i)) hl1)
    have t2 : upd H2 l1 (.lst (xs.take i)) l1 = some (.lst (xs.take i)) := upd_same
    generalize upd H2 l1 (.lst (xs.take i)) = H2' at n2 t2 ⊢
    refine ⟨_, rfl, _, rfl, _, _, rfl, rfl, _, rfl, slB (sqB_same n2 ha1) (by have := HT.sIx_nat xs.length 0 (i + 1); rw [show (some ((i : Int) + 1)) = some ((i + 1 : Nat) : Int) from rfl, this]; omega) fun p2 H3 hp2 s3 h3 => ⟨p2, _, rfl, sqB_or h3, fun l2 hl2 => ?_⟩⟩
    rw [ec2] at h3 ⊢
    have n3 := s3.trans (Same.nu (o := .lst (xs.drop (i + 1))) hl2)
    have t3 : upd H3 l2 (.lst (xs.drop (i + 1))) l2 = some (.lst (xs.drop (i + 1))) := upd_same
    generalize upd H3 l2 (.lst (xs.drop (i + 1))) = H3' at n3 t3 ⊢
    refine ⟨l1, l2, _, _, rfl, rfl, n3 _ _ t2, t3, Nat.le_of_lt (small1000 (by rw [List.length_take, List.length_drop]; omega)), fun L hL => ?_⟩
    have n4 := (n2.trans n3).trans (Same.nu (o := .lst (xs.take i ++ xs.drop (i + 1))) hL)
    have hL1 : H1 L = none := not_of_same (n2.trans n3) hL
    have t4 : upd H3' L (.lst (xs.take i ++ xs.drop (i + 1))) L = some (.lst (xs.take i ++ xs.drop (i + 1))) := upd_same
    generalize upd H3' L (.lst (xs.take i ++ xs.drop (i + 1))) = H4 at n4 t4 ⊢
    have hLps : L ∉ ps := g1.hs.new hL1
    have hv4 : VAt (CT K) (cut H4 ps) (k + 1) (.ref a) (.seq b l) := VAt.same (cut_sx (Sx.of n4)) (VAt.same (cut_p s01 g.pp) hv)
    have hx4 : Paired (VAt (CT K) (cut H4 ps) k) xs l := Paired.mapP hx1 fun _ _ h => VAt.same (cut_sx (Sx.of n4)) h
    have hx5 : Paired (VAt (CT K) (cut H4 (L :: ps)) k) xs l := Paired.mapP hx1 fun _ _ h => VAt.same (cut_add hL1 n4) h
    have D4 := D1.same n4
    have s04 := s01.sm n4
    have g4 := g.to s04 D4
    have lr : (l.take i ++ l.drop (i + 1)).length ≤ 3 := by rw [List.length_append, List.length_take, List.length_drop]; omega
    have okr : ∀ y ∈ l.take i ++ l.drop (i + 1), Ok k y := fun y hy => by
      rcases List.mem_append.mp hy with z | z
      · exact hok y (List.mem_of_mem_take z)
      · exact hok y (List.mem_of_mem_drop z)
    obtain ⟨x0, hx0⟩ : ∃ x0, xs[i]? = some x0 := ⟨_, List.getElem?_eq_getElem hi⟩
    obtain ⟨e0, he0, hv0⟩ := Paired.at hx5 hx0
    have ha4 := sqB_same n4 ha1
    refine ⟨_, rfl, rfl, _, rfl, ite2 (fun _ => ⟨_, rfl, _, rfl, ix_of ha4 hx0 ?_⟩) (fun _ => ⟨_, rfl, rfl, _, rfl, ite2 (fun _ => ?_) (fun _ => ⟨_, rfl, rfl, _, rfl, ite2 (fun _ => ?_) (fun _ => ?_)⟩)⟩)⟩
    · exact q x0 e0 H4 (VAt.up (VAt.up (VAt.same (cut_mono fun b hb => List.mem_cons_of_mem _ hb) hv0))) (Ok.up (Ok.up (hok e0 (List.mem_of_getElem? he0)))) (D4.up (by omega)) s04
    · obtain ⟨t2, y2, k2⟩ := isi T "list" cut_le hv4
      have pr : Paired (VAt (CT K) (cut H4 ps) (k + 1)) (xs.take i ++ xs.drop (i + 1)) (l.take i ++ l.drop (i + 1)) := Paired.mapP (Paired.app (Paired.taken i hx4) (Paired.drop (i + 1) hx4)) fun _ _ h => VAt.up h
      have okk : ∀ b : Bool, Ok (k + 2) (.seq b (l.take i ++ l.drop (i + 1))) := fun b => .inr (.inl ⟨b, _, rfl, by omega, fun y hy => Ok.up (okr y hy)⟩)
      refine ⟨_, rfl, _, _, t2, _, _, rfl, .ty _, y2, k2, _, rfl, ?_⟩
      cases b with
      | true => exact iteT ⟨_, rfl, q (.ref L) _ H4 (.inr (.inl ⟨true, _, L, _, rfl, rfl, cut_at hLps t4, pr⟩)) (okk true) (D4.up (by omega)) s04⟩
      | false =>
        refine iteF ⟨_, rfl, L, _, rfl, .inl ⟨SqL.of t4, fun q2 hq2 => ?_⟩⟩
        exact q (.ref q2) _ _ (.inr (.inl ⟨false, _, q2, _, rfl, rfl, cut_at (g4.hs.new hq2) upd_same, Paired.mapP pr fun _ _ h => VAt.same (cut_put hq2) h⟩)) (okk false) ((D4.same (Same.nu hq2)).up (by omega)) (s04.sm (Same.nu hq2))
    · obtain ⟨t2, y2, k2⟩ := isi T "list" cut_le hv4
      have pr : Paired (VAt (CT K) (cut H4 ps) (k + 1)) xs l := Paired.mapP hx4 fun _ _ h => VAt.up h
      have okk : ∀ b : Bool, Ok (k + 2) (.seq b l) := fun b => .inr (.inl ⟨b, _, rfl, h4, fun y hy => Ok.up (hok y hy)⟩)
      refine ⟨_, rfl, _, _, t2, _, _, rfl, .ty _, y2, k2, _, rfl, ?_⟩
      cases b with
      | true =>
        refine iteT ⟨_, rfl, a, xs, rfl, .inl ⟨ha4, fun q2 hq2 => ?_⟩⟩
        exact q (.ref q2) _ _ (.inr (.inl ⟨false, _, q2, _, rfl, rfl, cut_at (g4.hs.new hq2) upd_same, Paired.mapP pr fun _ _ h => VAt.same (cut_put hq2) h⟩)) (okk false) ((D4.same (Same.nu hq2)).up (by omega)) (s04.sm (Same.nu hq2))
      | false =>
        refine iteF ⟨_, rfl, a, xs, rfl, .inr ha4, fun q2 hq2 => ?_⟩
        exact q (.ref q2) _ _ (.inr (.inl ⟨true, _, q2, _, rfl, rfl, cut_at (g4.hs.new hq2) upd_same, Paired.mapP pr fun _ _ h => VAt.same (cut_put hq2) h⟩)) (okk true) ((D4.same (Same.nu hq2)).up (by omega)) (s04.sm (Same.nu hq2))
    · refine ⟨_, rfl, .inl ⟨rfl, _, SqL.of t4⟩, _, rfl, _, rfl, _, rfl, _, rfl, ix_of ha4 hx0 ⟨_, rfl, p, t, x0, e0, n + 2, L :: ps, rfl, (g.to s04 D4).cons t4, by omega, hv0, hok e0 (List.mem_of_getElem? he0), fun y e H5 hy oky D5 s5 => ?_⟩⟩
      have hLp : L ≠ p := fun z => hLps (by rw [z]; exact g.pp)
      have t5 := s5.one hLp t4
      refine ⟨L, _, (i : Int), y, rfl, rfl, t5, small1000 (by rw [List.length_append, List.length_take, List.length_drop]; omega), by omega, by omega, ?_⟩
      rw [Int.toNat_natCast]
      have hx6 : Paired (VAt (CT K) (cut H5 (L :: ps)) (k + 1)) (xs.take i ++ xs.drop (i + 1)) (l.take i ++ l.drop (i + 1)) := Paired.mapP (Paired.app (Paired.taken i hx5) (Paired.drop (i + 1) hx5)) fun _ _ h => VAt.up (VAt.same (cut_p s5 (List.mem_cons_of_mem _ g.pp)) h)
      have hx7 := Paired.app (Paired.snoc (Paired.taken i hx6) hy) (Paired.drop i hx6)
      generalize hus : (xs.take i ++ xs.drop (i + 1)).take i ++ [y] ++ (xs.take i ++ xs.drop (i + 1)).drop i = us at hx7 ⊢
      have hl7 : ((l.take i ++ l.drop (i + 1)).take i ++ [e] ++ (l.take i ++ l.drop (i + 1)).drop i).length ≤ 4 := by
        rw [List.length_append, List.length_append, List.length_take, List.length_drop, List.length_singleton]
        omega
      have ok7 : ∀ z ∈ (l.take i ++ l.drop (i + 1)).take i ++ [e] ++ (l.take i ++ l.drop (i + 1)).drop i, Ok (k + 1) z := fun z hz => by
        rcases List.mem_append.mp hz with z1 | z1
        · rcases List.mem_append.mp z1 with z2 | z2
          · exact Ok.up (okr _ (List.mem_of_mem_take z2))
          · rw [List.mem_singleton.mp z2]; exact oky
        · exact Ok.up (okr _ (List.mem_of_mem_drop z1))
      generalize (l.take i ++ l.drop (i + 1)).take i ++ [e] ++ (l.take i ++ l.drop (i + 1)).drop i = fs at hx7 hl7 ok7
      have t6 : upd H5 L (.lst us) L = some (.lst us) := upd_same
      have D6 : Dr (upd H5 L (.lst us)) p (n + (nrN k + 4)) := by
        obtain ⟨gg, gk, gc, dp, dd⟩ := D5.up (m := n + (nrN k + 4)) (by omega)
        exact ⟨gg, gk, gc, by rw [upd_ne hLp.symm]; exact dp, dd⟩
      have s06 : Sx [p] H (upd H5 L (.lst us)) := fun b o nb e => by
        have bL : b ≠ L := fun z => by
          have := s01 b o nb e
          rw [z, hL1] at this
          cases this
        rw [upd_ne bL]
        exact s5 b o nb (s04 b o nb e)
      have hx8 : Paired (VAt (CT K) (cut (upd H5 L (.lst us)) ps) (k + 1)) us fs := Paired.mapP hx7 fun _ _ h => VAt.same (cut_mono fun b hb => List.mem_cons_of_mem _ hb) (by rw [cut_cons]; exact h)
      generalize upd H5 L (.lst us) = H6 at t6 D6 s06 hx8 ⊢
      have hv6 : VAt (CT K) (cut H6 ps) (k + 1) (.ref a) (.seq b l) := VAt.same (cut_p s06 g.pp) hv
      obtain ⟨t2, y2, k2⟩ := isi T "list" cut_le hv6
      have okk : ∀ b : Bool, Ok (k + 2) (.seq b fs) := fun b => .inr (.inl ⟨b, _, rfl, hl7, ok7⟩)
      refine ⟨_, rfl, _, _, t2, _, _, rfl, .ty _, y2, k2, _, rfl, ?_⟩
      cases b with
      | true => exact iteT ⟨_, rfl, q (.ref L) _ H6 (.inr (.inl ⟨true, _, L, _, rfl, rfl, cut_at hLps t6, hx8⟩)) (okk true) D6 s06⟩
      | false =>
        refine iteF ⟨_, rfl, L, _, rfl, .inl ⟨SqL.of t6, fun q2 hq2 => ?_⟩⟩
        exact q (.ref q2) _ _ (.inr (.inl ⟨false, _, q2, _, rfl, rfl, cut_at ((g.to s06 D6).hs.new hq2) upd_same, Paired.mapP hx8 fun _ _ h => VAt.same (cut_put hq2) h⟩)) (okk false) (D6.same (Same.nu hq2)) (s06.sm (Same.nu hq2))
end
end Kt
set_option Elab.async false
set_option linter.all false
set_option maxRecDepth 100000
set_option maxHeartbeats 4000000
namespace Kt
open PySem PySem.Spec PyProof.Rows L2 Rz _root_.TL
section
variable {P : Program} {w : World} {K : PySem.W.Frag} {mg : Str → Option Value} {base : Heap}
theorem ent_up {K : PySem.W.Frag} {H : Hp} {ps : List Addr} {k : Nat} {t : V} {e : Key × Val} (h : EntAt K H ps k t e) : EntAt K H ps (k + 1) t e := by
  obtain ⟨b, y, e1, h1, h2⟩ := h
  exact ⟨b, y, e1, h1, VAt.up h2⟩
theorem okE_up {k : Nat} {es : List (Key × Val)} (h : okE k es) : okE (k + 1) es := ⟨h.1, h.2.1, fun e he => ⟨(h.2.2 e he).1, Ok.up (h.2.2 e he).2⟩⟩
/-- Table(l), l a list of entries -/
theorem mkT {k0 : Nat} {K : PySem.W.Frag} {H1 : Hp} {l : Addr} {es : List (Key × Val)} {ts : List V} {ps qs : List Addr} {Q : Addr → Hp → Prop} {E : XK} (hl : H1 l = some (.lst ts)) (hp : Paired (EntAt K H1 qs k0) ts es) (ok : okE k0 es) (hps : Has H1 ps) (hq : ∀ b ∈ ps, b ∈ qs)
    (q : ∀ x H2, Same H1 H2 → VAt (CT K) (cut H2 ps) (k0 + 1) (.ref x) (.tab es) → Q x H2) (x dx : Addr) (hx : H1 x = none) (hd : H1 dx = none) (hn : dx ≠ x) :
    spTable K k0 (.ref x :: ([.ref l] ++ [])) (upd (upd H1 dx (.own x)) x (.ins (CT K) dx [])) (fun v H2 => v = .non ∧ Q x H2) E := by
  have s : Same H1 (upd (upd H1 dx (.own x)) x (.ins (CT K) dx [])) := Same.mk'' (Same.nu hd) hx
  refine ⟨x, l, dx, ts, es, ps, rfl, upd_same, SqL.of (s _ _ hl), hps.sx s, hps.new hx, ?_, ok, fun H2 k hv => ⟨rfl, q x H2 (fun b o e => k b o (ne_of_none e hx) (s _ _ e)) hv⟩⟩
  exact Paired.mapP hp fun t e ⟨b, y, h1, h2, h3⟩ => ⟨b, y, h1, s _ _ h2, VAt.same (fun c o e => by
    have e2 := cut_le _ _ e
    have nc := cut_not e
    refine cut_at (fun z => ?_) (s _ _ e2)
    rcases List.mem_cons.mp z with z | z
    · rw [z, hx] at e2; cases e2
    · exact nc (hq _ z)) h3⟩
theorem ent_p {K : PySem.W.Frag} {H H' : Hp} {p : Addr} {ps : List Addr} {k m : Nat} {t : V} {e : Key × Val} (s : Sx [p] H H') (d : Dr H p m) (hp : p ∈ ps) (h : EntAt K H ps k t e) : EntAt K H' ps k t e := by
  obtain ⟨b, y, e1, h1, h2⟩ := h
  obtain ⟨_, _, _, dp, _⟩ := d
  exact ⟨b, y, e1, s.one (ne_of h1 dp (by intro z; cases z)) h1, VAt.same (cut_p s hp) h2⟩
def restL {α : Type} (l : List α) (i : Nat) : List α := l.take i ++ l.drop (i + 1)
theorem split_at {α : Type} {l : List α} {i : Nat} {a : α} (h : l[i]? = some a) : l = l.take i ++ a :: l.drop (i + 1) := by
  obtain ⟨hi, e⟩ := List.getElem?_eq_some_iff.mp h
  rw [← e, List.getElem_cons_drop, List.take_append_drop]
theorem rest_perm {α : Type} {l : List α} {i : Nat} {a : α} (h : l[i]? = some a) : l.Perm (a :: restL l i) := by
  unfold restL
  conv => lhs; rw [split_at h]
  exact List.perm_middle
theorem rest_ins {α : Type} {l : List α} {i : Nat} {a y : α} (h : l[i]? = some a) : (restL l i).take i ++ [y] ++ (restL l i).drop i = l.take i ++ y :: l.drop (i + 1) := by
  have hi := lt_of_at h
  have ht : (l.take i).length = i := by rw [List.length_take]; omega
  unfold restL
  rw [List.take_append_of_le_length (by omega), List.drop_append_of_le_length (by omega), List.take_of_length_le (by omega), List.drop_of_length_le (by omega)]
  simp
theorem Paired.rest {α β : Type} {F : α → β → Prop} {l : List α} {m : List β} (i : Nat) (h : Paired F l m) : Paired F (restL l i) (restL m i) := Paired.app (Paired.taken i h) (Paired.drop (i + 1) h)
theorem rest_okE {k : Nat} {es : List (Key × Val)} {i : Nat} {e : Key × Val} (h : es[i]? = some e) (ok : okE k es) : okE k (restL es i) ∧ e.1 ∉ (restL es i).map (·.1) ∧ (restL es i).length + 1 = es.length ∧ ∀ k, k ∈ (restL es i).map (·.1) → k ∈ es.map (·.1) := by
  have p := rest_perm h
  have hl := p.length_eq
  rw [List.length_cons] at hl
  have hn := (p.map (·.1)).nodup_iff.mp ok.2.1
  rw [List.map_cons, List.nodup_cons] at hn
  refine ⟨⟨by have := ok.1; omega, hn.2, fun x hx => ok.2.2 x (p.mem_iff.mpr (List.mem_cons_of_mem _ hx))⟩, hn.1, by omega, fun k hk => ?_⟩
  exact (p.map (·.1)).mem_iff.mpr (List.mem_cons_of_mem _ hk)
theorem snoc_okE {k : Nat} {es : List (Key × Val)} {y : Key} {d : Val} (h : okE k es) (hl : es.length ≤ 3) (hy : okK y) (hn : y ∉ es.map (·.1)) (hd : Ok k d) : okE k (es ++ [(y, d)]) := by
  refine ⟨by rw [List.length_append, List.length_singleton]; omega, ?_, fun e he => ?_⟩
  · rw [List.map_append]
    refine List.nodup_append.mpr ⟨h.2.1, by simp, fun a1 h1 b1 h2 => ?_⟩
    rw [List.map_singleton, List.mem_singleton] at h2
    rw [h2]
    exact fun z => hn (by rw [← show a1 = y from z]; exact h1)
  · rcases List.mem_append.mp he with z | z
    · exact h.2.2 e z
    · rw [List.mem_singleton.mp z]; exact ⟨hy, hd⟩
theorem ins_okE {k : Nat} {es : List (Key × Val)} {i : Nat} {e : Key × Val} {d : Val} (h : es[i]? = some e) (ok : okE k es) (hd : Ok k d) : okE k (es.take i ++ (e.1, d) :: es.drop (i + 1)) := by
  have s := split_at h
  have hl := congrArg List.length s
  have hm := congrArg (List.map (·.1)) s
  rw [List.length_append, List.length_cons] at hl
  rw [List.map_append, List.map_cons] at hm
  refine ⟨by rw [List.length_append, List.length_cons, ← hl]; exact ok.1, ?_, fun x hx => ?_⟩
  · rw [List.map_append, List.map_cons]
    show (List.map (·.1) (es.take i) ++ e.1 :: List.map (·.1) (es.drop (i + 1))).Nodup
    rw [← hm]
    exact ok.2.1
  · rcases List.mem_append.mp hx with z | z
    · exact ok.2.2 x (List.mem_of_mem_take z)
    · rcases List.mem_cons.mp z with z | z
      · rw [z]; exact ⟨(ok.2.2 e (List.mem_of_getElem? h)).1, hd⟩
      · exact ok.2.2 x (List.mem_of_mem_drop z)
def spNTab (K : PySem.W.Frag) (k : Nat) : Sp := fun vs H Q _ => ∃ (p t a : Addr) (ts : List V) (es : List (Key × Val)) (n : Nat) (ps : List Addr), vs = [.ref p, .ref a, .ref t] ∧ Nv H p t n ps ∧ n + nrN (k + 1) ≤ 400000 ∧ 0 < es.length ∧ a ≠ p ∧ H a = some (.lst ts) ∧ Paired (EntAt K H ps k) ts es ∧ okE k es ∧
  ∀ y e H', VAt (CT K) (cut H' ps) (k + 2) y e → Ok (k + 2) e → Dr H' p (n + nrN (k + 1)) → Sx [p] H H' → Q y H'
theorem ok__law_near_table (T : Tx w K mg) (k lev : Nat) (hlev : k + 4 ≤ lev) (G__law_near : Gd P w K base mg CX0 lev (He.fAd K d__law_near.at_) ["_law_source_here", "_law_value_here", "_law_twins_here"] [] (spNear K k)) :
    Gd P w K base mg CX0 (lev + 1) (He.fAd K d__law_near_table.at_) ["_law_source_here", "_law_entries", "_law_twins_here"] [] (spNTab K k) := by
  have G__law_draw := ok__law_draw (P := P) (w := w) (base := base) T
  have G__law_pick := ok__law_pick (P := P) (w := w) (base := base) T
  have G_Table_init := ok_Table_init (P := P) (w := w) (base := base) T (k + 1)
  refine mkGd (T.f__law_near_table) sc__law_near_table (fun vs H Q E h => ?_) (fun _ _ _ _ _ _ us hl => match us, hl with | [_, _, _], _ => rfl) (fun cdv A outer s H vs Q E hr h => ?_)
  · obtain ⟨p, t, a, ts, es, n, ps, rfl, _⟩ := h
    rfl
  · have hu := hu_of hr
    obtain ⟨p, t, a, ts, es, n, ps, rfl, g, hn, hl0, hap1, ha0, hE, okes, q⟩ := h
    have hl := Paired.length hE
    have hl4 := okes.1
    have en : nrN (k + 1) = nrN k + 4 := by unfold nrN; omega
    rw [en] at hn q
    have e4 : 4 ≤ nrN k := by unfold nrN; omega
    refine ⟨_, (pss_cons (ps_par (i := 3) (j := 4) (by rfl) sc__law_near_table.nd rfl rfl (by decide) rfl rfl (pa_cons (pe_callG G__law_draw T.g__law_draw (hr.mono (by first | decide | omega)) pass0 (pa_cons (pv 0) (pa_cons (pe_callB call_len_seq (by rfl) T.n_len PySem.boot_len (pa_cons (pv 1) pa_nil)) pa_nil))) (pa_cons (pe_callG G__law_draw T.g__law_draw (hr.mono (by first | decide | omega)) pass0 (pa_cons (pv 0) (pa_cons pe_int pa_nil))) pa_nil)) (by rfl))
      (pss_cons (ps_asg (pe_ix (r := rIxL K) ix_list (pv 1) (pv 3) (fun _ _ => rfl)) (pg_tup rfl (pgs_cons (pg_name (i := 5) sc__law_near_table.nd rfl (Or.inl rfl)) (pgs_cons (pg_name (i := 6) sc__law_near_table.nd rfl (Or.inl rfl)) pgs_nil))))
      (pss_cons (ps_set (i := 7) sc__law_near_table.nd rfl (Or.inl rfl) (pe_op op_cat (pe_slice sl_list (pv 1) po_none (po_some (pv 3))) (pe_slice sl_list (pv 1) (po_some (pe_op op_add (pv 3) pe_int)) po_none)))
      (pss_cons (ps_if (pt_cmpR op_eq (pv 4) pe_int (nomark _)) (pss_one (ps_ret (pv 6))) pss_nil)
      (pss_cons (ps_if (pt_cmpR op_eq (pv 4) pe_int (nomark _)) (pss_one (ps_ret (pe_makeG T.mk_Table G_Table_init (hr.mono (by first | decide | omega)) T.g_Table pass0 (pa_cons (pv 7) pa_nil)))) pss_nil)
      (pss_cons (ps_if (pt_cmpR op_eq (pv 4) pe_int (nomark _)) (pss_cons (ps_set (i := 8) sc__law_near_table.nd rfl (Or.inl rfl) (pe_callG G__law_pick T.g__law_pick (hr.mono (by first | decide | omega)) pass0 (pa_cons (pv 0) (pa_cons (pv 2) pa_nil))))
      (pss_cons (ps_if (pt_cmpR op_in_seq (pv 8) (pe_lc (own := [("_law_old", 9), ("_law_kept", 10)]) (g := gTup K 2 (gCons (gName 9) (gCons (gName 10) gNil))) (tt := tYes) rfl sc__law_near_table.nd (pi_list (pv 1)) (blkOk_by (own := [("_law_old", 9), ("_law_kept", 10)]) (N := N__law_near_table) (sc := defScope s__law_near_table) (by decide +kernel)) (fun _ _ _ _ _ => (pg_tup rfl (pgs_cons (pg_name (i := 9) sc__law_near_table.nd rfl (Or.inl rfl)) (pgs_cons (pg_name (i := 10) sc__law_near_table.nd rfl (Or.inl rfl)) pgs_nil)))) (fun _ _ _ _ _ => pts_nil) (fun _ _ _ _ _ => (pv 9))) (by rfl)) (pss_one (ps_ret (pe_makeG T.mk_Table G_Table_init (hr.mono (by first | decide | omega)) T.g_Table pass0 (pa_cons (pe_op op_cat (pv 7) (pe_lst (pa_cons (pe_tup (pa_cons (pv 5) (pa_cons (pv 6) pa_nil))) pa_nil))) pa_nil)))) pss_nil)
      (pss_one (ps_ret (pe_makeG T.mk_Table G_Table_init (hr.mono (by first | decide | omega)) T.g_Table pass0 (pa_cons (pe_op op_cat (pv 7) (pe_lst (pa_cons (pe_tup (pa_cons (pv 8) (pa_cons (pv 6) pa_nil))) pa_nil))) pa_nil)))))) pss_nil)
      (pss_cons (ps_expr (pe_bm PySem.F.plainAttrs_list PySem.F.slot_list_insert PySem.F.type_list_insert mt_insert (pv 7) (pa_cons (pv 3) (pa_cons (pe_tup (pa_cons (pv 5) (pa_cons (pe_callG G__law_near T.g__law_near (hr.mono (by first | decide | omega)) pass0 (pa_cons (pv 0) (pa_cons (pv 6) (pa_cons (pv 2) pa_nil)))) pa_nil))) pa_nil))))
      (pss_one (ps_ret (pe_makeG T.mk_Table G_Table_init (hr.mono (by first | decide | omega)) T.g_Table pass0 (pa_cons (pv 7) pa_nil))))))))))), ?_⟩
    refine ⟨_, rfl, _, rfl, a, ts, rfl, .inl (SqL.of ha0), p, n, _, rfl, g.gd, by omega, by omega, by omega, fun i H0 i0 i1 D0 s0 => ⟨_, rfl, p, n + 1, 5, rfl, D0, by omega, by decide, by decide, fun rd H1 r0 r1 D1 s1 => ⟨_, _, rfl, ?_⟩⟩⟩
    obtain ⟨i, rfl⟩ : ∃ m : Nat, i = (m : Int) := ⟨i.toNat, by omega⟩
    have s01 := s0.trans s1
    have hi : i < ts.length := by omega
    have g1 := g.to s01 D1
    have ha1 := s01.one hap1 ha0
    have hE1 : Paired (EntAt K H1 ps k) ts es := Paired.mapP hE fun _ _ h => ent_p s01 g.gd g.pp h
    obtain ⟨x0, hx0⟩ : ∃ x0, ts[i]? = some x0 := ⟨_, List.getElem?_eq_getElem hi⟩
    obtain ⟨e0, he0, b0, y0, rfl, hb0, hy0⟩ := Paired.at hE1 hx0
    have he0m := List.mem_of_getElem? he0
    refine ⟨_, rfl, _, rfl, a, ts, (i : Int), .ref b0, rfl, rfl, SqL.of ha1, atI_nat hx0, b0, _, rfl, SqT.of hb0, rfl, _, _, rfl, _, _, rfl, rfl, ?_⟩
    have ec1 : cutV ts none (some (i : Int)) = ts.take i := cutV_to (Nat.le_of_lt hi)
    have ec2 : cutV ts (some ((i : Int) + 1)) none = ts.drop (i + 1) := cutV_from (i := i + 1)
    refine ⟨_, rfl, _, rfl, _, rfl, a, ts, rfl, SqL.of ha1, fun l1 hl1 => ?_⟩
    rw [ec1]
    have n2 := (Same.nu (o := .lst (ts.take i)) hl1)
    have t2 : upd H1 l1 (.lst (ts.take i)) l1 = some (.lst (ts.take i)) := upd_same
    generalize upd H1 l1 (.lst (ts.take i)) = H2 at n2 t2 ⊢
    refine ⟨_, rfl, _, rfl, _, _, rfl, rfl, _, rfl, a, ts, rfl, SqL.of (n2 _ _ ha1), fun l2 hl2 => ?_⟩
    rw [ec2]
    have n3 := (Same.nu (o := .lst (ts.drop (i + 1))) hl2)
    have t3 : upd H2 l2 (.lst (ts.drop (i + 1))) l2 = some (.lst (ts.drop (i + 1))) := upd_same
    generalize upd H2 l2 (.lst (ts.drop (i + 1))) = H3 at n3 t3 ⊢
    refine ⟨l1, l2, _, _, rfl, rfl, n3 _ _ t2, t3, Nat.le_of_lt (small1000 (by rw [List.length_take, List.length_drop]; omega)), fun L hL => ?_⟩
    have n4 := (n2.trans n3).trans (Same.nu (o := .lst (restL ts i)) hL)
    have hL1 : H1 L = none := not_of_same (n2.trans n3) hL
    have t4 : upd H3 L (.lst (restL ts i)) L = some (.lst (restL ts i)) := upd_same
    change tSeq _ _ _ _ (upd H3 L (.lst (restL ts i)))
    generalize upd H3 L (.lst (restL ts i)) = H4 at n4 t4 ⊢
    have D4 := D1.same n4
    have s04 := s01.sm n4
    have g4 := g.to s04 D4
    have hLps : L ∉ ps := g1.hs.new hL1
    have hLp : L ≠ p := fun z => hLps (by rw [z]; exact g.pp)
    have ha4 := n4 _ _ ha1
    have hb4 := n4 _ _ hb0
    have hE4 : Paired (EntAt K H4 ps k) ts es := Paired.mapP hE1 fun _ _ h => ent_same n4 (cut_sx (Sx.of n4)) h
    have hy4 : VAt (CT K) (cut H4 ps) k y0 e0.2 := VAt.same (cut_sx (Sx.of n4)) hy0
    obtain ⟨okR, hnR, hlR, hsR⟩ := rest_okE he0 okes
    have ok0 := okes.2.2 e0 he0m
    refine ⟨_, rfl, rfl, _, rfl, ite2 (fun _ => ⟨_, rfl, q y0 e0.2 H4 (VAt.up (VAt.up hy4)) (Ok.up (Ok.up ok0.2)) (D4.up (by omega)) s04⟩) (fun _ => ⟨_, rfl, rfl, _, rfl, ite2 (fun _ => ?_) (fun _ => ⟨_, rfl, rfl, _, rfl, ite2 (fun _ => ?_) (fun _ => ?_)⟩)⟩)⟩
    · exact ⟨_, rfl, mkT (Q := fun x H2 => Q (.ref x) H2) t4 (Paired.mapP (Paired.rest i hE4) fun _ _ h => ent_up h) (okE_up okR) g4.hs (fun _ h => h) fun x H10 s10 hv => q (.ref x) _ H10 hv (.inr (.inr ⟨_, rfl, okE_up okR⟩)) ((D4.same s10).up (by omega)) (s04.sm s10)⟩
    · obtain ⟨ks, hk1, hk2, hk3, hk4⟩ := g4.gt
      refine ⟨_, rfl, _, rfl, p, t, n + 2, ks.map kV, rfl, D4, by omega, hk1, g.tn, by rw [List.length_map]; omega, by rw [List.length_map]; omega, fun yy hyy H5 D5 s5 => ?_⟩
      obtain ⟨y1, hy1, rfl⟩ := List.mem_map.mp hyy
      have oky1 := hk4 y1 hy1
      have s05 := s04.trans s5
      have g5 := g.to s05 D5
      have hE5 : Paired (EntAt K H5 ps k) ts es := Paired.mapP hE4 fun _ _ h => ent_p s5 D4 g.pp h
      have tL5 := s5.one hLp t4
      have ha5 := s5.one hap1 ha4
      have hy5 : VAt (CT K) (cut H5 ps) k y0 e0.2 := VAt.same (cut_p s5 g.pp) hy4
      refine ⟨_, rfl, _, rfl, a, rfl, ⟨_, SqL.of ha5⟩, fun D hD => lc_list (xs := ts) (fun j H6 => Same H5 H6 ∧ H6 D = some (.lst (((es.take j).map (·.1)).map kV))) ⟨Same.nu hD, upd_same⟩ (fun j H6 _ h => SqL.of (h.1 _ _ ha5)) ?_ ?_⟩
      · rintro j x H6 hx ⟨s6, hd⟩
        obtain ⟨e, he, b, y2, rfl, hb, _⟩ := Paired.at hE5 hx
        have hj := lt_of_at he
        refine ⟨b, _, rfl, SqT.of (s6 _ _ hb), rfl, _, _, rfl, _, _, rfl, rfl, rfl, _, rfl, _, hd, ?_, Same.mk'' s6 hD, ?_⟩
        · rw [List.length_map, List.length_map, List.length_take]
          exact small1000 (by omega)
        · rw [upd_same, take_snoc he, List.map_append, List.map_append]
          rfl
      rintro H6 ⟨s6, hd⟩
      rw [List.take_of_length_le (by omega)] at hd
      have tL := s6 _ _ tL5
      have hR : Paired (EntAt K H6 ps k) (restL ts i) (restL es i) := Paired.rest i (Paired.mapP hE5 fun _ _ h => ent_same s6 (cut_sx (Sx.of s6)) h)
      replace hy5 : VAt (CT K) (cut H6 ps) k y0 e0.2 := VAt.same (cut_sx (Sx.of s6)) hy5
      replace D5 := D5.same s6
      replace s05 := s05.sm s6
      replace g5 := g.to s05 D5
      refine ⟨D, _, rfl, .inl (SqL.of hd), flat_kV y1, flats_kV _, _, rfl, ?_⟩
      by_cases hin : y1 ∈ es.map (·.1)
      · rw [inV_kV.mpr hin]
        refine iteT ⟨_, rfl, _, rfl, _, rfl, (by show 2 ≤ sizeLine; decide), fun q2 hq2 => ⟨(by show 1 ≤ sizeLine; decide), fun l3 hl3 => ?_⟩⟩
        have nq := Same.nu (o := .tup [kV e0.1, y0]) hq2
        have tq : upd H6 q2 (.tup [kV e0.1, y0]) q2 = some (.tup [kV e0.1, y0]) := upd_same
        generalize upd H6 q2 (.tup [kV e0.1, y0]) = H7 at nq tq hl3 ⊢
        have nl := Same.nu (o := .lst [V.ref q2]) hl3
        have tl3 : upd H7 l3 (.lst [V.ref q2]) l3 = some (.lst [V.ref q2]) := upd_same
        have ne1 : L ≠ l3 := ne_of_none (nq _ _ tL) hl3
        generalize upd H7 l3 (.lst [V.ref q2]) = H8 at nl tl3 ⊢
        have n8 := nq.trans nl
        have tq8 := nl _ _ tq
        refine ⟨L, l3, _, _, rfl, rfl, n8 _ _ tL, tl3, Nat.le_of_lt (small1000 (by rw [Paired.length hR, List.length_singleton]; omega)), fun M hM => ?_⟩
        have n9 := n8.trans (Same.nu (o := .lst (restL ts i ++ [.ref q2])) hM)
        have tM : upd H8 M (.lst (restL ts i ++ [.ref q2])) M = some (.lst (restL ts i ++ [.ref q2])) := upd_same
        have tq9 := Same.nu (o := .lst (restL ts i ++ [.ref q2])) hM _ _ tq8
        generalize upd H8 M (.lst (restL ts i ++ [.ref q2])) = H9 at n9 tM tq9 ⊢
        have hR9 : Paired (EntAt K H9 ps (k + 1)) (restL ts i ++ [.ref q2]) (restL es i ++ [(e0.1, e0.2)]) := Paired.snoc (Paired.mapP hR fun _ _ h => ent_up (ent_same n9 (cut_sx (Sx.of n9)) h)) ⟨q2, y0, rfl, tq9, VAt.up (VAt.same (cut_sx (Sx.of n9)) hy5)⟩
        exact mkT (Q := fun x H2 => Q (.ref x) H2) tM hR9 (okE_up (snoc_okE okR (by omega) ok0.1 hnR (okes.2.2 e0 he0m).2)) (g5.hs.sx n9) (fun _ h => h) fun x H10 s10 hv => q (.ref x) _ H10 hv (.inr (.inr ⟨_, rfl, (okE_up (snoc_okE okR (by omega) ok0.1 hnR (okes.2.2 e0 he0m).2))⟩)) ((D5.same (n9.trans s10)).up (by omega)) (s05.sm (n9.trans s10))
      · rw [show inV (kV y1) ((es.map (·.1)).map kV) = false from Bool.eq_false_iff.mpr fun z => hin (inV_kV.mp z)]
        refine iteF ⟨_, rfl, _, rfl, _, rfl, (by show 2 ≤ sizeLine; decide), fun q2 hq2 => ⟨(by show 1 ≤ sizeLine; decide), fun l3 hl3 => ?_⟩⟩
        have nq := Same.nu (o := .tup [kV y1, y0]) hq2
        have tq : upd H6 q2 (.tup [kV y1, y0]) q2 = some (.tup [kV y1, y0]) := upd_same
        generalize upd H6 q2 (.tup [kV y1, y0]) = H7 at nq tq hl3 ⊢
        have nl := Same.nu (o := .lst [V.ref q2]) hl3
        have tl3 : upd H7 l3 (.lst [V.ref q2]) l3 = some (.lst [V.ref q2]) := upd_same
        have ne1 : L ≠ l3 := ne_of_none (nq _ _ tL) hl3
        generalize upd H7 l3 (.lst [V.ref q2]) = H8 at nl tl3 ⊢
        have n8 := nq.trans nl
        have tq8 := nl _ _ tq
        refine ⟨L, l3, _, _, rfl, rfl, n8 _ _ tL, tl3, Nat.le_of_lt (small1000 (by rw [Paired.length hR, List.length_singleton]; omega)), fun M hM => ?_⟩
        have n9 := n8.trans (Same.nu (o := .lst (restL ts i ++ [.ref q2])) hM)
        have tM : upd H8 M (.lst (restL ts i ++ [.ref q2])) M = some (.lst (restL ts i ++ [.ref q2])) := upd_same
        have tq9 := Same.nu (o := .lst (restL ts i ++ [.ref q2])) hM _ _ tq8
        generalize upd H8 M (.lst (restL ts i ++ [.ref q2])) = H9 at n9 tM tq9 ⊢
        have hR9 : Paired (EntAt K H9 ps (k + 1)) (restL ts i ++ [.ref q2]) (restL es i ++ [(y1, e0.2)]) := Paired.snoc (Paired.mapP hR fun _ _ h => ent_up (ent_same n9 (cut_sx (Sx.of n9)) h)) ⟨q2, y0, rfl, tq9, VAt.up (VAt.same (cut_sx (Sx.of n9)) hy5)⟩
        exact mkT (Q := fun x H2 => Q (.ref x) H2) tM hR9 (okE_up (snoc_okE okR (by omega) oky1 (fun z => hin (hsR _ z)) (okes.2.2 e0 he0m).2)) (g5.hs.sx n9) (fun _ h => h) fun x H10 s10 hv => q (.ref x) _ H10 hv (.inr (.inr ⟨_, rfl, (okE_up (snoc_okE okR (by omega) oky1 (fun z => hin (hsR _ z)) (okes.2.2 e0 he0m).2))⟩)) ((D5.same (n9.trans s10)).up (by omega)) (s05.sm (n9.trans s10))
    · refine ⟨_, rfl, .inl ⟨rfl, _, SqL.of t4⟩, _, rfl, _, rfl, _, rfl, _, rfl, _, rfl, p, t, y0, e0.2, n + 2, L :: ps, rfl, (g.to s04 D4).cons t4, by omega, VAt.same (cut_add hL1 n4) hy0, ok0.2, fun y e H5 hy oky D5 s5 => ⟨(by show 2 ≤ sizeLine; decide), fun q2 hq2 => ?_⟩⟩
      have t5 := s5.one hLp t4
      have nq := Same.nu (o := .tup [kV e0.1, y]) hq2
      have tq : upd H5 q2 (.tup [kV e0.1, y]) q2 = some (.tup [kV e0.1, y]) := upd_same
      have t6 := nq _ _ t5
      have nLq : q2 ≠ L := fun z => by rw [z, t5] at hq2; cases hq2
      have hE5 : Paired (EntAt K (upd H5 q2 (.tup [kV e0.1, y])) (L :: ps) (k + 1)) ts es := Paired.mapP hE1 fun _ _ h => ent_up (ent_same nq (cut_put hq2) (ent_p s5 D4 (List.mem_cons_of_mem _ g.pp) (ent_same n4 (cut_add hL1 n4) h)))
      have hy6 : VAt (CT K) (cut (upd H5 q2 (.tup [kV e0.1, y])) (L :: ps)) (k + 1) y e := VAt.same (cut_put hq2) hy
      have D6 := D5.same nq
      have s06 := (s04.trans s5).sm nq
      generalize upd H5 q2 (.tup [kV e0.1, y]) = H6 at nq tq t6 hE5 hy6 D6 s06 ⊢
      refine ⟨L, _, (i : Int), .ref q2, rfl, rfl, t6, small1000 (by rw [Paired.length (Paired.rest i hE4)]; omega), by omega, by omega, ?_⟩
      rw [Int.toNat_natCast, rest_ins hx0]
      have t7 : upd H6 L (.lst (ts.take i ++ .ref q2 :: ts.drop (i + 1))) L = some (.lst (ts.take i ++ .ref q2 :: ts.drop (i + 1))) := upd_same
      have E7 : ∀ {tt : V} {ee : Key × Val}, EntAt K H6 (L :: ps) (k + 1) tt ee → EntAt K (upd H6 L (.lst (ts.take i ++ .ref q2 :: ts.drop (i + 1)))) (L :: ps) (k + 1) tt ee := fun h => by
        obtain ⟨b, y2, e1, h1, h2⟩ := h
        exact ⟨b, y2, e1, by rw [upd_ne (ne_of h1 t6 (by intro z; cases z))]; exact h1, by rw [cut_cons]; exact h2⟩
      have hR7 : Paired (EntAt K (upd H6 L (.lst (ts.take i ++ .ref q2 :: ts.drop (i + 1)))) (L :: ps) (k + 1)) (ts.take i ++ .ref q2 :: ts.drop (i + 1)) (es.take i ++ (e0.1, e) :: es.drop (i + 1)) :=
        Paired.app (Paired.mapP (Paired.taken i hE5) fun _ _ h => E7 h) (.cons (E7 ⟨q2, y, rfl, tq, hy6⟩) (Paired.mapP (Paired.drop (i + 1) hE5) fun _ _ h => E7 h))
      have D7 : Dr (upd H6 L (.lst (ts.take i ++ .ref q2 :: ts.drop (i + 1)))) p (n + (nrN k + 4)) := by
        obtain ⟨gg, gk, gc, dp, dd⟩ := D6.up (m := n + (nrN k + 4)) (by omega)
        exact ⟨gg, gk, gc, by rw [upd_ne hLp.symm]; exact dp, dd⟩
      have s07 : Sx [p] H (upd H6 L (.lst (ts.take i ++ .ref q2 :: ts.drop (i + 1)))) := fun b o nb e => by
        have bL : b ≠ L := fun z => by
          have := s01 b o nb e
          rw [z, hL1] at this
          cases this
        rw [upd_ne bL]
        exact s06 b o nb e
      generalize upd H6 L (.lst (ts.take i ++ .ref q2 :: ts.drop (i + 1))) = H7 at t7 hR7 D7 s07 ⊢
      have okF := ins_okE he0 (okE_up okes) oky
      exact ⟨_, rfl, mkT (Q := fun x H2 => Q (.ref x) H2) t7 hR7 okF (g.to s07 D7).hs (fun _ h => List.mem_cons_of_mem _ h) fun x H10 s10 hv => q (.ref x) _ H10 hv (.inr (.inr ⟨_, rfl, okF⟩)) (D7.same s10) (s07.sm s10)⟩
end
end Kt
set_option Elab.async false
set_option linter.all false
set_option maxRecDepth 100000
set_option maxHeartbeats 4000000
namespace Kt
open PySem PySem.Spec PyProof.Rows L2 Rz _root_.TL
section
variable {P : Program} {w : World} {K : PySem.W.Frag} {mg : Str → Option Value} {base : Heap}
theorem st__law_near (T : Tx w K mg) (k : Nat) (G__law_near : Gd P w K base mg CX0 (2 * k + 2) (He.fAd K d__law_near.at_) ["_law_source_here", "_law_value_here", "_law_twins_here"] [] (prv (spNear K) k)) :
    Gd P w K base mg CX0 (2 * (k + 1) + 2) (He.fAd K d__law_near.at_) ["_law_source_here", "_law_value_here", "_law_twins_here"] [] (spNear K k) := by
  have G__law_draw := ok__law_draw (P := P) (w := w) (base := base) T
  have G__law_pick := ok__law_pick (P := P) (w := w) (base := base) T
  have G_Table_init := ok_Table_init (P := P) (w := w) (base := base) T k
  have G_Table_entries := ok_Table_entries (P := P) (w := w) (base := base) T (k - 1)
  have G_len := ok_Table___len__ (P := P) (w := w) (base := base) T
  obtain ⟨fdl, dvl, F_len, hdl, b_len⟩ := G_len.ok
  cases hdl
  have LN1 := of_decide_eq_true (band (band (band T.orT.2).2).2).1
  have LN2 := (band (band (band T.orT.2).2).2).2
  obtain ⟨sR, hsR, G__law_near_row⟩ : ∃ sT : Sp, (∀ j, k = j + 1 → sT = spNRow K j) ∧ Gd P w K base mg CX0 (2 * k + 3) (He.fAd K d__law_near_row.at_) ["_law_source_here", "_law_items", "_law_twins_here"] [] sT := by
    cases k with
    | zero => exact ⟨_, fun _ z => (nomatch z), mkGdF (T.f__law_near_row) sc__law_near_row (fun _ _ _ _ _ _ us hl => match us, hl with | [_, _, _], _ => rfl) _⟩
    | succ j => exact ⟨_, fun _ z => by cases z; rfl, ok__law_near_row T j (2 * (j + 1) + 2) (by omega) G__law_near⟩
  obtain ⟨sT, hsT, G__law_near_table⟩ : ∃ sT : Sp, (∀ j, k = j + 1 → sT = spNTab K j) ∧ Gd P w K base mg CX0 (2 * k + 3) (He.fAd K d__law_near_table.at_) ["_law_source_here", "_law_entries", "_law_twins_here"] [] sT := by
    cases k with
    | zero => exact ⟨_, fun _ z => (nomatch z), mkGdF (T.f__law_near_table) sc__law_near_table (fun _ _ _ _ _ _ us hl => match us, hl with | [_, _, _], _ => rfl) _⟩
    | succ j => exact ⟨_, fun _ z => by cases z; rfl, ok__law_near_table T j (2 * (j + 1) + 2) (by omega) G__law_near⟩
  refine mkGd (T.f__law_near) sc__law_near (fun vs H Q E h => ?_) (fun _ _ _ _ _ _ us hl => match us, hl with | [_, _, _], _ => rfl) (fun cdv A outer s H vs Q E hr h => ?_)
  · obtain ⟨p, t, x, d, n, ps, rfl, _⟩ := h
    rfl
  · have hu := hu_of hr
    obtain ⟨p, t, x, d, n, ps, rfl, g, hn, hv, ok, q⟩ := h
    have e4 : 4 ≤ nrN k := by unfold nrN; omega
    refine ⟨_, (pss_cons (ps_if (PW.pt (pw_and (pt_val (pe_callB call_isiT (by rfl) T.n_isinstance (by decide +kernel) (pa_cons (pv 1) (pa_cons (pe_tup (pa_cons (pe_bltn (v := .ty "list") (u := .type "list") (by rfl) T.n_list (by decide +kernel) rfl) (pa_cons (pe_bltn (v := .ty "tuple") (u := .type "tuple") (by rfl) T.n_tuple (by decide +kernel) rfl) pa_nil))) pa_nil)))) (pw_and1 (pt_cmpR op_gt (pe_callB (call_len_seq.or (Rn.call_lenO LN1 LN2 F_len (hr.mono (by first | decide | omega)) b_len pass0)) (by rfl) T.n_len PySem.boot_len (pa_cons (pv 1) pa_nil)) pe_int (nomark _))))) (pss_one (ps_ret (pe_callG G__law_near_row T.g__law_near_row (hr.mono (by first | decide | omega)) pass0 (pa_cons (pv 0) (pa_cons (pv 1) (pa_cons (pv 2) pa_nil)))))) pss_nil)
      (pss_cons (ps_if (PW.pt (pw_and (pt_val (pe_callB call_isi (by rfl) T.n_isinstance (by decide +kernel) (pa_cons (pv 1) (pa_cons (pe_glob (v := .ref (He.ga K "Table")) rfl T.g_Table rfl) pa_nil)))) (pw_and1 (pt_cmpR op_gt (pe_callB (call_len_seq.or (Rn.call_lenO LN1 LN2 F_len (hr.mono (by first | decide | omega)) b_len pass0)) (by rfl) T.n_len PySem.boot_len (pa_cons (pv 1) pa_nil)) pe_int (nomark _))))) (pss_one (ps_ret (pe_callG G__law_near_table T.g__law_near_table (hr.mono (by first | decide | omega)) pass0 (pa_cons (pv 0) (pa_cons (pe_methG0 (pv 1) T.cl_Table T.m_Table_entries G_Table_entries (hr.mono (by first | decide | omega)) pass0) (pa_cons (pv 2) pa_nil)))))) pss_nil)
      (pss_cons (ps_set (i := 3) sc__law_near.nd rfl (Or.inl rfl) (pe_callG G__law_draw T.g__law_draw (hr.mono (by first | decide | omega)) pass0 (pa_cons (pv 0) (pa_cons pe_int pa_nil))))
      (pss_cons (ps_if (pt_cmpR op_gt (pv 3) pe_int (nomark _)) (pss_one (ps_ret (pe_ix (r := rIxL K) ix_list (pe_lst (pa_cons (pe_lst (pa_cons (pv 1) pa_nil)) (pa_cons (pe_tup (pa_cons (pv 1) pa_nil)) (pa_cons (pe_makeG T.mk_Table G_Table_init (hr.mono (by first | decide | omega)) T.g_Table pass0 (pa_cons (pe_lst (pa_cons (pe_tup (pa_cons (pe_callG G__law_pick T.g__law_pick (hr.mono (by first | decide | omega)) pass0 (pa_cons (pv 0) (pa_cons (pv 2) pa_nil))) (pa_cons (pv 1) pa_nil))) pa_nil)) pa_nil)) pa_nil)))) (pe_op op_sub (pv 3) pe_int) (fun _ _ => rfl)))) pss_nil)
      (pss_one (ps_ret (pe_ix (r := rIxL K) ix_list (pe_lst (pa_cons pe_non (pa_cons pe_bl (pa_cons (pe_lst pa_nil) (pa_cons (pe_tup pa_nil) (pa_cons (pe_makeG T.mk_Table G_Table_init (hr.mono (by first | decide | omega)) T.g_Table pass0 (pa_cons (pe_lst pa_nil) pa_nil)) (pa_cons pe_str pa_nil))))))) (pv 3) (fun _ _ => rfl)))))))), ?_⟩
    refine ⟨_, rfl, (by show 2 ≤ sizeLine; decide), fun tt htt => ?_⟩
    have nu0 := Same.nu (o := .tup [V.ty "list", V.ty "tuple"]) htt
    have ht0 : (upd H tt (.tup [V.ty "list", V.ty "tuple"])) tt = some (.tup [V.ty "list", V.ty "tuple"]) := upd_same
    generalize upd H tt (.tup [V.ty "list", V.ty "tuple"]) = H1 at nu0 ht0 ⊢
    have hv0 : VAt (CT K) (cut H1 ps) k x d := VAt.same (cut_sx (Sx.of nu0)) hv
    have D0 := g.gd.same nu0
    have s0 : Sx [p] H H1 := Sx.of nu0
    have g0 := g.to s0 D0
    obtain ⟨t3, y3, k3⟩ := isiLT T cut_le hv0
    obtain ⟨t1, y1, k1⟩ := isiC T cut_le hv0
    refine ⟨_, tt, _, t3, _, _, rfl, ht0, .cons (.ty _) (.cons (.ty _) .nil), y3, k3, _, rfl, ?_⟩
    have leaf : tSeq (tAsg (tCall spDraw [] E0 (tCons (tVar 0) (tCons (tC (V.int 9)) tNil))) (gName 3))
                      (tSeq
                        (tIfS (tTest (tOp (rI0 fun i j => V.bl (decide (j < i))) (tVar 3) (tC (V.int 5))))
                          (tRet
                            (tOp (rIxL K)
                              (tLst
                                (tCons (tLst (tCons (tVar 1) tNil))
                                  (tCons (tTup (tCons (tVar 1) tNil))
                                    (tCons
                                      (tMake (He.ga K "Table") (spTable K k) [] E0
                                        (tCons
                                          (tLst
                                            (tCons
                                              (tTup
                                                (tCons (tCall (spPick K) [] E0 (tCons (tVar 0) (tCons (tVar 2) tNil)))
                                                  (tCons (tVar 1) tNil)))
                                              tNil))
                                          tNil))
                                      tNil))))
                              (tOp (rI0 fun i j => V.int (i - j)) (tVar 3) (tC (V.int 6)))))
                          tNext)
                        (tRet
                          (tOp (rIxL K)
                            (tLst
                              (tCons (tC V.non)
                                (tCons (tC (V.bl true))
                                  (tCons (tLst tNil)
                                    (tCons (tTup tNil)
                                      (tCons
                                        (tMake (He.ga K "Table") (spTable K k) [] E0
                                          (tCons (tLst tNil) tNil))
                                        (tCons (tC (V.str "u")) tNil)))))))
                            (tVar 3))))
        { nx := fun _ H' => Q .non H', rt := Q } (L2.start N__law_near [V.ref p, x, V.ref t]) H1 := by
      refine ⟨_, rfl, p, n, 9, rfl, D0, by omega, by decide, by decide, fun rd H2 r0 r1 D2 s2 => ?_⟩
      have s02 := s0.trans s2
      have g2 := g.to s02 D2
      have hv2 : VAt (CT K) (cut H2 ps) k x d := VAt.same (cut_p s2 g.pp) hv0
      refine ⟨_, rfl, _, _, rfl, rfl, _, rfl, ite2 (fun h5 => ?_) (fun h5 => ?_)⟩
      · have h5 : 5 < rd := of_decide_eq_true h5
        refine ⟨_, rfl, (by show 1 ≤ sizeLine; decide), fun l1 hl1 => ⟨_, rfl, (by show 1 ≤ sizeLine; decide), fun t1 ht1 => ?_⟩⟩
        have a1 : upd H2 l1 (.lst [x]) l1 = some (.lst [x]) := upd_same
        have n1 := Same.nu (o := .lst [x]) hl1
        generalize upd H2 l1 (.lst [x]) = H3 at n1 a1 ht1 ⊢
        have a2 : upd H3 t1 (.tup [x]) t1 = some (.tup [x]) := upd_same
        have n2 := n1.trans (Same.nu (o := .tup [x]) ht1)
        have a1' := Same.nu (o := .tup [x]) ht1 _ _ a1
        have np1 : l1 ∉ ps := g2.hs.new hl1
        have np2 : t1 ∉ ps := (g2.hs.sx n1).new ht1
        generalize upd H3 t1 (.tup [x]) = H4 at n2 a2 a1' ⊢
        have D4 := D2.same n2
        have s04 := s02.sm n2
        have g4 := g.to s04 D4
        have hv4 : VAt (CT K) (cut H4 ps) k x d := VAt.same (cut_sx (Sx.of n2)) hv2
        obtain ⟨ks, hk1, hk2, hk3, hk4⟩ := g4.gt
        refine ⟨_, rfl, _, rfl, p, t, n + 1, ks.map kV, rfl, D4, by omega, hk1, g.tn, by rw [List.length_map]; omega, by rw [List.length_map]; omega, fun yy hyy H5 D5 s5 => ⟨_, rfl, (by show 2 ≤ sizeLine; decide), fun q2 hq2 => ⟨(by show 1 ≤ sizeLine; decide), fun l3 hl3 => ?_⟩⟩⟩
        obtain ⟨y1, hy1, rfl⟩ := List.mem_map.mp hyy
        have l1p : l1 ≠ p := fun z => np1 (by rw [z]; exact g.pp)
        have t1p : t1 ≠ p := fun z => np2 (by rw [z]; exact g.pp)
        have b1 := s5.one l1p a1'
        have b2 := s5.one t1p a2
        have s05 := s04.trans s5
        have hv5 : VAt (CT K) (cut H5 ps) k x d := VAt.same (cut_p s5 g.pp) hv4
        have n6 := Same.nu (o := .tup [kV y1, x]) hq2
        have a6 : upd H5 q2 (.tup [kV y1, x]) q2 = some (.tup [kV y1, x]) := upd_same
        generalize upd H5 q2 (.tup [kV y1, x]) = H6 at n6 a6 hl3 ⊢
        have n7 := n6.trans (Same.nu (o := .lst [V.ref q2]) hl3)
        have a7 := Same.nu (o := .lst [V.ref q2]) hl3 _ _ a6
        have a8 : upd H6 l3 (.lst [V.ref q2]) l3 = some (.lst [V.ref q2]) := upd_same
        generalize upd H6 l3 (.lst [V.ref q2]) = H7 at n7 a7 a8 ⊢
        have s07 := s05.sm n7
        have D7 := D5.same n7
        have okk : okE k [(y1, d)] := ⟨by show 1 ≤ 4; decide, by simp, fun e he => by rw [List.mem_singleton.mp he]; exact ⟨hk4 y1 hy1, ok⟩⟩
        refine mkT (es := [(y1, d)]) a8 (.cons ⟨q2, x, rfl, a7, VAt.same (cut_sx (Sx.of n7)) hv5⟩ .nil) okk (g.to s07 D7).hs (fun _ h => h) fun z H8 s8 hz => ⟨(by show 3 ≤ sizeLine; decide), fun l4 hl4 => ⟨_, rfl, _, _, rfl, rfl, ?_⟩⟩
        have n9 := s8.trans (Same.nu (o := .lst [V.ref l1, .ref t1, .ref z]) hl4)
        have hz9 := VAt.same (cut_sx (Sx.of (Same.nu (o := .lst [V.ref l1, .ref t1, .ref z]) hl4))) hz
        have a9 : upd H8 l4 (.lst [V.ref l1, .ref t1, .ref z]) l4 = some (.lst [V.ref l1, .ref t1, .ref z]) := upd_same
        generalize upd H8 l4 (.lst [V.ref l1, .ref t1, .ref z]) = H9 at n9 hz9 a9 ⊢
        have s79 := n7.trans n9
        have D9 := (D5.same s79).up (m := n + nrN k) (by omega)
        have s09 := s05.sm s79
        have hv9 : VAt (CT K) (cut H9 ps) k x d := VAt.same (cut_sx (Sx.of s79)) hv5
        have okL : ∀ b : Bool, Ok (k + 1) (.seq b [d]) := fun b => .inr (.inl ⟨b, [d], rfl, by show 1 ≤ 4; decide, fun y hy => by rw [List.mem_singleton.mp hy]; exact ok⟩)
        have hc : rd = 6 ∨ rd = 7 ∨ rd = 8 := by omega
        rcases hc with rfl | rfl | rfl
        · exact ⟨l4, _, _, _, rfl, rfl, SqL.of a9, at_of (j := 0) rfl rfl, q (.ref l1) (.seq true [d]) H9 (.inr (.inl ⟨true, _, l1, _, rfl, rfl, cut_at np1 (s79 _ _ b1), .cons hv9 .nil⟩)) (okL true) D9 s09⟩
        · exact ⟨l4, _, _, _, rfl, rfl, SqL.of a9, at_of (j := 1) rfl rfl, q (.ref t1) (.seq false [d]) H9 (.inr (.inl ⟨false, _, t1, _, rfl, rfl, cut_at np2 (s79 _ _ b2), .cons hv9 .nil⟩)) (okL false) D9 s09⟩
        · exact ⟨l4, _, _, _, rfl, rfl, SqL.of a9, at_of (j := 2) rfl rfl, q (.ref z) (.tab [(y1, d)]) H9 hz9 (.inr (.inr ⟨_, rfl, okk⟩)) D9 s09⟩
      · have h5 : ¬ 5 < rd := fun z => h5 (decide_eq_true z)
        refine ⟨Nat.zero_le _, fun l1 hl1 => ⟨Nat.zero_le _, fun t1 ht1 => ⟨Nat.zero_le _, fun l3 hl3 => ?_⟩⟩⟩
        have n1 := Same.nu (o := .lst []) hl1
        have a1 : upd H2 l1 (.lst []) l1 = some (.lst []) := upd_same
        have np1 : l1 ∉ ps := g2.hs.new hl1
        generalize upd H2 l1 (.lst []) = H3 at n1 a1 ht1 hl3 ⊢
        have n2 := n1.trans (Same.nu (o := .tup []) ht1)
        have a2 := Same.nu (o := .tup []) ht1 _ _ a1
        have a3 : upd H3 t1 (.tup []) t1 = some (.tup []) := upd_same
        have np2 : t1 ∉ ps := (g2.hs.sx n1).new ht1
        generalize upd H3 t1 (.tup []) = H4 at n2 a2 a3 hl3 ⊢
        have n4 := n2.trans (Same.nu (o := .lst []) hl3)
        have a4 := Same.nu (o := .lst []) hl3 _ _ a2
        have a5 := Same.nu (o := .lst []) hl3 _ _ a3
        have a6 : upd H4 l3 (.lst []) l3 = some (.lst []) := upd_same
        generalize upd H4 l3 (.lst []) = H5 at n4 a4 a5 a6 ⊢
        have okk : okE k [] := ⟨by decide, .nil, fun _ h => nomatch h⟩
        refine mkT (es := []) a6 .nil okk (g2.hs.sx n4) (fun _ h => h) fun z H8 s8 hz => ⟨(by show 6 ≤ sizeLine; decide), fun l4 hl4 => ⟨_, rfl, ?_⟩⟩
        have n9 := s8.trans (Same.nu (o := .lst [V.non, .bl true, .ref l1, .ref t1, .ref z, .str "u"]) hl4)
        have hz9 := VAt.same (cut_sx (Sx.of (Same.nu (o := .lst [V.non, .bl true, .ref l1, .ref t1, .ref z, .str "u"]) hl4))) hz
        have a9 : upd H8 l4 (.lst [V.non, .bl true, .ref l1, .ref t1, .ref z, .str "u"]) l4 = some (.lst [V.non, .bl true, .ref l1, .ref t1, .ref z, .str "u"]) := upd_same
        generalize upd H8 l4 (.lst [V.non, .bl true, .ref l1, .ref t1, .ref z, .str "u"]) = H9 at n9 hz9 a9 ⊢
        have D9 := (D2.same (n4.trans n9)).up (m := n + nrN k) (by omega)
        have s09 := s02.sm (n4.trans n9)
        have hc : rd = 0 ∨ rd = 1 ∨ rd = 2 ∨ rd = 3 ∨ rd = 4 ∨ rd = 5 := by omega
        rcases hc with rfl | rfl | rfl | rfl | rfl | rfl
        · exact ⟨l4, _, _, _, rfl, rfl, SqL.of a9, at_of (j := 0) rfl rfl, q .non .non H9 (VAt.flat rfl) (Ok.flat trivial) D9 s09⟩
        · exact ⟨l4, _, _, _, rfl, rfl, SqL.of a9, at_of (j := 1) rfl rfl, q (.bl true) (.bl true) H9 (VAt.flat rfl) (Ok.flat trivial) D9 s09⟩
        · exact ⟨l4, _, _, _, rfl, rfl, SqL.of a9, at_of (j := 2) rfl rfl, q (.ref l1) (.seq true []) H9 (.inr (.inl ⟨true, _, l1, _, rfl, rfl, cut_at np1 (n9 _ _ a4), .nil⟩)) (.inr (.inl ⟨true, _, rfl, by decide, fun _ h => nomatch h⟩)) D9 s09⟩
        · exact ⟨l4, _, _, _, rfl, rfl, SqL.of a9, at_of (j := 3) rfl rfl, q (.ref t1) (.seq false []) H9 (.inr (.inl ⟨false, _, t1, _, rfl, rfl, cut_at np2 (n9 _ _ a5), .nil⟩)) (.inr (.inl ⟨false, _, rfl, by decide, fun _ h => nomatch h⟩)) D9 s09⟩
        · exact ⟨l4, _, _, _, rfl, rfl, SqL.of a9, at_of (j := 4) rfl rfl, q (.ref z) (.tab []) H9 hz9 (.inr (.inr ⟨_, rfl, okk⟩)) D9 s09⟩
        · exact ⟨l4, _, _, _, rfl, rfl, SqL.of a9, at_of (j := 5) rfl rfl, q (.str "u") (.str "u") H9 (VAt.flat rfl) (Ok.flat (by show (Str.ofString "u").length ≤ 60; decide +kernel)) D9 s09⟩
    cases d with
    | seq b l =>
      rw [show (isT "list" (.seq b l) || isT "tuple" (.seq b l)) = true by cases b <;> rfl]
      obtain ⟨j, a, xs, ej, rfl, ha, hx⟩ := at_list hv0
      have hl := Paired.length hx
      refine iteT ⟨_, rfl, .inl ⟨a, xs, rfl, sqB_or (sqB_of (cut_le _ _ ha)), _, _, rfl, rfl, _, rfl, ?_⟩⟩
      by_cases hl0 : 0 < l.length
      · cases hsR j ej
        subst ej
        refine ite2 (fun _ => ⟨_, rfl, _, rfl, _, rfl, p, t, .ref a, b, l, n, ps, rfl, g0, hn, hl0, hv0, ok, fun y e H' h1 h2 h3 h4 => q y e H' h1 h2 h3 (s0.trans h4)⟩) (fun z => absurd (decide_eq_true (by omega)) z)
      · refine ite2 (fun z => absurd (of_decide_eq_true z) (by omega)) (fun _ => ⟨_, rfl, _, _, t1, _, _, rfl, .own _, y1, k1, _, rfl, ?_⟩)
        cases b with
        | true => exact iteF leaf
        | false => exact iteF leaf
    | tab es =>
      obtain ⟨j, p1, dx, dd, od, kvs, ej, rfl, hp, hd, hpr⟩ := at_tab hv0
      subst ej
      refine iteF ⟨_, rfl, _, _, t1, _, _, rfl, .own _, y1, k1, _, rfl, iteT ⟨_, rfl, .inr ⟨p1, dx, _, rfl, cut_le _ _ hp, .ref p1, j, es, rfl, VAt.same cut_le hv0, es.length, rfl, by omega, by have := (ok_tab ok).1; omega, _, _, rfl, rfl, _, rfl, ?_⟩⟩⟩
      by_cases hl0 : 0 < es.length
      · cases hsT j rfl
        refine ite2 (fun _ => ⟨_, rfl, _, rfl, p1, dx, _, rfl, cut_le _ _ hp, rfl, .ref p1, es, ps, rfl, g0.hs, hv0, ok_tab ok, fun H2 l ts s2 hl0' hl hE => ?_⟩) (fun z => absurd (decide_eq_true (by omega)) z)
        have lp : l ≠ p := D0.ne hl0'
        refine ⟨_, rfl, p, t, l, ts, es, n, ps, rfl, g0.to (Sx.of s2) (D0.same s2), hn, hl0, lp, hl, Paired.mapP hE fun _ _ h => ?_, ok_tab ok, fun y e H' h1 h2 h3 h4 => q y e H' h1 h2 h3 ((s0.sm s2).trans h4)⟩
        obtain ⟨b, y, e1, h1, h2⟩ := h
        exact ⟨b, y, e1, h1, VAt.same (cut_mono fun b hb => List.mem_cons_of_mem _ hb) h2⟩
      · refine ite2 (fun z => absurd (of_decide_eq_true z) (by omega)) (fun _ => leaf)
    | _ => exact iteF ⟨_, rfl, _, _, t1, _, _, rfl, .own _, y1, k1, _, rfl, iteF leaf⟩
theorem ok__law_near (T : Tx w K mg) : ∀ k, Gd P w K base mg CX0 (2 * (k + 1) + 2) (He.fAd K d__law_near.at_) ["_law_source_here", "_law_value_here", "_law_twins_here"] [] (spNear K k) :=
  recGdN (fun k => 2 * k + 2) (fun l => mkGdF (T.f__law_near) sc__law_near (fun _ _ _ _ _ _ us hl => match us, hl with | [_, _, _], _ => rfl) l) fun k G => st__law_near T k G
end
end Kt
set_option Elab.async false
set_option linter.all false
set_option maxRecDepth 100000
set_option maxHeartbeats 4000000
namespace Kt
open PySem PySem.Spec PyProof.Rows L2 Rz _root_.TL
section
variable {P : Program} {w : World} {K : PySem.W.Frag} {mg : Str → Option Value} {base : Heap}
def spBeside (K : PySem.W.Frag) (k : Nat) : Sp := fun vs H Q _ => ∃ (p t : Addr) (x : V) (d : Val) (n : Nat) (ps : List Addr), vs = [.ref p, x, .ref t] ∧ Nv H p t n ps ∧ n + nrN k + 10 ≤ 400000 ∧ VAt (CT K) (cut H ps) k x d ∧ Ok k d ∧ T3 d ∧
  ∀ y e H', VAt (CT K) H' (k + 1) y e → Ok (k + 1) e → Sx [p] H H' → Dr H' p (n + nrN k + 10) → Q y H'
theorem ok__law_beside (T : Tx w K mg) (k : Nat) : Gd P w K base mg CX0 (2 * (k + 1) + 4) (He.fAd K d__law_beside.at_) ["_law_source_here", "_law_value_here", "_law_twins_here"] [] (spBeside K k) := by
  have G__law_draw := ok__law_draw (P := P) (w := w) (base := base) T
  have G__law_key := ok__law_key (P := P) (w := w) (base := base) T
  have G__law_spelt := ok__law_spelt (P := P) (w := w) (base := base) T k
  have G__law_turned := ok__law_turned (P := P) (w := w) (base := base) T k
  have G__law_near := ok__law_near (P := P) (w := w) (base := base) T k
  have G_Table_with_entry := ok_Table_with (P := P) (w := w) (base := base) T (k - 1)
  refine mkGd (T.f__law_beside) sc__law_beside (fun vs H Q E h => ?_) (fun _ _ _ _ _ _ us hl => match us, hl with | [_, _, _], _ => rfl) (fun cdv A outer s H vs Q E hr h => ?_)
  · obtain ⟨p, t, x, d, n, ps, rfl, _⟩ := h
    rfl
  · have hu := hu_of hr
    obtain ⟨p, t, x, d, n, ps, rfl, g, hn, hv, ok, h3, q⟩ := h
    refine ⟨_, (pss_cons (ps_set (i := 3) sc__law_beside.nd rfl (Or.inl rfl) (pe_callG G__law_draw T.g__law_draw (hr.mono (by first | decide | omega)) pass0 (pa_cons (pv 0) (pa_cons pe_int pa_nil))))
      (pss_cons (ps_if (pt_cmpR op_eq (pv 3) pe_int (nomark _)) (pss_one (ps_ret (pe_callG G__law_spelt T.g__law_spelt (hr.mono (by first | decide | omega)) pass0 (pa_cons (pv 1) pa_nil)))) pss_nil)
      (pss_cons (ps_if (pt_cmpR op_lt (pv 3) pe_int (nomark _)) (pss_one (ps_ret (pe_callG G__law_turned T.g__law_turned (hr.mono (by first | decide | omega)) pass0 (pa_cons (pv 1) (pa_cons (pe_cmpR op_eq (pv 3) pe_int (nomark _)) pa_nil))))) pss_nil)
      (pss_cons (ps_if (PW.pt (pw_and (pt_cmpR op_eq (pv 3) pe_int (nomark _)) (pw_and1 (pt_val (pe_callB call_isi (by rfl) T.n_isinstance (by decide +kernel) (pa_cons (pv 1) (pa_cons (pe_glob (v := .ref (He.ga K "Table")) rfl T.g_Table rfl) pa_nil))))))) (pss_one (ps_ret (pe_methG (pv 1) T.cl_Table T.m_Table_with_entry G_Table_with_entry (hr.mono (by first | decide | omega)) pass0 (pa_cons (pe_callG G__law_key T.g__law_key (hr.mono (by first | decide | omega)) pass0 (pa_cons (pv 0) (pa_cons (pv 2) pa_nil))) (pa_cons pe_non pa_nil))))) pss_nil)
      (pss_one (ps_ret (pe_callG G__law_near T.g__law_near (hr.mono (by first | decide | omega)) pass0 (pa_cons (pv 0) (pa_cons (pv 1) (pa_cons (pv 2) pa_nil)))))))))), ?_⟩
    refine ⟨_, rfl, p, n, 5, rfl, g.gd, by omega, by decide, by decide, fun rd H1 r0 r1 D1 s1 => ?_⟩
    have g1 := g.to s1 D1
    have hv1 : VAt (CT K) (cut H1 ps) k x d := VAt.same (cut_p s1 g.pp) hv
    refine ⟨_, rfl, rfl, _, rfl, ite2 (fun _ => ⟨_, rfl, x, d, ps, rfl, g1.hs, hv1, ok, fun H' y e s2 hy oky => q y e H' (VAt.up (VAt.same cut_le hy)) oky.up (s1.sm s2) ((D1.same s2).up (by omega))⟩) (fun _ => ?_)⟩
    refine ⟨_, rfl, _, _, rfl, rfl, _, rfl, ite2 (fun _ => ⟨_, rfl, _, rfl, rfl, x, _, d, ps, rfl, g1.hs, hv1, ok, fun H' y e s2 hy oky => q y e H' (VAt.up (VAt.same cut_le hy)) oky.up (s1.sm s2) ((D1.same s2).up (by omega))⟩) (fun _ => ?_)⟩
    have near : tRet (tCall (spNear K k) [] E0 (tCons (tVar 0) (tCons (tVar 1) (tCons (tVar 2) tNil)))) { nx := fun _ H' => Q .non H', rt := Q } ((L2.start N__law_beside [V.ref p, x, V.ref t]).set 3 (some (.int rd))) H1 :=
      ⟨_, rfl, _, rfl, _, rfl, p, t, x, d, n + 1, ps, rfl, g1, by omega, hv1, ok, fun y e H' h1 h2 h3 h4 => q y e H' (VAt.same cut_le h1) h2 (s1.trans h4) (h3.up (by omega))⟩
    refine ⟨_, rfl, rfl, _, rfl, ite2 (fun _ => ?_) (fun _ => near)⟩
    obtain ⟨t1, y1, k1⟩ := isiC T cut_le hv1
    refine ⟨_, rfl, _, _, t1, _, _, rfl, .own _, y1, k1, _, rfl, ?_⟩
    cases d with
    | tab es =>
      obtain ⟨j, p1, dx, dd, od, kvs, ej, rfl, hp, hd, hpr⟩ := at_tab hv1
      subst ej
      have np : p1 ≠ p := fun z => cut_not hp (by rw [z]; exact g.pp)
      refine iteT ⟨_, rfl, p1, dx, _, rfl, cut_le _ _ hp, rfl, _, rfl, _, rfl, p, t, n + 1, rfl, D1, by omega, g1.gt, g.tn, fun key H2 ok2 D2 s2 => ?_⟩
      refine ⟨.ref p1, key, es, rfl, VAt.same cut_le (VAt.same (cut_p s2 g.pp) hv1), ok_tab ok, h3 es rfl, ok2, fun H' z es3 s3 hz okz => q z _ H' (VAt.up hz) (.inr (.inr ⟨es3, rfl, (okE_up okz)⟩)) ((s1.trans s2).sm s3) ((D2.same s3).up (by omega))⟩
    | seq b l => cases b with
      | true => exact iteF near
      | false => exact iteF near
    | _ => exact iteF near
end
end Kt
set_option Elab.async false
set_option linter.all false
set_option maxRecDepth 100000
set_option maxHeartbeats 4000000
namespace Kt
open PySem PySem.Spec PyProof.Rows L2 Rz _root_.TL
section
variable {P : Program} {w : World} {K : PySem.W.Frag} {mg : Str → Option Value} {base : Heap}
theorem Gd.imp {CX : CXT} {l : Nat} {f : Addr} {ps : List Str} {sp sp' : Sp} (G : Gd P w K base mg CX l f ps [] sp) (h : ∀ vs H Q E, sp' vs H Q E → sp vs H Q E) : Gd P w K base mg CX l f ps [] sp' := by
  obtain ⟨⟨fd, dv, F, h1, h2⟩, h3⟩ := G
  exact ⟨⟨fd, dv, F.imp h, h1, h2⟩, h3⟩
/-- what confused tells -/
def Fd (K : PySem.W.Frag) (o : Opt) (r : ROpt) (v : V) (H : Hp) : Prop := (v = .non ∧ ∀ q ∈ pairsV, ¬ confB o r 1 q.1 q.2) ∨
  ∃ i pr t x y, v = .ref t ∧ FoundP o r i pr ∧ H t = some (.tup [x, y]) ∧ VAt (CT K) H 1 x pr.1 ∧ VAt (CT K) H 1 y pr.2
theorem Fd.x {o : Opt} {r : ROpt} {v : V} {H H' : Hp} (h : Fd K o r v H) (s : LamX.ExtN H H') : Fd K o r v H' := by
  rcases h with h | ⟨i, pr, t, x, y, e, hf, h1, h2, h3⟩
  · exact .inl h
  · exact .inr ⟨i, pr, t, x, y, e, hf, s _ _ h1 (fun _ z => nomatch z), VAt.x s h2, VAt.x s h3⟩
def spConf2 (K : PySem.W.Frag) : Sp := fun vs H Q _ => ∃ (p : Addr) (o : Opt) (r : ROpt), vs = [.ref p] ∧ PAt K H p o r ∧ LamX.Tabs (TT K) H ∧ ∀ v H', Xt K H H' → Fd K o r v H' → Q v H'
theorem conf2 (vs : List V) (H : Hp) (Q : VK) (E : XK) (h : spConf2 K vs H Q E) : spConf K vs H Q E := by
  obtain ⟨p, o, r, e, h1, h2, q⟩ := h
  exact ⟨p, o, r, e, h1, h2, fun hno H' X => q .non H' X (.inl ⟨rfl, hno⟩), fun i pr hf H' t x y X a1 a2 a3 => q (.ref t) H' X (.inr ⟨i, pr, t, x, y, rfl, hf, a1, a2, a3⟩)⟩
theorem found_ok {o : Opt} {r : ROpt} {i : Nat} {pr : Val × Val} (h : FoundP o r i pr) : Ok 1 pr.1 ∧ Ok 1 pr.2 := Ok_pairs pr (List.mem_of_getElem? h.1)
theorem found_ne {o : Opt} {r : ROpt} {i : Nat} {pr : Val × Val} (h : FoundP o r i pr) : pr.1 ≠ pr.2 := by
  have h := List.mem_of_getElem? h.1
  simp only [pairsV, List.mem_cons, List.not_mem_nil, or_false] at h
  rcases h with rfl | rfl | rfl | rfl | rfl | rfl
  · intro z; injection z with z _; cases z
  · intro z; cases z
  · intro z; injection z with z; cases z
  · intro z; injection z with z; cases z
  · intro z
    injection z with z
    injection z with z _
    injection z with z _
    cases z
  · intro z
    injection z with z
    injection z with z _
    injection z with z _
    injection z with z
    exact absurd z (by decide +kernel)
theorem tabs_sx {T : List (Addr × Str)} {H H' : Hp} {ps : List Addr} (t : LamX.Tabs T H) (s : Sx ps H H') (h : ∀ b ∈ ps, ∃ xs, H b = Option.some (HO.lst xs)) : LamX.Tabs T H' := fun r hr => by
  obtain ⟨q1, q2, q3, q4⟩ := t r hr
  refine ⟨q1, s _ _ (fun z => ?_) q2, q3, fun a b c => ?_⟩
  · obtain ⟨xs, e⟩ := h _ z
    rw [q2] at e
    cases e
  · obtain ⟨c1, c2, c3⟩ := q4 a b c
    refine ⟨c1, c2, s _ _ (fun z => ?_) c3⟩
    obtain ⟨xs, e⟩ := h _ z
    rw [c3] at e
    have e := Option.some.inj e
    unfold LamX.CodeO at e
    cases e
theorem Dr.isL {H : Hp} {p : Addr} {n : Nat} (h : Dr H p n) : ∃ xs, H p = Option.some (HO.lst xs) := by
  obtain ⟨g, k, c, h1, _⟩ := h
  exact ⟨_, h1⟩
theorem sqL_x {K : PySem.W.Frag} {H H' : Hp} {a : Addr} {xs : List V} (s : LamX.ExtN H H') (h : SqL K H a xs) : SqL K H' a xs :=
  h.imp_left fun r => r.elim (fun z => .inl (s _ _ z fun _ y => nomatch y)) fun ⟨o, z⟩ => .inr ⟨o, s _ _ z fun _ y => nomatch y⟩
theorem KL.x {H H' : Hp} {l : Addr} (h : KL H l) (s : LamX.ExtN H H') : KL H' l := by
  obtain ⟨ks, h1, h2⟩ := h
  exact ⟨ks, s _ _ h1 (fun _ z => nomatch z), h2⟩
theorem AL.x {H H' : Hp} {l : Addr} (h : AL H l) (s : LamX.ExtN H H') : AL H' l := by
  obtain ⟨ks, h1, h2⟩ := h
  exact ⟨ks, s _ _ h1 (fun _ z => nomatch z), h2⟩
def spLaw (K : PySem.W.Frag) : Sp := fun vs H Q _ => ∃ (a : Addr) (ns : List Int), vs = [.ref a] ∧ SqL K H a (ns.map V.int) ∧ ns.length ≤ 63 ∧ LamX.Tabs (TT K) H ∧ ∀ H', Q (.bl true) H'
theorem ok_law (T : Tx w K mg) (hTB : LamX.TabB base mg (He.codeOf K keD) (keT K)) {fd : FuncData} (F : FunD K d_law.name d_law.qual (defArgs s_law) (defBody s_law) (defScope s_law) (d_law.dvs K) (d_law.kws K) (He.fAd K d_law.at_) fd) :
    FnOk P w K mg base CX0 24 (He.fAd K d_law.at_) fd ["_law_script"] (spLaw K) := by
  have G__law_source := ok__law_source (P := P) (w := w) (base := base) T
  have G__law_focus := ok__law_focus (P := P) (w := w) (base := base) T
  have G__law_atoms := ok__law_atoms (P := P) (w := w) (base := base) T
  have G__law_passage := ok__law_passage (P := P) (w := w) (base := base) T
  have G__law_strict := ok__law_strict (P := P) (w := w) (base := base) T
  have G_confused := Gd.imp (ok_confused (P := P) (w := w) (base := base) T hTB) conf2
  have G_conf1 := ok_confuses (P := P) (w := w) (base := base) T hTB 1 (by decide)
  have G__law_confuses := ok_confuses (P := P) (w := w) (base := base) T hTB 5 (by decide)
  have G__law_value := ok__law_value (P := P) (w := w) (base := base) T 4
  have G__law_beside := ok__law_beside (P := P) (w := w) (base := base) T 4
  have G__law_twins := ok__law_twins (P := P) (w := w) (base := base) T
  have G__law_parts := ok__law_parts (P := P) (w := w) (base := base) T 5
  refine F.ok sc_law (fun vs H Q E h => ?_) (fun cdv A outer s H vs Q E hr h => Exists.elim (?_ : ∃ t, PSs (cxOf CX0 P w K mg base N_law d_law.qual (defScope s_law) (He.fAd K d_law.at_) cdv A outer s H E).nox (defBody s_law) t ∧ t { nx := fun _ H2 => Q .non H2, rt := Q } (start N_law vs) H) fun t z => ⟨t, z.1.nox, z.2⟩)
  · obtain ⟨a, ns, rfl, _⟩ := h
    rfl
  · have hu := hu_of hr
    obtain ⟨a, ns, rfl, hS, hl, hT, q⟩ := h
    refine ⟨_, (pss_cons (ps_for PassesOwn.never rfl (pi_range1 rfl T.n_range (pa_cons (pe_callB (call_max2 rfl) (by rfl) T.n_max (by decide +kernel) (pa_cons pe_int (pa_cons (pe_callB (call_min2 rfl) (by rfl) T.n_min (by decide +kernel) (pa_cons pe_int (pa_cons (pe_callB call_len_seq (by rfl) T.n_len PySem.boot_len (pa_cons (pv 0) pa_nil)) pa_nil))) pa_nil))) pa_nil)) (pg_name (i := 1) sc_law.nd rfl (Or.inl rfl))
      (pss_cons (ps_set (i := 2) sc_law.nd rfl (Or.inl rfl) (pe_callG G__law_source T.g__law_source (hr.mono (by first | decide | omega)) pass0 (pa_cons (pv 0) (pa_cons (pv 1) pa_nil))))
      (pss_cons (ps_par (i := 3) (j := 4) (by rfl) sc_law.nd rfl rfl (by decide) rfl rfl (pa_cons (pe_callG G__law_focus T.g__law_focus (hr.mono (by first | decide | omega)) pass0 (pa_cons (pv 2) pa_nil)) (pa_cons (pe_callG G__law_atoms T.g__law_atoms (hr.mono (by first | decide | omega)) pass0 (pa_cons (pv 2) pa_nil)) pa_nil)) (by rfl))
      (pss_cons (ps_set (i := 5) sc_law.nd rfl (Or.inl rfl) (pe_callG G__law_strict T.g__law_strict (hr.mono (by first | decide | omega)) pass0 (pa_cons (pv 2) (pa_cons (pe_callG G__law_passage T.g__law_passage (hr.mono (by first | decide | omega)) pass0 (pa_cons (pv 2) pa_nil)) pa_nil))))
      (pss_cons (ps_set (i := 6) sc_law.nd rfl (Or.inl rfl) (pe_callG G_confused T.g_confused (hr.mono (by first | decide | omega)) pass0 (pa_cons (pv 5) pa_nil)))
      (C8.pss_cut (ps_if (pt_cmpR op_notN (pv 6) pe_non (nomark _)) (pss_one (ps_if (PW.pt (pw_or (pt_not (pt_val (pe_callB call_isi (by rfl) T.n_isinstance (by decide +kernel) (pa_cons (pv 6) (pa_cons (pe_bltn (v := .ty "tuple") (u := .type "tuple") (by rfl) T.n_tuple (by decide +kernel) rfl) pa_nil))))) (pw_or (pt_cmpR op_ne (pe_callB call_len_seq (by rfl) T.n_len PySem.boot_len (pa_cons (pv 6) pa_nil)) pe_int (nomark _)) (pw_or1 (pt_not (pt_val (pe_callG G_conf1 T.g__law_confuses (hr.mono (by first | decide | omega)) pass0 (pa_cons (pv 5) (pa_cons (pe_ix (r := rIxT K) ix_tup (pv 6) pe_int (fun _ _ => rfl)) (pa_cons (pe_ix (r := rIxT K) ix_tup (pv 6) pe_int (fun _ _ => rfl)) pa_nil)))))))))) (pss_one (ps_ret pe_bl)) pss_nil)) pss_nil)
      (pss_one (ps_for PassesOwn.never rfl (pi_range2 rfl T.n_range (pa_cons pe_int (pa_cons (pe_callB (call_max2 rfl) (by rfl) T.n_max (by decide +kernel) (pa_cons pe_int (pa_cons (pe_callB (call_min2 rfl) (by rfl) T.n_min (by decide +kernel) (pa_cons pe_int (pa_cons (pe_callB call_len_seq (by rfl) T.n_len PySem.boot_len (pa_cons (pv 0) pa_nil)) pa_nil))) pa_nil))) pa_nil))) (pg_name (i := 7) sc_law.nd rfl (Or.inl rfl))
      (pss_cons (ps_set (i := 2) sc_law.nd rfl (Or.inl rfl) (pe_callG G__law_source T.g__law_source (hr.mono (by first | decide | omega)) pass0 (pa_cons (pv 0) (pa_cons (pv 7) pa_nil))))
      (pss_cons (ps_set (i := 8) sc_law.nd rfl (Or.inl rfl) (pe_callG G__law_value T.g__law_value (hr.mono (by first | decide | omega)) pass0 (pa_cons (pv 2) (pa_cons pe_int (pa_cons (pe_callG G__law_twins T.g__law_twins (hr.mono (by first | decide | omega)) pass0 (pa_cons (pv 3) pa_nil)) (pa_cons (pv 4) (pa_cons (pe_lst (pa_cons (pe_op op_add pe_int (pe_op op_fdiv (pv 7) pe_int)) pa_nil)) pa_nil)))))))
      (pss_cons (ps_set (i := 9) sc_law.nd rfl (Or.inl rfl) (pe_callG G__law_beside T.g__law_beside (hr.mono (by first | decide | omega)) pass0 (pa_cons (pv 2) (pa_cons (pv 8) (pa_cons (pe_callG G__law_twins T.g__law_twins (hr.mono (by first | decide | omega)) pass0 (pa_cons (pv 3) pa_nil)) pa_nil)))))
      (pss_one (ps_if (pt_val (pe_callG G__law_confuses T.g__law_confuses (hr.mono (by first | decide | omega)) pass0 (pa_cons (pv 5) (pa_cons (pv 8) (pa_cons (pv 9) pa_nil))))) (pss_cons (ps_set (i := 10) sc_law.nd rfl (Or.inl rfl) (pe_op op_add (pe_callG G__law_parts T.g__law_parts (hr.mono (by first | decide | omega)) pass0 (pa_cons (pv 8) pa_nil)) (pe_callG G__law_parts T.g__law_parts (hr.mono (by first | decide | omega)) pass0 (pa_cons (pv 9) pa_nil))))
      (pss_one (ps_if (PW.pt (pw_or (pt_cmpR op_isN (pv 6) pe_non (nomark _)) (pw_or1 (pt_cmpR op_lt (pv 10) (pe_op op_add (pe_callG G__law_parts T.g__law_parts (hr.mono (by first | decide | omega)) pass0 (pa_cons (pe_ix (r := rIxT K) ix_tup (pv 6) pe_int (fun _ _ => rfl)) pa_nil)) (pe_callG G__law_parts T.g__law_parts (hr.mono (by first | decide | omega)) pass0 (pa_cons (pe_ix (r := rIxT K) ix_tup (pv 6) pe_int (fun _ _ => rfl)) pa_nil))) (nomark _))))) (pss_one (ps_ret pe_bl)) pss_nil))) pss_nil)))))))))))))
      (pss_one (ps_ret pe_bl))), ?_⟩
    refine ⟨_, rfl, a, _, rfl, .inl hS, _, _, rfl, _, _, rfl, _, rfl, ?b1, ?b2, for_range (lo := 0) (n := (if (if (((ns.map V.int).length : Nat) : Int) < 8 then (((ns.map V.int).length : Nat) : Int) else 8) > 1 then (if (((ns.map V.int).length : Nat) : Int) < 8 then (((ns.map V.int).length : Nat) : Int) else 8) else 1).toNat)
      (fun i σ H' => (∃ v1 v2 v3 v4 v5 v6 v7 v8 v9 v10, σ = [some (.ref a), v1, v2, v3, v4, v5, v6, v7, v8, v9, v10]) ∧ Xt K H H') ⟨⟨_, _, _, _, _, _, _, _, _, _, rfl⟩, Xt.same hT (Same.refl _)⟩ ?turn (fun σ H' _ => q H')⟩
    case b1 => split <;> split <;> omega
    case b2 => split <;> split <;> omega
    case turn =>
      rintro i σ H1 hi ⟨⟨v1, v2, v3, v4, v5, v6, v7, v8, v9, v10, rfl⟩, X1⟩
      have hi8 : i ≤ 8 := by
        have : (if (if (((ns.map V.int).length : Nat) : Int) < 8 then (((ns.map V.int).length : Nat) : Int) else 8) > 1 then (if (((ns.map V.int).length : Nat) : Int) < 8 then (((ns.map V.int).length : Nat) : Int) else 8) else 1).toNat ≤ 8 := by split <;> split <;> omega
        omega
      rw [Int.zero_add]
      refine ⟨_, rfl, _, rfl, a, ns, i, rfl, sqL_x X1.1 hS, by omega, fun p H2 hp s2 D2 => ?_⟩
      refine ⟨_, rfl, p, 0, rfl, D2, by decide, fun lk H3 hk nk D3 s3 => ⟨_, rfl, p, _, rfl, D3, by decide, fun la H4 hA na D4 s4 => ⟨_, _, rfl, ?_⟩⟩⟩
      refine ⟨_, rfl, _, rfl, p, _, rfl, D4, by decide, fun w0 o0 r0 H5 hP5 ho5 hr5 nw D5 s5 => ⟨p, _, w0, o0, r0, rfl, D5, by decide, hP5, ho5, hr5, nw, fun w1 o r H6 hP6 ho hro D6 s6 => ?_⟩⟩
      have x16 : LamX.ExtN H1 H6 := fun b u e nt => by
        have nb : b ≠ p := ne_of_none e hp
        exact s6.one nb (s5.one nb (s4.one nb (s3.one nb (s2 _ _ e))))
      have T6 : LamX.Tabs (TT K) H6 := tabs_sx (tabs_sx (tabs_sx (tabs_sx (X1.2.ext s2) s3 (by simpa using D2.isL)) s4 (by simpa using D3.isL)) s5 (by simpa using D4.isL)) s6 (by simpa using D5.isL)
      have X6 : Xt K H H6 := ⟨X1.1.trans x16, T6⟩
      have hk6 : KL H6 lk := ((hk.sx nk s4).sx nk s5).sx nk s6
      have hA6 : AL H6 la := (hA.sx (by simp [na]) s5).sx (by simp [na]) s6
      clear s2 s3 s4 s5 s6 D2 D3 D4 D5 D6 x16 hk hA hP5
      refine ⟨_, rfl, w1, o, r, rfl, hP6, X6.2, fun v H7 X7 hF => ?_⟩
      have hk7 := hk6.x X7.1
      have hA7 := hA6.x X7.1
      have hP7 := PAt.x hP6 X7.1
      have hS7 := sqL_x (X6.1.trans X7.1) hS
      refine ⟨fun σ' H' => σ' = [some (.ref a), some (.int (i : Int)), some (.ref p), some (.ref lk), some (.ref la), some (.ref w1), some v, v7, v8, v9, v10] ∧ Xt K H7 H', ?_, ?_⟩
      · refine ⟨_, rfl, rfl, _, rfl, ?_⟩
        rcases hF with ⟨rfl, hno⟩ | ⟨fi, pr, t, x, y, rfl, hf, h1, h2, h3⟩
        · exact iteF ⟨rfl, Xt.same X7.2 (Same.refl _)⟩
        · obtain ⟨ok1, ok2⟩ := found_ok hf
          obtain ⟨t2, y2, k2⟩ := isi T "tuple" (Same.refl H7) (k := 2) (x := .ref t) (d := .seq false [pr.1, pr.2]) (.inr (.inl ⟨false, _, t, [x, y], rfl, rfl, h1, .cons h2 (.cons h3 .nil)⟩))
          refine iteT ⟨_, rfl, _, _, t2, _, _, rfl, .ty _, y2, k2, _, rfl, iteF ⟨_, rfl, t, [x, y], rfl, .inr (SqT.of h1), rfl, _, rfl, ?_⟩⟩
          refine iteF ⟨_, rfl, _, rfl, t, _, _, _, rfl, rfl, SqT.of h1, at_of (j := 0) rfl rfl, _, rfl, t, _, _, _, rfl, rfl, SqT.of h1, at_of (j := 1) rfl rfl, ?_⟩
          refine ⟨w1, x, y, o, r, pr.1, pr.2, rfl, hP7, h2, h3, ok1, ok2, X7.2, fun b H8 X8 hb => ⟨_, rfl, ?_⟩⟩
          have eb : b = true := hb.mpr ⟨found_ne hf, hf.2.1⟩
          subst eb
          exact iteF ⟨rfl, X8⟩
      · rintro σ' H13 ⟨rfl, X13⟩
        obtain ⟨mm, hmm, mm0, mm1⟩ : ∃ mm : Int, (if (if (((ns.map V.int).length : Nat) : Int) < 63 then (((ns.map V.int).length : Nat) : Int) else 63) > 10 then (if (((ns.map V.int).length : Nat) : Int) < 63 then (((ns.map V.int).length : Nat) : Int) else 63) else 10) = mm ∧ 10 ≤ mm ∧ mm ≤ 63 := ⟨_, rfl, by split <;> split <;> omega, by split <;> split <;> omega⟩
        refine ⟨_, rfl, a, _, rfl, .inl (sqL_x X13.1 hS7), _, _, rfl, _, _, rfl, 8, mm, by rw [← hmm], ⟨by decide, by decide, by omega, by omega⟩, for_range (lo := 8) (n := (mm - 8).toNat)
          (fun j σ H' => (∃ u2 u7 u8 u9 u10, σ = [some (.ref a), some (.int (i : Int)), u2, some (.ref lk), some (.ref la), some (.ref w1), some v, u7, u8, u9, u10]) ∧ Xt K H7 H')
          ⟨⟨_, _, _, _, _, rfl⟩, X13⟩ ?vals (fun σ H' h => ?_)⟩
        case vals =>
          rintro j σ H14 hj ⟨⟨u2, u7, u8, u9, u10, rfl⟩, X14⟩
          refine ⟨_, rfl, _, rfl, a, ns, 8 + j, congrArg (fun z => [V.ref a, V.int z]) (show (8 + (j : Int)) = ((8 + j : Nat) : Int) by omega), sqL_x X14.1 hS7, by omega, fun p2 H15 hp2 s15 D15 => ?_⟩
          have hk15 := (hk7.x X14.1).same s15
          have hA15 := (hA7.x X14.1)
          refine ⟨_, rfl, _, rfl, lk, rfl, hk15, fun t2 H16 hT2 ht2 s16 => ⟨_, rfl, _, rfl, _, _, rfl, rfl, ⟨by decide, by decide⟩, _, _, rfl, rfl, (by show 1 ≤ sizeLine; decide), fun r2 hr2 => ?_⟩⟩
          have D16 := D15.same s16
          have nu := Same.nu (o := .lst [V.int (2 + (8 + (j : Int)) / 2)]) hr2
          have rp2 : r2 ≠ p2 := D16.ne hr2
          have hk16 := (hk15.same s16).same nu
          obtain ⟨ks2, t21, t22⟩ := hT2
          obtain ⟨xs2, a21, a22⟩ := hA15
          have nt2 : t2 ∉ [p2, r2] := by
            simp only [List.mem_cons, List.not_mem_nil, or_false, not_or]
            exact ⟨D15.ne ht2, ne_of_none t21 hr2⟩
          have na2 : la ∉ [p2, r2] := by
            simp only [List.mem_cons, List.not_mem_nil, or_false, not_or]
            exact ⟨ne_of_none a21 hp2, ne_of_none ((s15.trans s16) _ _ a21) hr2⟩
          have nk2 : lk ∉ [p2, r2] := by
            obtain ⟨kk, k1, _⟩ := hk7.x X14.1
            simp only [List.mem_cons, List.not_mem_nil, or_false, not_or]
            exact ⟨ne_of_none k1 hp2, ne_of_none ((s15.trans s16) _ _ k1) hr2⟩
          have D17 := D16.same nu
          have g : Gv K (upd H16 r2 (.lst [V.int (2 + (8 + (j : Int)) / 2)])) p2 t2 la r2 0 [p2, r2] := ⟨D17, ⟨ks2, nu _ _ t21, t22⟩, ⟨xs2, nu _ _ ((s15.trans s16) _ _ a21), a22⟩, ⟨_, upd_same⟩, nt2, na2, rp2, fun b hb => by
            simp only [List.mem_cons, List.not_mem_nil, or_false] at hb
            rcases hb with rfl | rfl
            · exact D17.some
            · rw [upd_same]; simp, by simp, by simp⟩
          refine ⟨p2, t2, la, r2, 0, [p2, r2], rfl, g, by decide, fun x d H17 hv okd t3 D18 R18 s18 => ?_⟩
          have g17 := g.to s18 D18 R18
          have hk17 : KL H17 lk := by
            obtain ⟨kk, k1, k2⟩ := hk16
            exact ⟨kk, s18 _ _ nk2 k1, k2⟩
          refine ⟨_, rfl, _, rfl, _, rfl, lk, rfl, hk17, fun t4 H19 hT4 ht4 s19 => ?_⟩
          have D19 := D18.same s19
          have t4p : t4 ≠ p2 := D18.ne ht4
          refine ⟨p2, t4, x, d, 0 + drN 4, [p2, r2], rfl, ⟨D19, hT4, t4p, g17.hs.sx s19, by simp⟩, by decide, VAt.same (cut_sx (Sx.of s19)) hv, okd, t3, fun y e H20 hy oke s20 D20 => ?_⟩
          have hx20 : VAt (CT K) H20 4 x d := VAt.same cut_le (VAt.same (cut_p (ps := [p2, r2]) s20 (by simp)) (VAt.same (cut_sx (Sx.of s19)) hv))
          have x20 : LamX.ExtN H14 H20 := fun b u e nt => by
            have e1 := nu _ _ (s16 _ _ (s15 _ _ e))
            have nb : b ≠ p2 := ne_of_none e hp2
            refine s20.one nb (s19 _ _ (s18 _ _ ?_ e1))
            simp only [List.mem_cons, List.not_mem_nil, or_false, not_or]
            exact ⟨nb, ne_of_none (s16 _ _ (s15 _ _ e)) hr2⟩
          have T17 : LamX.Tabs (TT K) H17 := tabs_sx (((X14.2.ext s15).ext s16).ext nu) s18 fun b hb => by
            simp only [List.mem_cons, List.not_mem_nil, or_false] at hb
            rcases hb with rfl | rfl
            · exact D17.isL
            · exact ⟨_, upd_same⟩
          have T20 : LamX.Tabs (TT K) H20 := tabs_sx (T17.ext s19) s20 (by simpa using D19.isL)
          have X20 : Xt K H7 H20 := ⟨X14.1.trans x20, T20⟩
          have hx20' := VAt.up hx20
          refine ⟨_, rfl, _, rfl, _, rfl, w1, x, y, o, r, d, e, rfl, PAt.x hP7 X20.1, hx20', hy, okd.up, oke, X20.2, fun b H21 X21 hb => ⟨_, rfl, ?_⟩⟩
          have X721 := Xt.trans X20 X21
          cases b with
          | false => exact iteF ⟨⟨_, _, _, _, _, rfl⟩, X721⟩
          | true =>
            obtain ⟨hde, hcb⟩ := hb.mp rfl
            refine iteT ⟨_, rfl, 5, x, d, by decide, rfl, VAt.x X21.1 hx20', okd.up, fun H22 s22 => ⟨_, rfl, 5, y, e, by decide, rfl, VAt.same s22 (VAt.x X21.1 hy), oke, fun H23 s23 => ⟨_, _, rfl, rfl, ?_⟩⟩⟩
            have X23 := X721.of (s22.trans s23)
            have hF23 := hF.x X23.1
            refine ⟨_, rfl, rfl, _, rfl, ?_⟩
            rcases hF23 with ⟨rfl, hno⟩ | ⟨fi, pr, t, x1, y1, rfl, hf, h1, h2, h3⟩
            · exact absurd (law_none ho hno okd.up oke hcb) hde
            · obtain ⟨ok1, ok2⟩ := found_ok hf
              refine iteF ⟨_, rfl, _, rfl, t, _, _, _, rfl, rfl, SqT.of h1, at_of (j := 0) rfl rfl, 1, x1, pr.1, by decide, rfl, h2, ok1, fun H24 s24 => ⟨_, rfl, t, _, _, _, rfl, rfl, SqT.of (s24 _ _ h1), at_of (j := 1) rfl rfl, 1, y1, pr.2, by decide, rfl, VAt.same s24 h3, ok2, fun H25 s25 => ⟨_, _, rfl, rfl, _, _, rfl, rfl, _, rfl, ite2 (fun hlt => ?_) (fun _ => ⟨⟨_, _, _, _, _, rfl⟩, X23.of (s24.trans s25)⟩)⟩⟩⟩
              have hlt : ((Rz.parts 5 d : Nat) : Int) + ((Rz.parts 5 e : Nat) : Int) < ((Rz.parts 1 pr.1 : Nat) : Int) + ((Rz.parts 1 pr.2 : Nat) : Int) := of_decide_eq_true hlt
              have hm : Rz.parts 1 pr.1 + Rz.parts 1 pr.2 ≤ Rz.parts 5 d + Rz.parts 5 e := law_found ho hf okd.up oke hde hcb
              omega
        obtain ⟨⟨u2, u7, u8, u9, u10, rfl⟩, X14⟩ := h
        exact ⟨⟨_, _, _, _, _, _, _, _, _, _, rfl⟩, Xt.trans (Xt.trans X6 X7) X14⟩
end
end Kt
set_option Elab.async false
set_option linter.all false
set_option maxRecDepth 100000
set_option maxHeartbeats 0
namespace Kt
open PySem PySem.Spec PyProof.Rows L2
theorem tabs0 {K : PySem.W.Frag} {H : Hp} (h : H (keT K) = some (.tbl #[])) : LamX.Tabs (TT K) H := fun p hp => by
  rw [List.mem_singleton.mp hp]
  exact ⟨#[], h, trivial, fun _ _ z => by cases z⟩
theorem lawAt {l : PySem.W.OpenLaw} {w : World} {K : PySem.W.Frag} {h : Heap} {mg : Str → Option Value} {f : Addr} (X : K.In h) (G : h.Ns mainGlobals mg) (hfa : mg ("law" : Str) = some (.ref f))
    (c : He.SaysX fa fn [] tf extra w h K) : LamX.LawAtS l w K CX0 24 63 "_law_script" mg f h := by
  have T : Tx w K mg := ⟨h, X, G, c⟩
  obtain ⟨fd, F⟩ := T.f_law
  have e := hfa.symm.trans T.g_law
  cases e
  have b := FunD.bindsA (ps := ["_law_script"]) F fun _ _ _ _ _ _ us hl => match us, hl with | [_], _ => rfl
  have m : keD ∈ tf := List.mem_singleton.mpr rfl
  refine ⟨fd, [(He.codeOf K keD, keT K)], spLaw K, fun p hp => ?_, fun p hp => ?_, fun p hp => ?_, fun s v => b s [v] rfl, fun H a ns hl _ hT hS => ⟨a, ns, rfl, hS, hl, tabs0 (hT (He.codeOf K keD, keT K) (List.mem_singleton.mpr rfl)), fun _ => rfl⟩, fun base _ _ hTB => ok_law T (hTB (He.codeOf K keD, keT K) (List.mem_singleton.mpr rfl)) F⟩
  · rw [List.mem_singleton.mp hp]
    exact c.empty _ m
  · rw [List.mem_singleton.mp hp]
    exact c.out _ m
  · rw [List.mem_singleton.mp hp]
    exact PySem.W.codeHd_of_K X (c.hd _ m)
end Kt
open PySem PySem.W PySem.Calls PyProof.Rows
theorem PySem.Challenge.cw_keysthroughtext_k85_whole_nothing_is_con_holds : PySem.Challenge.rw_keysthroughtext_k85_whole_nothing_is_con.Holds := by
  w_on; o_law
  refine HandSHeadRun.head_any (r := OpenLaw.row PySem.Challenge.rw_keysthroughtext_k85_whole_nothing_is_con) (q := view (OpenLaw.row PySem.Challenge.rw_keysthroughtext_k85_whole_nothing_is_con).prog [68]) (H := Kt.hk) (ob := Kt.ob) (M := 90000) (loose := Kt.looseN) (d := HandSHeadRun.topDef (OpenLaw.row PySem.Challenge.rw_keysthroughtext_k85_whole_nothing_is_con).prog 68) (kwd := []) Kt.ob_eq
    (by kernel_rfl) (fun s => by kernel_rfl) Kt.run (by kernel_rfl) (by kernel_rfl) (by kernel_rfl) (by rfl) (by first | assumption | decide +kernel) (by decide +kernel) ⟨rfl, rfl, rfl, rfl, rfl, by decide +kernel⟩ ?hw ?hc
  case hw => w_witness2
  case hc =>
    refine LamX.walk_ofTsE (l := PySem.Challenge.rw_keysthroughtext_k85_whole_nothing_is_con) (n := 63) (k := 24) (x := "_law_script") (CX := fun _ => L2.CX0) rfl (by decide) (by kernel_rfl) ⟨rfl, by decide, by decide⟩ ?F (fun _ _ _ _ _ z => z)
    intro w mg fa h Y G hmg0
    obtain ⟨K, KX, c⟩ := Y
    have hmg : mg ("law" : PySem.Str) = some (.ref fa) := by
      have e : (HandSHeadRun.topDef (OpenLaw.row PySem.Challenge.rw_keysthroughtext_k85_whole_nothing_is_con).prog 68).name = ("law" : PySem.Str) := by kernel_rfl
      rw [← e]
      exact hmg0
    exact ⟨K, KX, Kt.lawAt KX G hmg c⟩
#print axioms PySem.Challenge.cw_keysthroughtext_k85_whole_nothing_is_con_holds
