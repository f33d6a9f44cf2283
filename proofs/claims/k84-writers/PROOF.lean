import PyProof.Rows.All
import Wide.All
import OpenK.AllK
import Wide.FinOn
import KE.GoesRaise
import HandS.ForMost
import HandS.Exc
import HandS.TryOnly
import HandS.ExcInit
import KE.GoesEnum
import HandS.Zip
import HandS.IsInst
import KE.SortUse
import HandS.Lambda
import HandS.SortKw
import HandS.Replace
import HandS.ReplaceLit
import HandS.ExcOwn
import HandS.ExcIs
import HandS.Style
import HandS.Codes
import HandS.Defaults
import HandS.MakeKwOnly
import HandS.ClsMeth
import HandS.SetKeys
import HandS.TupAny
import HandS.Wide
import HandS.WordsExc
import HandS.HeadHook4
import HandS.HeadWalk
import HandS.Head0
import HandS.Head1
import HandS.Head2
import KE.KExcIs
import HandS.Walk
import KE.DataEq
import PySem.Challenge.RW_keysthroughtext_k84_whole_writers_alike
set_option Elab.async false
set_option linter.all false
set_option maxRecDepth 100000
set_option maxHeartbeats 4000000
/-! a list comprehension whose element may let an error out -/
namespace Rz
open PySem PySem.Spec PyProof.Rows L2 HandSPX
abbrev Cx.bx (X : Cx) (s : Shared) (H : Hp) (sc : Scope) (ce : Env) (fp : List Addr) (xe : Value → Shared → Prop) : Cx := { X.blk s H sc ce fp with xe := xe }
/-- an error that a callee let out, over a state of ours: flying -/
theorem fly_of {X : Cx} {pins : List (Addr × Obj)} {σ : L2.St} {H : Hp} {s s' : Shared} {E : XK} {u : Value} (I : Inv X pins σ H s) (c : CX X.prog X.w X.stack H s E u s') :
    ∃ (a : Addr) (B : Heap) (t : Shared) (H' : Hp) (cls : Value) (d : Option Addr), u = .ref a ∧ (∃ pins' σ', Inv X pins' σ' H' t) ∧ (∀ b o, t.heap.get? b = some o → b ∉ frs X.stack → B.get? b = some o) ∧
      t.heap.UpToSlots s'.heap ∧ FlyingZ B X.stack a (Zc cls d) s'.heap ∧ H' a = none ∧ s'.os = t.os ∧ AllBare s'.gens ∧ E cls d H' := by
  obtain ⟨a1, _, _, _, _, ea, fl1, _⟩ := id c
  obtain ⟨a, B, t, pins', σ', H', cls, d, eb, J, nb, up, sky, na, os, ag, hE⟩ := XE.of_call (W := fun cls d _ H' => E cls d H') I (fun _ _ _ h => h) c
  have e1 : a1 = a := by rw [ea] at eb; cases eb; rfl
  subst e1
  obtain ⟨_, _, _, o1, v1, T1, oT1, t1, g1, _, d1, p1, _, _, gT1, dT1, q1⟩ := fl1
  refine ⟨a1, B, t, H', cls, d, eb, ⟨pins', σ', J⟩, nb, up, ?_, na, os, ag, hE⟩
  rcases sky with ⟨_, _, _, o2, v2, g2, _, d2, p2⟩ | fl | ⟨_, _, _, o2, v2, T2, oT2, t2, g2, _, d2, p2, _, _, gT2, dT2, q2⟩
  · rw [g1] at g2; cases g2
    rw [d1] at d2; cases d2
    rw [p1] at p2; cases p2
  · exact fl
  · rw [g1] at g2; cases g2
    rw [d1] at d2; cases d2
    rw [p1] at p2; cases p2
    rw [gT1] at gT2; cases gT2
    rw [dT1] at dT2; cases dT2
    rw [q1] at q2
    exact absurd q2 (by simp [rawInt])
section
variable {X : Cx} {pins : List (Addr × Obj)} {σ : L2.St} {H3 : Hp} {s3 : Shared} {E : XK} {W : WX} {scope : Scope} {ce : Env} {fp : List Addr}
/-- what a callee lets out within the block is taken by the def around -/
theorem passes_bx (hs : X.stack = X.env :: X.outer) (hf : X.env.frame = some X.env.locals) (tk : Takes X W) (hW : ∀ c d H, E c d H → W c d σ H) (I3 : Inv X pins σ H3 s3) (hfp : ∀ b ∈ fp, FpOk X pins H3 b)
    (hL : ce.locals = s3.heap.objs.size) (hcf : ce.frame = X.env.frame) :
    Passes (CX X.prog X.w) (Cx.bx X s3 H3 scope ce fp (notedBy (model X.prog X.w) X.A ce (CompFails (model X.prog X.w) X.A X.xe ce))) E := by
  intro pb σb Hb sb e s' Ib c
  have hfr : X.A.frames = some (X.env :: X.outer) := by rw [I3.ok.frames, hs]
  obtain ⟨a, B, t, H', cls, d, rfl, ⟨p', σ', J⟩, nb, up, fl, na, os, ag, hE⟩ := fly_of (X := Cx.bx X s3 H3 scope ce fp (notedBy (model X.prog X.w) X.A ce (CompFails (model X.prog X.w) X.A X.xe ce))) Ib c
  have fl : FlyingZ B X.stack a (Zc cls d) s'.heap := fl
  have nb : ∀ b o, t.heap.get? b = some o → b ∉ frs X.stack → B.get? b = some o := nb
  rw [hs] at fl
  show wpAny _ _ (noteFrame (.ref a) ce) _ _ s'
  rw [noteFrame_env _ hcf]
  refine looks_onZ Zc.steady hfr hf fl fun h1 hh up1 => ?_
  obtain ⟨m, hn, _⟩ := J.loc
  have hn : t.heap.Ns ce.locals m := hn
  have n1 : h1.Ns ce.locals m := Heap.Ns.upToSlots (Heap.Ns.upToSlots hn up) up1
  refine ⟨m, n1, fun h2 m2 hn2 sb2 => ?_⟩
  obtain ⟨b1, b0, f1, oe, vs, T, oT, ts, he, hz, hd, hv1, hnT, hTe, hT, hdT, h3⟩ := hh
  obtain ⟨oL, esL, epL, goL, gdL, _⟩ := n1
  have aC : a ≠ ce.locals := fun z => by
    rw [← z, he] at goL; cases goL
    rw [hd] at gdL; cases gdL
  have TC : T ≠ ce.locals := fun z => by
    rw [← z, hT] at goL; cases goL
    rw [hdT] at gdL; cases gdL
  have f2 : h2.FunFrames B (X.env :: X.outer) := Heap.FunFrames.sameBut sb2 hn2 f1
  let B' := PySem.W.hideAll B [ce.locals]
  have ofB : ∀ b o, B'.get? b = some o → B.get? b = some o ∧ b ≠ ce.locals := fun b o e => ⟨PySem.W.of_hideAll _ e, fun z => by
    rw [z, PySem.W.hideAll_none _ (List.mem_singleton.mpr rfl)] at e; cases e⟩
  have noB : ∀ b, B.get? b = none → B'.get? b = none := fun b e => by
    cases q : B'.get? b with
    | none => rfl
    | some o => rw [(ofB b o q).1] at e; cases e
  have held : HeldZ B' (X.env :: X.outer) a (Zc cls d) X.env.locals h2 :=
    ⟨fun b o e => (sb2.2 b (ofB b o e).2).trans (b1 b o (ofB b o e).1), noB a b0, funFrames_none f2 fun L hL => noB L (f2.mem hL).1,
      oe, vs, T, oT, ts, (sb2.2 a aC).trans he, hz, hd, hv1, noB T hnT, hTe, (sb2.2 T TC).trans hT, hdT, h3⟩
  unfold PySem.passOn
  refine wpAny_bind (wpAny_field ((sb2.2 a aC).trans he) hd hv1 ?_)
  rw [if_neg (show ¬ ((Value.ref T == Value.none) = true) from by simp)]
  have fin : wpAny (model X.prog X.w) X.A (setFlight (.ref a) ce.frame) (fun _ s4 => wpAny (model X.prog X.w) X.A (throw (.ref a) : Sem Value) (fun _ _ => False) X.xe s4) X.xe { s' with heap := h2 } := by
    rw [hcf, hf]
    refine setFlight_onZ held fun h4 hh4 up4 => wpAny_throw (tk _ _ ?_)
    have base : Un (frs X.stack) fp H3 H' s3.heap t.heap := J.base
    have old : ∀ b o, s3.heap.get? b = some o → b ≠ ce.locals := fun b o e => by rw [hL]; exact Nat.ne_of_lt (Heap.lt_size e)
    have hid : ∀ b o, t.heap.get? b = some o → b ≠ ce.locals → (PySem.W.hideAll t.heap [ce.locals]).get? b = some o := fun b o e n => PySem.W.hideAll_get _ e fun z => n (List.mem_singleton.mp z)
    have nC : H' ce.locals = none := J.free
    have It : Inv X pins σ H' { t with heap := PySem.W.hideAll t.heap [ce.locals] } := by
      refine I3.call' (ch := fp) J.os ⟨fun b o e n hb hx => hid b o (base.keep b o e n hb hx) (old b o e), fun b o e n hb hx => ?_, base.free, fun b o e hx => ?_, base.tups, base.frzs, base.tbls⟩ (fun b o q => ?_) J.bare
        fun b hb => ⟨(hfp b hb).2.2.2.1, (hfp b hb).2.1, (hfp b hb).2.2.2.2.1, (hfp b hb).2.2.2.2.2⟩
      · obtain ⟨sl, z⟩ := base.slot b o e n hb hx
        exact ⟨sl, hid b _ z (old b o e)⟩
      · obtain ⟨o', z⟩ := base.there b o e hx
        exact ⟨o', hid b o' z (old b o e)⟩
      · refine (J.hok b o q).stay (fun c u hc z => hid c u z fun y => ?_) (fun _ z => z) fun _ _ z => z
        rcases hc with rfl | hc
        · rw [y, nC] at q; cases q
        · rw [y, nC] at hc; cases hc
    refine ⟨a, B', _, pins, σ, H', cls, d, rfl, It, fun b o e hb => ?_, fun b o e hnf => ?_, .inr (.inr (by rw [hs]; exact hh4)), na, os, ag, hW _ _ _ hE⟩
    · have e1 := PySem.W.of_hideAll _ e
      refine PySem.W.hideAll_get _ (nb b o e1 hb) fun z => ?_
      rw [PySem.W.hideAll_none _ z] at e; cases e
    · have e1 := PySem.W.of_hideAll _ e
      have nb1 : b ≠ ce.locals := fun z => by rw [z, PySem.W.hideAll_none _ (List.mem_singleton.mpr rfl)] at e; cases e
      obtain ⟨l1, g1⟩ := up b o e1 hnf
      obtain ⟨l2, g2⟩ := up1 b _ g1 hnf
      obtain ⟨l3, g3⟩ := up4 b _ ((sb2.2 b nb1).trans g2) hnf
      exact ⟨l3, g3⟩
  first
    | exact wpAny_bind (wpAny_pure (wpAny_bind fin))
    | exact wpAny_bind fin
/-- the list comprehension over what PI serves, its element letting errors out as E says -/
theorem pe_lcX {elt tg iter : Expr} {ifs : List Expr} {own : List (Str × Nat)} {pos : Pos} {wi : TI} {g : TG} {tt : TT} {te : TE} (hs : X.stack = X.env :: X.outer) (hf : X.env.frame = some X.env.locals) (tk : Takes X W) (hW : ∀ c d H, E c d H → W c d σ H)
    (hc : X.calm = true) (hN : X.N.Nodup) (hi : PI X tg iter wi) (ok : BlkOk X.N X.env.scope scope own)
    (hg : ∀ s H C cl fp xe, PG (Cx.bx X s H scope (compEnvC scope cl C X.env) fp xe) tg g) (ht : ∀ s H C cl fp xe, PTs (Cx.bx X s H scope (compEnvC scope cl C X.env) fp xe) ifs tt)
    (he : ∀ s H C cl fp xe, Passes (CX X.prog X.w) (Cx.bx X s H scope (compEnvC scope cl C X.env) fp xe) E → PE (Cx.bx X s H scope (compEnvC scope cl C X.env) fp xe) elt te)
    (I : Inv X pins σ H3 s3) {Q : VK} (h : tLc wi g tt te (own.map (·.2)) σ H3 Q) (hz : ∀ x, foldedSetIterable iter X.env x = pure x := by intro _; rfl) :
    wpAny (model X.prog X.w) X.A (eval (.ListComp elt [⟨tg, iter, ifs, 0⟩] scope pos) X.env) (EP X pins σ Q) X.xe s3 := by
  have hfree : ∀ y ∈ scope.names, y.2 = .free → ∃ c, X.env.cells.lookup y.1 = some c := fun y hy e => I.ok.has _ (ok.free y hy e)
  rw [eval_ListComp]
  refine comprehension_at (use := none) rfl hz (closure_ok hfree) ok.kind (fun y hy e => by rw [ok.uniq y hy, e])
    (thn (hi.run pins s3 σ H3 _ I h) fun v0 s1 h1 => thn h1 fun itv s2 ⟨it, fp, tn, J, H2, e, I2, T, st2, f2, q⟩ => ?_)
  subst e
  refine wpAny_newObj_type (newEnv_comp ?_) (by show 0 ≤ sizeLine; decide)
  obtain ⟨D, hD⟩ : ∃ D, s2.heap.objs.size = D := ⟨_, rfl⟩
  rw [hD]
  obtain ⟨Wn, ⟨m0, w0⟩, turn⟩ := q D (I2.hok.fresh (Nat.le_of_eq hD))
  obtain ⟨Hd, hHd⟩ : ∃ Hd, upd H2 D (.lst []) = Hd := ⟨_, rfl⟩
  rw [hHd] at w0
  generalize hsd : ({ s2 with heap := s2.heap.push { cls := .type "list", data := .seq ([] : List Value).toArray } } : Shared) = sd
  have hpd : sd.heap = s2.heap.push { cls := .type "list", data := .seq ([] : List Value).toArray } := by rw [← hsd]
  have Id : Inv X pins σ Hd sd := by
    rw [← hHd, ← hsd]
    exact I2.laid (t' := s2.toks) (fun b o z => Heap.get?_push_of_some _ z) (Nat.le_of_eq hD) ⟨Nat.zero_le _, [], 0, .nil, by rw [← hD]; exact Heap.get?_push_size _ rfl⟩
  have fd : ∀ b ∈ fp, FpOk X pins Hd b ∧ b < sd.heap.objs.size := fun b hb => by
    obtain ⟨o, z, _⟩ := T.obj _ _ st2 b hb
    have lt := Heap.lt_size z
    refine ⟨⟨?_, (f2 b hb).2⟩, by rw [hpd, Heap.size_push]; exact Nat.lt_succ_of_lt lt⟩
    rw [← hHd, upd_ne (by rw [← hD]; exact Nat.ne_of_lt lt)]
    exact (f2 b hb).1
  have std : tn 0 sd.heap := T.keep _ _ _ st2 fun b _ o z => by rw [hpd]; exact Heap.get?_push_of_some _ z
  have Ib := block_start Id ok hN fd
  let Cd := sd.heap.objs.size
  let Lc := cellsFrom (sd.heap.objs.size + 1) scope.names (cloFrom X.env.cells scope.names [])
  show codeAny _ _ (.compStart _ 0 (.ref it) (.ref D) (compEnvC scope Lc Cd X.env)) (compEnds (model X.prog X.w) X.A X.xe none (EP X pins σ Q) (.ref D) (compEnvC scope Lc Cd X.env)) { sd with heap := pushCells (sd.heap.push { cls := .type "dict", data := .dict #[] }) scope.names }
  have pa := passes_bx (E := E) (scope := scope) (ce := compEnvC scope Lc Cd X.env) (fp := fp) hs hf tk hW Id (fun b hb => (fd b hb).1) rfl rfl
  obtain ⟨xe, hxe⟩ : ∃ xe, notedBy (model X.prog X.w) X.A (compEnvC scope Lc Cd X.env) (CompFails (model X.prog X.w) X.A X.xe (compEnvC scope Lc Cd X.env)) = xe := ⟨_, rfl⟩
  rw [hxe] at pa
  have rg := hg sd Hd Cd Lc fp xe
  have rt := ht sd Hd Cd Lc fp xe
  have re := he sd Hd Cd Lc fp xe pa
  have nfp : ∀ b ∈ fp, Hd b = none := fun b hb => (fd b hb).1.1
  have Ix : Inv (Cx.bx X sd Hd scope (compEnvC scope Lc Cd X.env) fp xe) [] (wipe σ (own.map (·.2))) Hd { sd with heap := pushCells (sd.heap.push { cls := .type "dict", data := .dict #[] }) scope.names } := by
    obtain ⟨k, a1, a2, a3, a4, a5, a6, a7, a8, a9, a10⟩ := Ib
    exact ⟨⟨k.mod, k.kind, k.glob, k.blt, k.above, k.inj, k.has, k.cab, k.hd, k.frames, k.stk, k.exf, k.bs, k.bsz, k.noex, k.exfs, k.funs, k.frf⟩, a1, a2, a3, a4, a5, a6, a7, a8, a9, a10⟩
  have hce : (compEnvC scope Lc Cd X.env).locals = sd.heap.objs.size := rfl
  generalize compEnvC scope Lc Cd X.env = ce at rg rt re Ix hxe hce ⊢
  have stx : tn 0 ({ sd with heap := pushCells (sd.heap.push { cls := .type "dict", data := .dict #[] }) scope.names } : Shared).heap := T.keep _ _ _ std fun b _ o z => pushCells_keeps _ _ _ _ (Heap.get?_push_of_some _ z)
  generalize ({ sd with heap := pushCells (sd.heap.push { cls := .type "dict", data := .dict #[] }) scope.names } : Shared) = sx at Ix stx ⊢
  have stat : ∀ {σ' : L2.St} {H' : Hp} {s' : Shared}, Inv (Cx.bx X sd Hd scope ce fp xe) [] σ' H' s' → (∀ b ∈ fp, H' b = none) → ∀ b ∈ fp, FpOk (Cx.bx X sd Hd scope ce fp xe) [] H' b := fun {σ' H' s'} I' hn b hb =>
    ⟨hn b hb, (I'.ok.exf b hb).1, I'.ok.exfs b hb, .inl hb, fun x c z => (I'.ok.exf b hb).2 x c z, fun p hp => absurd (show p ∈ ([] : List (Addr × Obj)) ++ [] from hp) (by simp)⟩
  have wk : ∀ {α : Type} {t : Sem α} {Q1 Q2 : α → Shared → Prop} {s : Shared}, wpAny (model X.prog X.w) X.A t Q1 xe s → (∀ a s, Q1 a s → Q2 a s) →
      wpAny (model X.prog X.w) X.A t Q2 (notedBy (model X.prog X.w) X.A ce fun e s' => compEnds (model X.prog X.w) X.A X.xe none (EP X pins σ Q) (.ref D) ce (.error e) s') s := fun {α t Q1 Q2 s} h k =>
    wpAny_mono h k fun _ _ z => by rw [← hxe] at z; exact z
  have loop : codeAny (model X.prog X.w) X.A (.compLoop (.ListComp elt [⟨tg, iter, ifs, 0⟩] scope pos) 0 (.ref it) (.ref D) ce) (compEnds (model X.prog X.w) X.A X.xe none (EP X pins σ Q) (.ref D) ce) sx := by
    refine compLoop_any (fun n s' => ∃ i H', Inv (Cx.bx X sd Hd scope ce fp xe) [] (wipe σ (own.map (·.2))) H' s' ∧ tn i s'.heap ∧ (∀ b ∈ fp, H' b = none) ∧ Wn i n H') ?_ m0 ⟨0, Hd, Ix, stx, nfp, w0⟩
    rintro n s5 ⟨i, H5, I5, st5, n5, w5⟩
    rcases turn i n H5 w5 with ⟨stop, qq⟩ | ⟨go, Nx, hNx, step⟩
    · refine wk (T.done (Cx.bx X sd Hd scope ce fp xe) rfl rfl rfl hc i [] s5 _ H5 xe I5 (stat I5 n5) st5 stop) fun r s6 ⟨hr, I6⟩ => ?_
      subst hr
      have I7 : Inv X pins σ H5 s6 := Id.call' (ch := fp) I6.os I6.base I6.hok I6.bare fun b hb => ⟨(fd b hb).1.2.2.2.1, (fd b hb).1.2.1, (fd b hb).1.2.2.2.2.1, (fd b hb).1.2.2.2.2.2⟩
      have nC : H5 sd.heap.objs.size = none := by
        have z : H5 ce.locals = none := I6.free
        rw [hce] at z
        exact z
      obtain ⟨f0, f1, _, f3, f4, f5⟩ := Id.fpOk (Nat.le_refl _) nC
      obtain ⟨m, hn, _⟩ := I6.loc
      refine ⟨m, hn, fun h2 sb => ⟨.ref D, H5, I7.turned (t' := s6.toks) (it := sd.heap.objs.size) (fun b o hb z => (sb.2 b (by rw [hce]; exact hb)).trans z) f0 f1 f3 f4 f5, rfl, qq⟩⟩
    · refine wk (T.item (Cx.bx X sd Hd scope ce fp xe) rfl rfl rfl hc i [] s5 _ H5 xe I5 (stat I5 n5) st5 go) fun r s6 ⟨u, hr, h6⟩ => ?_
      subst hr
      refine wk h6 fun _ s7 ⟨x, H7, I7, r7, y7, st7, n7⟩ => ?_
      have I8 := I7.pinned (stat I7 n7) (T.obj _ _ st7)
      refine wk (rg.run _ s7 _ H7 x u _ I8 r7 (step x H7 y7)) fun _ s8 ⟨σ8, H8, I9, hw8, q8⟩ => ?_
      refine wk (rt.run _ s8 σ8 H8 _ I9 q8) fun b s9 ⟨H9, I10, q9⟩ => ?_
      have next : ∀ {s' : Shared} {H' : Hp}, Inv (Cx.bx X sd Hd scope ce fp xe) ([] ++ pinsAt fp s7.heap) σ8 H' s' → Nx H' → ∃ m, m < n ∧ ∃ i H', Inv (Cx.bx X sd Hd scope ce fp xe) [] (wipe σ (own.map (·.2))) H' s' ∧ tn i s'.heap ∧ (∀ b ∈ fp, H' b = none) ∧ Wn i m H' := fun {s' H'} I' nx => by
        obtain ⟨m', hm, w'⟩ := hNx H' nx
        have pp : ∀ b ∈ fp, ∀ o, s7.heap.get? b = some o → s'.heap.get? b = some o ∧ H' b = none := fun b hb o z =>
          let k := I'.pin (b, o) (List.mem_append_right _ (List.mem_append_right _ (mem_pinsAt hb z)))
          ⟨k.1, k.2.1⟩
        refine ⟨m', hm, i + 1, H', (I'.unpinned (pins := [])).weak (by rw [← hw8, wipe_length]) (fun j v z => ?_), T.keep _ _ _ st7 fun b hb o z => (pp b hb o z).1, fun b hb => ?_, w'⟩
        · rw [← hw8] at z
          exact (wipe_some z).1
        · obtain ⟨o, z, _⟩ := T.obj _ _ st7 b hb
          exact (pp b hb o z).2
      cases b with
      | false =>
        simp only [Bool.false_eq_true, if_false] at q9 ⊢
        exact next I10 q9
      | true =>
        simp only [if_true] at q9 ⊢
        refine wk (re.run _ s9 σ8 H9 _ I10 q9) fun z s10 ⟨yv, H10, I11, r10, acc, hD10, hz10, nx⟩ => ?_
        exact wk (app_ok (E := xe) (X := Cx.bx X sd Hd scope ce fp xe) (Q := fun _ s' => Inv (Cx.bx X sd Hd scope ce fp xe) ([] ++ pinsAt fp s7.heap) σ8 (upd H10 D (.lst (acc ++ [yv]))) s') I11 hD10 hz10 r10 fun s11 I12 => I12) fun _ s11 I12 => next I12 nx
  exact codeAny_compStart_list loop (T.self X.A 0 _ _ _ stx loop)
end
end Rz
namespace Rz
open PySem PySem.Spec PyProof.Rows L2 HandSPX
/-- as a rule of expressions -/
theorem pe_lcx {X : Cx} {E : XK} {scope : Scope} {elt tg iter : Expr} {ifs : List Expr} {own : List (Str × Nat)} {pos : Pos} {wi : TI} {g : TG} {tt : TT} {te : TE} (hs : X.stack = X.env :: X.outer) (hf : X.env.frame = some X.env.locals) (tk : Takes X fun c d _ H => E c d H)
    (hc : X.calm = true) (hN : X.N.Nodup) (hi : PI X tg iter wi) (ok : BlkOk X.N X.env.scope scope own)
    (hg : ∀ s H C cl fp xe, PG (Cx.bx X s H scope (compEnvC scope cl C X.env) fp xe) tg g) (ht : ∀ s H C cl fp xe, PTs (Cx.bx X s H scope (compEnvC scope cl C X.env) fp xe) ifs tt)
    (he : ∀ s H C cl fp xe, Passes (CX X.prog X.w) (Cx.bx X s H scope (compEnvC scope cl C X.env) fp xe) E → PE (Cx.bx X s H scope (compEnvC scope cl C X.env) fp xe) elt te)
    (hz : ∀ x, foldedSetIterable iter X.env x = pure x := by intro _; rfl) : PE X (.ListComp elt [⟨tg, iter, ifs, 0⟩] scope pos) (tLc wi g tt te (own.map (·.2))) :=
  ⟨fun _ _ _ _ _ I h => pe_lcX (W := fun c d _ H => E c d H) hs hf tk (fun _ _ _ q => q) hc hN hi ok hg ht he I h hz⟩
end Rz
set_option Elab.async false
set_option linter.all false
set_option maxRecDepth 100000
set_option maxHeartbeats 4000000
/-! a dict frozen for good; enumerate over a list or a tuple; a list or a tuple walked -/
namespace Rz
open PySem PySem.Spec PyProof.Rows L2 HandSPX
/-- behind the statement the thing at d is never written again -/
def tFrz (t : TS) : TS := fun D σ H => t { D with nx := fun σ' H' => ∃ d u, H' d = some u ∧ Mut (some u) ∧ ∀ od, D.nx σ' (upd H' d (.frz od u)) } σ H
theorem ps_frz {X : Cx} {st : Stmt} {t : TS} (h : PS X st t) : PS X st (tFrz t) := by
  refine ⟨fun pins s σ H D I hw => thn (h.run pins s σ H _ I hw) fun f s1 q => ?_⟩
  cases f with
  | next =>
    obtain ⟨σ', H', I2, d, u, hd, mu, q⟩ := q
    obtain ⟨od, I3⟩ := I2.lock hd mu
    exact ⟨σ', _, I3, q od⟩
  | brk => exact q
  | cont => exact q
  | ret v => exact q

theorem meets_enumB {v : Value} {o : Obj} {H : Heap → Prop} (B : Begins v o H) :
    Meets (Builtin.«enumerate.__new__» ⟨[.type "enumerate", v], []⟩) (fun _ R s => H s.heap ∧
      R (.ok (.ret (.ref (s.heap.push o).objs.size))) { s with heap := (s.heap.push o).push { cls := .type "enumerate", data := .fields #[.none, .bool false, .ref s.heap.objs.size, rawInt 0, .none, .none] } }) :=
  .of_wp fun prog w A R s h => by
    obtain ⟨hp, g, d, tk, os⟩ := s
    obtain ⟨h1, h⟩ := h
    have q0 := sub_enumerate
    have it : ∀ {A' : Around} {E : Value → Shared → Prop} {Q : Value → Shared → Prop}, Q (.ref hp.objs.size) ⟨hp.push o, g, d, tk, os⟩ → wpAny (model prog w) A' (pyIter v) Q E ⟨hp, g, d, tk, os⟩ := fun q => B.iter prog w _ _ ⟨hp, g, d, tk, os⟩ _ h1 q
    wp_walk using it
    refine wpAny_stack_any fun st => wpAny_pure ?_
    split
    · rename_i c _ _ _ _ _
      cases (c == Value.type "enumerate") <;> (wp_walk using it; exact ⟨_, rfl, h⟩)
    · wp_walk using it
      exact ⟨_, rfl, h⟩
theorem call_enumB {prog : Program} {w : World} {A : Around} {E : Value → Shared → Prop} {s : Shared} {v : Value} {o : Obj} {H : Heap → Prop} {Q : Value → Shared → Prop} (B : Begins v o H) (h1 : H s.heap)
    (h : ∀ h', IsEnum h' (s.heap.objs.size + 1) s.heap.objs.size 0 .none → h'.get? s.heap.objs.size = some o → (∀ b o, s.heap.get? b = some o → h'.get? b = some o) → Q (.ref (s.heap.objs.size + 1)) { s with heap := h' }) :
    wpAny (model prog w) A (call (.type "enumerate") [v]) Q E s := by
  refine callType_new F.called_enumerate (by decide) (F.typeCall_enumerate_1 _) (F.newCall_enumerate_1 _) (fun obj => F.args_object_init_2 obj _) F.entry_enumerate_new (meets_enumB B) ⟨h1, ?_⟩
  have hz : (s.heap.push o).objs.size = s.heap.objs.size + 1 := Heap.size_push ..
  have ha := Heap.get?_push_size (s.heap.push o) (o := { cls := .type "enumerate", data := .fields #[.none, .bool false, .ref s.heap.objs.size, rawInt 0, .none, .none] }) rfl
  show _ ∧ _
  rw [hz] at ha ⊢
  exact ⟨⟨_, ha, rfl⟩, h _ ha (Heap.get?_push_of_some _ (Heap.get?_push_size _ B.free)) fun b o x => Heap.get?_push_of_some _ (Heap.get?_push_of_some _ x)⟩
/-- the tuple at a, its items in new pairs with their places -/
def IteT (K : PySem.W.Frag) (a : Addr) : It :=
  ⟨fun i H => ∃ (xs : List V) (x : V), SqT K H a xs ∧ xs[i]? = some x, fun i H v H' => ∃ T x, v = .ref T ∧ H T = none ∧ H' = upd H T (.tup [.int (i : Nat), x]) ∧ ∀ xs, SqT K H a xs → xs[i]? = some x, fun i H => ∃ xs : List V, SqT K H a xs ∧ xs.length ≤ i⟩
theorem turn_enumT {P : Program} {w : World} {K : PySem.W.Frag} {elts : List Expr} {kk : Nat} {tpos : Pos} (a e it : Addr) (hae : a ≠ it) :
    Turn P w K (.Tuple elts kk tpos) (IteT K a) [e, it] e (fun i h => (∃ old, IsEnum h e it ((i : Nat) : Int) old) ∧ h.IsTupleIter it a i ∧ e ≠ it ∧ a ≠ e) where
  mem := by simp
  obj := fun i h st b hb => by
    obtain ⟨⟨old, he⟩, ⟨o, ho, hc, hd⟩, _⟩ := st
    rcases (show b = e ∨ b = it by simpa using hb) with z | z
    · rw [z]; exact ⟨_, he, fun v q => nomatch q⟩
    · rw [z]; exact ⟨o, ho, fun v q => by rw [hd] at q; cases q⟩
  keep := fun i h h' ⟨⟨old, he⟩, hi, hne⟩ k => ⟨⟨old, k e (by simp) _ he⟩, hi.at fun o q => k it (by simp) o q, hne⟩
  item := by
    intro X hP hw hK hc i pins s σ H E I hf st hg
    subst hP hw hK
    obtain ⟨⟨old, he⟩, hit, hne, hea⟩ := st
    obtain ⟨xs, x, hq, hx⟩ := hg
    obtain ⟨its, rv, p, hz⟩ := I.tuple hq
    obtain ⟨u, hu, ru⟩ := rv.get hx
    have hel : e < s.heap.objs.size := Heap.lt_size he
    have hil : it < s.heap.objs.size := by obtain ⟨_, q, _⟩ := hit; exact Heap.lt_size q
    have D := Draws.tuple (prog := X.prog) (w := X.w) (A := X.A.in1) (I.ok.hd hc) it a hae its.toArray
    have hlt : i < its.toArray.size := by
      rcases Nat.lt_or_ge i its.length with q | q
      · simpa using q
      · rw [List.getElem?_eq_none q] at hu; cases hu
    refine wpAny_pyNext_enum_itemC D he ⟨hit, p⟩ hlt hne (by simp; exact ⟨hne, fun z => hea z.symm⟩) fun x1 h' tk hp ho hit' hT hsz hk => ?_
    have hxu : x1 = u := by
      have q : its.toArray[i]? = some x1 := hp
      rw [List.getElem?_toArray, hu] at q
      exact (Option.some.inj q).symm
    subst hxu
    refine ⟨_, rfl, wpAny_letOwnedTupleGo_enum (s := { s with heap := h', toks := tk + 1 }) ho fun h2 he' sb => ?_⟩
    have hT2 : h2.get? s.heap.objs.size = some { cls := .type "tuple", data := .seq #[.int i tk, x1] } := (sb.2 _ (Nat.ne_of_gt hel)).trans hT
    have I1 : Inv X pins σ (upd H s.heap.objs.size (.tup [.int (i : Nat), x])) { s with heap := h2, toks := tk + 1 } :=
      I.turnedNew (ch := [e, it]) (fun b ob hb q => (sb.2 b fun z => hb (by simp [z])).trans (hk b ob (fun z => hb (by simp [z])) (fun z => hb (by simp [z])) q)) hf (Nat.le_refl _)
        ⟨by show 2 ≤ sizeLine; decide, [.int i tk, x1], .cons ⟨_, rfl⟩ (.cons ru .nil), ⟨_, hT2, rfl, _, rfl⟩⟩
    refine ⟨.ref s.heap.objs.size, _, I1, rfl, ⟨_, x, rfl, I.hok.fresh (Nat.le_refl _), rfl, fun ys hy => by rw [I.tuple_inj hy hq]; exact hx⟩, ⟨⟨x1, ?_⟩, hit'.1.at fun o q => (sb.2 it (Ne.symm hne)).trans q, hne, hea⟩, fun b hb => ?_⟩
    · rw [show ((i + 1 : Nat) : Int) = (i : Int) + 1 by omega]
      exact he'
    · have hb' : b < s.heap.objs.size := by
        rcases (show b = e ∨ b = it by simpa using hb) with z | z
        · rw [z]; exact hel
        · rw [z]; exact hil
      rw [upd_ne (Nat.ne_of_lt hb')]
      exact (hf b hb).1
  done := by
    intro X hP hw hK hc i pins s σ H E I hf st hg
    subst hP hw hK
    obtain ⟨⟨old, he⟩, hit, hne, hea⟩ := st
    obtain ⟨xs, hq, hx⟩ := hg
    obtain ⟨its, rv, p, hz⟩ := I.tuple hq
    obtain ⟨f0, f1, f2, f3, f4, f5⟩ := hf it (by simp)
    have hl := rv.length
    unfold pyNext
    have hT : s.TypeIs (.ref e) "enumerate" := ⟨_, he, rfl⟩
    refine wpAny_bind (wpAny_attempt (wpAny_callSpecial?_slot (name := Str.ofString "__next__") hT F.slot_enumerate_next (wpAny_call_entry F.slot_enumerate_next hT F.entry_enumerate_next ?_ (F.args_enumerate_next_1 _))))
    show wpAny _ _ (field (.ref e) 2 >>= _) _ _ _
    refine wpAny_bind (wpAny_field he rfl (x := .ref it) rfl ?_)
    refine wpAny_bind (wpAny_nextOf_tuple_end (I.ok.hd hc) hit p (by simp; omega) fun h' x eb ⟨o, ho, hcl⟩ => ?_)
    refine wpAny_bind (wpAny_isInstance (T := "StopIteration") (b := true) ⟨o, ho, hcl⟩ isSubtype_stop ?_)
    exact wpAny_pure ⟨rfl, I.turned (t' := s.toks) (fun b o hb q => eb b o hb q) f0 f1 f3 f4 f5⟩
  self := fun A i s Q E st h => let ⟨⟨_, he⟩, _⟩ := st; wpAny_pyIter_enum he h
/-- a list (b: true) or a tuple -/
def SqB (K : PySem.W.Frag) (b : Bool) (H : Hp) (a : Addr) (xs : List V) : Prop := if b then SqL K H a xs else SqT K H a xs
def IteB (K : PySem.W.Frag) (b : Bool) (a : Addr) : It := if b then Ite K a else IteT K a
def ItB (K : PySem.W.Frag) (b : Bool) (a : Addr) : It := if b then Itl K a else Itt K a
def iEnumB (K : PySem.W.Frag) (ta : TA) : TI := fun σ H R => ta σ H fun vs H1 => ∃ b a xs, vs = [.ref a] ∧ SqB K b H1 a xs ∧ R (IteB K b a) H1
theorem pi_enumB {X : Cx} {e : Expr} {ta : TA} {p pos tpos : Pos} {elts : List Expr} {kk : Nat} (hg : Gl X "enumerate") (hm : X.mg "enumerate" = none) (ha : PA X [e] ta) (hs : starEach [e] X.env = [(false, eval e X.env)] := by rfl) :
    PI X (.Tuple elts kk tpos) (.Call (.Name "enumerate" p) [e] [] pos) (iEnumB X.K ta) := by
  refine ⟨fun pins s σ H R I h => ?_⟩
  refine Call_ (ld_blt I hg hm boot_enumerate (PyProof.Rows.callWith_type1 (thn (ha.run pos pins s σ H _ I h) fun us s1 ⟨vs, H1, I1, r1, q1⟩ => ?_) hs rfl))
  obtain ⟨b, a, xs, ex, hq, q⟩ := q1
  subst ex
  have fr : ∀ c ∈ [s1.heap.objs.size + 1, s1.heap.objs.size], FpOk X pins H1 c := fun c hc => by
    have hle : s1.heap.objs.size ≤ c := by
      rcases (show c = s1.heap.objs.size + 1 ∨ c = s1.heap.objs.size by simpa using hc) with z | z
      · rw [z]; exact Nat.le_add_right _ _
      · rw [z]; exact Nat.le_refl _
    exact I1.fpOk hle (I1.hok.fresh hle)
  cases r1 with
  | cons r rr =>
    cases rr
    cases r
    cases b with
    | true =>
      obtain ⟨its, rv, p', hz⟩ := I1.list (show SqL X.K H1 a xs from hq)
      exact call_enumerate_list p'.isList fun h' he hit hsz hk => wpAny_pyIter_enum he
        ⟨s1.heap.objs.size + 1, [s1.heap.objs.size + 1, s1.heap.objs.size], _, _, H1, rfl, I1.kept (t' := s1.toks) hk, turn_enum a (s1.heap.objs.size + 1) s1.heap.objs.size, ⟨⟨.none, he⟩, hit, Nat.succ_ne_self _⟩, fr, q⟩
    | false =>
      obtain ⟨its, rv, p', hz⟩ := I1.tuple (show SqT X.K H1 a xs from hq)
      have hal : a < s1.heap.objs.size := by obtain ⟨_, g, _⟩ := p'; exact Heap.lt_size g
      exact call_enumB (begins_tuple a its.toArray) p' fun h' he hit hk => wpAny_pyIter_enum he
        ⟨s1.heap.objs.size + 1, [s1.heap.objs.size + 1, s1.heap.objs.size], _, _, H1, rfl, I1.kept (t' := s1.toks) hk, turn_enumT a (s1.heap.objs.size + 1) s1.heap.objs.size (Nat.ne_of_lt hal), ⟨⟨.none, he⟩, ⟨_, hit, rfl, rfl⟩, Nat.succ_ne_self _, Nat.ne_of_lt (Nat.lt_succ_of_lt hal)⟩, fr, q⟩
/-- for x in e, e a list or a tuple -/
def iSeqB (K : PySem.W.Frag) (tl : TE) : TI := fun σ H R => tl σ H fun x H1 => ∃ b a xs, x = .ref a ∧ SqB K b H1 a xs ∧ R (ItB K b a) H1
theorem pi_seqB {X : Cx} {tg l : Expr} {tl : TE} (hl : PE X l tl) : PI X tg l (iSeqB X.K tl) := by
  refine ⟨fun pins s σ H R I h => thn (hl.run pins s σ H _ I h) fun v s1 ⟨x, H1, I1, r1, b, a, xs, e, hq, q⟩ => ?_⟩
  subst e
  cases r1
  have fr : ∀ c ∈ [s1.heap.objs.size], FpOk X pins H1 c := fun c hc => by
    rw [List.mem_singleton.mp hc]
    exact I1.fpOk (Nat.le_refl _) (I1.hok.fresh (Nat.le_refl _))
  cases b with
  | true =>
    obtain ⟨its, rv, p, hz⟩ := I1.list (show SqL X.K H1 a xs from hq)
    exact wpAny_pyIter_list p.isList ⟨s1.heap.objs.size, [s1.heap.objs.size], _, _, H1, rfl, I1.kept (t' := s1.toks) fun b o e => Heap.get?_push_of_some _ e, turn_list a _, ⟨_, Heap.get?_push_size _ rfl, rfl, rfl⟩, fr, q⟩
  | false =>
    obtain ⟨its, rv, p, hz⟩ := I1.tuple (show SqT X.K H1 a xs from hq)
    exact wpAny_pyIter_tuple (show s1.heap.IsTuple a its.toArray from p) ⟨s1.heap.objs.size, [s1.heap.objs.size], _, _, H1, rfl, I1.kept (t' := s1.toks) fun b o e => Heap.get?_push_of_some _ e, turn_tuple a _, ⟨_, Heap.get?_push_size _ rfl, rfl, rfl⟩, fr, q⟩
end Rz
set_option Elab.async false
set_option linter.all false
set_option maxRecDepth 100000
set_option maxHeartbeats 4000000
/-! sorted(xs, key=lambda x: ..), the keys texts, the lambda walked as a def is -/
namespace Rz
open PySem PySem.Spec PyProof.Rows L2 HandSPX PySem.W
section
variable {prog : Program} {w : World} {A : Around} {E : Value → Shared → Prop} {s : Shared} {a kS : Addr} {b : Bool} {vs : List Value} {zs : List Str} {e1 : Nat} {P : PySem.Fin → Shared → Prop} {G : Shared → Prop}
/-- G bears changes of the two lists -/
def Bears (a kS : Addr) (G : Shared → Prop) : Prop := ∀ (t : Shared) (g : Heap) (tk : Nat), G t → (∀ c o, c ≠ a → c ≠ kS → t.heap.get? c = some o → g.get? c = some o) → G { t with heap := g, toks := tk }
theorem all_str (zs : List Str) : AllAlike (zs.map PyData.str) := AllAlike.of fun _ _ => by simp [alike]
theorem srt_str (zs : List Str) : Sortable (zs.map PyData.str) := Sortable.others fun _ => ⟨by simp, by simp⟩
theorem keyG_rest {f : Value} (hG : Bears a kS G) (g0 : G s) (nk : s.heap.get? kS = some (seqObj "list" #[] 0)) (na : s.heap.get? a = some (seqObj "list" #[] e1)) (hka : kS ≠ a)
    (hlen : zs.length = vs.length) (hZ : vs.length ≤ sizeLine) (hu : A.units + 1 < cLine)
    (turn : ∀ (i : Nat) (v : Value) (z : Str), vs[i]? = some v → zs[i]? = some z → ∀ t, G t →
      wpAny (model prog w) A (call f [v]) (fun u t' => G t' ∧ (∃ k, u = .str z k) ∧ ∀ c o, c = a ∨ c = kS → t.heap.get? c = some o → t'.heap.get? c = some o) (fun _ _ => False) t)
    (h : ∀ t out c, G t → t.heap.get? a = some (seqObj "list" (List.toArray out) c) → KeyedOut b (zs.map PyData.str) vs out → P (.done (.ret .none)) t) :
    wpAny (model prog w) A (ksk_rest a f b vs.toArray e1 (.ref kS)) P E s := by
  unfold ksk_rest
  refine wpAny_bind (wpAny_rule ?_)
  first
    | rw [List.forIn_toArray]
    | (rw [← Array.forIn_toList]; simp only [List.toList_toArray])
    | rw [← Array.forIn_toList]
  refine wpAny_bind (ksk_fold (fun i t => G t ∧ ∃ ks c, t.heap.get? kS = some (seqObj "list" ks c) ∧ t.heap.get? a = some (seqObj "list" #[] e1) ∧ EachIs (fun v z => ∃ k, v = Value.str z k) ks.toList (zs.take i)) vs 0 s
    ⟨g0, #[], 0, nk, na, by rw [List.take_zero]; exact EachIs.nil⟩ ?go ?fin)
  case go =>
    rintro j x t hx ⟨gt, ks, c, nk', na', hk⟩
    simp only [Nat.zero_add] at hk ⊢
    have hj : j < vs.length := (List.getElem?_eq_some_iff.mp hx).1
    obtain ⟨z, hz⟩ : ∃ z, zs[j]? = some z := ⟨_, List.getElem?_eq_getElem (by omega)⟩
    have hn : ks.size ≤ vs.length := by
      have q := hk.length
      rw [Array.length_toList, List.length_take] at q
      omega
    refine wpAny_bind (wpAny_attempt (wpAny_mono (turn j x z hx hz t gt) (fun v t' ⟨g', ⟨k, ev⟩, kp⟩ => ?_) fun _ _ q => q.elim))
    subst ev
    try dsimp only
    have nk2 := kp kS _ (.inr rfl) nk'
    have na2 := kp a _ (.inl rfl) na'
    have sb := Heap.SameBut.update t'.heap kS (Obj.mapSeq (·.push (Value.str z k)))
    refine wpAny_bind (listUpdate_at nk2 rfl ?_ (Nat.le_trans hn hZ) (Nat.le_trans (Nat.le_of_eq (Array.size_push ..)) (Nat.succ_le_succ (Nat.le_trans hn hZ))))
    have ek : zs.take (j + 1) = zs.take j ++ [z] := by rw [List.take_add_one, hz]; simp
    refine wpAny_pure ⟨rfl, hG t' _ t'.toks g' (fun c o h1 h2 q => (sb.2 c h2).trans q), ks.push (Value.str z k), _, get?_update_seq nk2 (·.push (Value.str z k)), (sb.2 a hka.symm).trans na2, ?_⟩
    rw [show (ks.push (Value.str z k)).toList = ks.toList ++ [Value.str z k] by simp, ek]
    exact each_snoc ⟨k, rfl⟩ hk
  case fin =>
    rintro t ⟨gt, ks, c, nk', na', hk⟩
    have hk' : EachIs (fun v d => ∃ as, Reads t.heap v d as) ks.toList (zs.map PyData.str) := by
      rw [show zs.take (0 + vs.length) = zs from List.take_of_length_le (by omega)] at hk
      exact each_map (R := fun v d => ∃ as, Reads t.heap v d as) PyData.str (hk.mono fun v z ⟨k, q⟩ => ⟨[], q ▸ Reads.str z k⟩)
    have hsz : ks.size = vs.length := by
      have q := hk'.length
      rw [Array.length_toList, List.length_map] at q
      omega
    try dsimp only
    refine wpAny_bind (listItems_at nk' rfl ?_)
    have hu' : ∀ d, d ∈ zs.map PyData.str → A.units + d.depth < cLine := fun d hd => by
      obtain ⟨z, _, rfl⟩ := List.mem_map.mp hd
      have : (PyData.str z).depth = 0 := by simp [PyData.depth]
      omega
    refine keyH_end (κ := dataKind t.heap (zs.map PyData.str)) (h₁ := PySem.W.hideAll t.heap [kS]) (fun c o _ q => PySem.W.of_hideAll _ q) (PySem.W.hideAll_none _ (List.mem_singleton.mpr rfl)) nk' na' hka
      (SortsAt.data (s := t) hk' (all_str zs) (srt_str zs) hu') hsz hZ fun g tk c' kp ng => ?_
    exact h _ _ c' (hG t g tk gt fun c o h1 h2 q => kp c o h1 (PySem.W.hideAll_get _ q fun z => h2 (List.mem_singleton.mp z))) ng ⟨t.heap, ks.toList, all_str zs, rfl, hk'⟩
end

theorem clo_nil {cells : List (Str × Addr)} : ∀ {names : List (Str × NameKind)} {acc : List (Str × Addr)}, (∀ y ∈ names, y.2 ≠ .free) → cloFrom cells names acc = acc
  | [], _, _ => rfl
  | (n, k) :: r, acc, h => by
    unfold cloFrom
    rw [if_neg (by simpa using h (n, k) List.mem_cons_self)]
    exact clo_nil fun y hy => h y (List.mem_cons_of_mem _ hy)
theorem each_vals : ∀ {us : List Value} {xs : List V}, EachIs (fun u x => RelV x u) us xs → Vals xs us
  | _, _, .nil => .nil
  | _, _, .cons h t => .cons h (each_vals t)
theorem vals_each : ∀ {us : List Value} {xs : List V}, Vals xs us → EachIs (fun u x => RelV x u) us xs
  | _, _, .nil => .nil
  | _, _, .cons h t => .cons h (vals_each t)
/-- items in the order of their keys -/
def leK (kf : V → Str) : V → V → Bool := dataLe false fun x => PyData.str (kf x)
/-- what stands untracked and is ours is tracked from now on -/
theorem Inv.tell {X : Cx} {pins : List (Addr × Obj)} {σ : L2.St} {H : Hp} {s : Shared} {a : Addr} {o : HO} (I : Inv X pins σ H s) (fp : FpOk X pins H a) (new : ObjOk X.prog X.w (upd H a o) s.heap a o) : Inv X pins σ (upd H a o) s := by
  obtain ⟨f0, f1, f2, f3, f4, f5⟩ := fp
  have sm : ∀ b u, H b = some u → b ≠ a := fun b u e z => by rw [z, f0] at e; cases e
  have J := I.step (h' := s.heap) (H' := upd H a o) (g' := s.gens) (d' := s.drawn) (t' := s.toks) (ch := [a]) (fun b hb => by rw [List.mem_singleton.mp hb]; exact ⟨f3, f1, f4, f5⟩) (fun _ _ _ _ _ e _ => e) (fun _ q _ _ _ e _ => ⟨q.slots, e⟩)
    (fun b _ hb _ n => by rw [upd_ne fun z => hb (by simp [z])]; exact n) (fun _ q _ e => ⟨q, e⟩) (fun b xs e => by rw [upd_ne (sm b _ e)]; exact e) (fun b q u e => by rw [upd_ne (sm b _ e)]; exact e) (fun b ps e => ⟨#[], by rw [upd_ne (sm b _ e), e]; simp⟩) (fun _ hm => hm)
    (fun b u e => by
      by_cases hb : b = a
      · subst hb; rw [upd_same] at e; cases e; exact new
      · rw [upd_ne hb] at e
        exact (I.hok b u e).stay (fun _ _ _ q => q) (fun c q => by rw [upd_ne (sm c _ q)]; exact q) fun c xs q => by rw [upd_ne (sm c _ q)]; exact q) I.bare
  exact J
def tSortLam (K : PySem.W.Frag) (T : List (Addr × Str)) (N : List Str) (tb : TE) (ta : TA) : TE := fun σ H Q => ta σ H fun vs H1 => ∃ l xs kf, vs = [.ref l] ∧ SqL K H1 l xs ∧ LamX.Tabs T H1 ∧ ∀ H2, LamX.ExtN H1 H2 → LamX.Tabs T H2 → SqL K H2 l xs ∧
  (∀ y ∈ xs, tb (L2.start N [y]) H2 fun v H' => v = .str (kf y) ∧ H' = H2) ∧ ∀ D, H2 D = none → Q (.ref D) (upd H2 D (.lst (xs.mergeSort (leK kf))))
theorem pe_sortLam {X : Cx} {T : List (Addr × Str)} {N : List Str} {a : Str} {c P : Addr} {k : Nat} {params : Arguments} {body e : Expr} {scope : Scope} {ta : TA} {tb : TE} {p lpos kpos pos : Pos} (hc : X.calm = true) (hg : Gl X "sorted") (hm : X.mg "sorted" = none) (ha : PA X [e] ta)
    (TB : LamX.TabB X.base X.mg c P) (hcode : X.env.code = .ref c) (hmT : (P, X.env.qual ++ "<lambda>") ∈ T) (hu : ∀ p ∈ T, p.1 = P → p.2 = X.env.qual ++ "<lambda>") (hr : Room (k + 3) X.A) (S : FnScope N [a] scope) (hdef : defaultsOf params X.env = ([], []))
    (hbind : ∀ (q : Str) (pm cv ctv v : Value), bindArgs (PySem.W.kla_fn "<lambda>" q params body scope [] pm cv ctv) ⟨[v], []⟩ = pure [(a, v)])
    (hbody : ∀ (A : Around) (outer : List Env) (s : Shared) (H : Hp) (E : XK) (f : Addr) (cv : Value), Room k (A.deeper (envOfC (X.env.qual ++ "<lambda>") scope s.heap.objs.size f cv)) → PE (cxOf CX0 X.prog X.w X.K X.mg X.base N (X.env.qual ++ "<lambda>") scope f cv A outer s H E) body tb)
    (he : backTo pos (starEach [e] X.env) = (false, eval e X.env) :: backTo pos (starEach [] X.env) := by rfl) (hpl : (backTo pos (starEach [e] X.env)).any (·.1) = false := by rfl) :
    PE X (.Call (.Name "sorted" p) [e] [⟨some "key", .Lambda params body scope lpos, kpos⟩] pos) (tSortLam X.K T N tb ta) := by
  refine ⟨fun pins s σ H Q I h => ?_⟩
  refine wpAny_Call_Name_kw (ld_blt I hg hm (by decide +kernel : bootBuiltins "sorted" = some (.builtin "sorted")) ?_)
  refine PyProof.Rows.callWith_kw (thn (ha.run pos pins s σ H _ I h) fun us s1 ⟨vs, H1, I1, r1, l, xs, kf, ev, hS, hT, hh⟩ => ?_) he hpl (by rfl) (by rfl)
  subst ev
  cases r1 with
  | cons rl rr =>
  cases rr
  obtain rfl := rl
  have hfree : ∀ y ∈ scope.names, y.2 = .free → ∃ c, X.env.cells.lookup y.1 = some c := fun y hy z => absurd z (S.nofree y hy)
  have hcl : cloFrom X.env.cells scope.names [] = [] := clo_nil S.nofree
  show wpAny _ _ (evalAll ((do let v ← eval (.Lambda params body scope lpos) X.env; standAt pos; pure v) :: [])) _ _ s1
  refine wpAny_evalAll_cons (wpAny_bind (LamX.lam_make2 I1 TB hcode hmT hu hT hdef hfree fun f c' pm ctv H2 s2 I2 eN T2 hf hfn hfr hco => wpAny_bind (wpAny_standAt (wpAny_pure ?_))))
  refine wpAny_evalAll_nil ?_
  show wpAny _ _ (call (.builtin "sorted") [.ref l] [(Str.ofString "key", .ref f)]) _ _ s2
  obtain ⟨hS2, hkey, hend⟩ := hh H2 eN T2
  obtain ⟨its, rv, pl, hz⟩ := I2.list hS2
  have hits : its.length ≤ sizeLine := by rw [← rv.length]; exact hz
  rw [hcl] at hf
  generalize hfo : PySem.W.kla_obj "<lambda>" (X.env.qual ++ "<lambda>") params body scope [] pm c' ctv = fo at hf
  refine sorted_of_sort pl.isList hits (ksk_s1 _ _) (fun _ => ksk_l1 _ _) fun E' => ?_
  rw [ksk_t1]
  generalize ha0 : s2.heap.objs.size + 1 = a0
  have fpa : FpOk X pins H2 a0 := I2.fpOk (by omega) (I2.hok.fresh (by omega))
  have I3 : Inv X pins σ H2 { s2 with heap := copyHeap s2.heap its } := I2.kept (t' := s2.toks) fun b o z => copyHeap_old z
  have hat : (copyHeap s2.heap its).get? a0 = some (seqObj "list" its.toArray 0) := by rw [← ha0]; exact copyHeap_at _ _
  obtain ⟨e1, ho1⟩ : ∃ e1, ((copyHeap s2.heap its).update a0 (Obj.mapSeq fun _ => (#[] : Array Value))).get? a0 = some (seqObj "list" #[] e1) := ⟨_, get?_update_seq hat fun _ => #[]⟩
  have hlt : a0 < (copyHeap s2.heap its).objs.size := Heap.lt_size hat
  have hkS : (((copyHeap s2.heap its).update a0 (Obj.mapSeq fun _ => (#[] : Array Value))).push (seqObj "tuple" its.toArray 0)).objs.size = (copyHeap s2.heap its).objs.size + 1 := by rw [size_push', Heap.size_update]
  unfold ksk_tree
  refine wpAny_bind (listItems_at hat rfl ?_)
  refine wpAny_bind (listUpdate_at hat rfl ?_ (by rw [List.size_toArray]; exact hits) (Nat.zero_le _))
  refine wpAny_bind (seqEpoch_at ho1 rfl ?_)
  refine wpAny_bind (wpAny_newTuple ?_ (by show its.length ≤ _; exact hits))
  refine wpAny_bind (wpAny_newList ?_ (Nat.zero_le _))
  refine wpAny_holding ?_
  generalize hk0 : (((copyHeap s2.heap its).update a0 (Obj.mapSeq fun _ => (#[] : Array Value))).push (seqObj "tuple" its.toArray 0)).objs.size = k0
  have hsza : s2.heap.objs.size ≤ a0 := by rw [← ha0]; exact Nat.le_succ _
  have hsz2 : s2.heap.objs.size ≤ k0 := by rw [← hk0, hkS]; exact Nat.le_trans hsza (Nat.le_of_lt (Nat.lt_succ_of_lt hlt))
  have fpk : FpOk X pins H2 k0 := I2.fpOk hsz2 (I2.hok.fresh hsz2)
  have nfa : f ≠ a0 := Nat.ne_of_lt (Nat.lt_of_lt_of_le (Heap.lt_size hf) hsza)
  have nfk : f ≠ k0 := Nat.ne_of_lt (Nat.lt_of_lt_of_le (Heap.lt_size hf) hsz2)
  have nka : k0 ≠ a0 := by rw [← hk0, hkS]; exact Nat.ne_of_gt (Nat.lt_succ_of_lt hlt)
  have up : ∀ b, b ∈ frs X.stack → b = X.env.locals ∨ b ∈ X.fs := fun b hb => List.mem_cons.mp (I2.stkSub b hb)
  have nst : ∀ b, FpOk X pins H2 b → b ∉ frs X.stack := fun b fp hb => (up b hb).elim fp.2.1 fp.2.2.1
  refine keyG_rest (zs := xs.map kf) (a := a0) (kS := k0) (G := fun t => Inv X pins σ H2 t ∧ t.heap.get? f = some fo) (fun t g tk ⟨It, hft⟩ kp => ⟨?_, kp f _ nfa nfk hft⟩)
    ⟨?_, ?_⟩ ?_ ?_ nka (by rw [List.length_map]; exact rv.length) hits (by have := hr.un; show X.A.units + 1 + 1 + 1 < cLine; omega) (fun i v z hv hzv t ⟨It, hft⟩ => ?_) (fun t out c0 ⟨It, hft⟩ hout ko => ⟨rfl, ?_⟩)
  · exact It.turnedL (t' := tk) (ch := [a0, k0]) (fun b o hb q => kp b o (fun z => hb (by simp [z])) (fun z => hb (by simp [z])) q) fun b hb => by
      rcases (show b = a0 ∨ b = k0 by simpa using hb) with z | z
      · rw [z]; exact fpa
      · rw [z]; exact fpk
  · have J := I3.turnedL (h' := (((copyHeap s2.heap its).update a0 (Obj.mapSeq fun _ => (#[] : Array Value))).push (seqObj "tuple" its.toArray 0)).push (seqObj "list" #[] 0)) (t' := s2.toks) (ch := [a0]) (fun b o hb q =>
      Heap.get?_push_of_some _ (Heap.get?_push_of_some _ (((Heap.SameBut.update _ a0 _).2 b (by simpa using hb)).trans q))) fun b hb => by rw [List.mem_singleton.mp hb]; exact fpa
    exact J
  · exact Heap.get?_push_of_some _ (Heap.get?_push_of_some _ (((Heap.SameBut.update _ a0 _).2 f nfa).trans (copyHeap_old hf)))
  · rw [← hk0]; exact Heap.get?_push_size _ rfl
  · exact Heap.get?_push_of_some _ (Heap.get?_push_of_some _ ho1)
  · -- a turn: the lambda is called
    obtain ⟨y, hy, ez⟩ : ∃ y, xs[i]? = some y ∧ z = kf y := by
      rw [List.getElem?_map] at hzv
      cases q : xs[i]? with
      | none => rw [q] at hzv; cases hzv
      | some y => rw [q] at hzv; exact ⟨y, rfl, (Option.some.inj hzv).symm⟩
    obtain ⟨u0, hu0, ry⟩ := rv.get hy
    rw [hv] at hu0
    cases hu0
    have E0 : Env0 X.prog X.w X.K X.mg X.base X.A.in1.in1 X.stack t H2 := let q := It.env0; ⟨q.frames, q.mod, q.bs, q.bsz, q.funs, q.frf, q.hok, q.bare⟩
    have hr1 : Room (k + 1) X.A.in1.in1 := (Room.in1 (k := k + 2) hr).in1
    obtain ⟨⟨oc, us, tq, hoc, hdc, hvc⟩, _, _⟩ := It.hok c' _ hco
    rw [← hfo] at hft
    have run : codeAny (model X.prog X.w) X.A.in1.in1 (.call (.ref f) ⟨[v], []⟩) (CR CX0 X.stack X.prog X.w H2 t (fun u H' => u = .str (kf y) ∧ H' = H2) fun _ _ _ => False) t := by
      refine PySem.W.kla_callFunE hr1.depth hft rfl S.co S.gen rfl ⟨c', oc, us, tq, rfl, hoc, hdc, hvc⟩ ?_
      rw [hbind]
      refine wpAny_pure (wpAny_newFunctionEnv_cells S.kind (fun q hq => ?_) fun env0 he0 t1 x => ?_)
      · rw [List.mem_singleton.mp hq]
        exact (S.par a List.mem_cons_self).elim .inl fun z => .inr ⟨z, PySem.W.cellsFrom_some _ _ _ (.inl z)⟩
      · subst he0
        refine ⟨It.nolimit.keeps x.toInCall.keep, ?_⟩
        have J := inv_start (CX := CX0) (N := N) (ps := [a]) (us := [v]) (vs := [y]) (E := fun _ _ _ => False) S hr1.hd E0 rfl (.cons ry .nil) x
        refine PySem.W.kla_codeExpr (wpAny_mono ((hbody _ _ t H2 (fun _ _ _ => False) f (.ref c') (hr1.deeper _)).run [] _ _ H2 _ J (hkey y (List.mem_of_getElem? hy))) (fun u t2 ⟨x2, H', J', rx, q⟩ => ⟨x2, H', J'.os, J'.bare, J'.base, J'.hok, rx, q⟩) fun _ _ q => q)
    refine wpAny_call (codeAny_mono run fun r t2 hq => ?_)
    cases r with
    | error er => exact (show False from hq).elim
    | ok fl =>
      cases fl with
      | ret u =>
        obtain ⟨x2, H', I4, rx, ex, eH⟩ := It.after hq
        obtain ⟨_, _, _, _, un, _, _, _⟩ := hq
        subst ex eH
        have keepO : ∀ b o, FpOk X pins H' b → t.heap.get? b = some o → t2.heap.get? b = some o := fun b o fp q => un.keep b o q fp.1 (nst b fp) (by simp)
        refine ⟨⟨I4, ?_⟩, ?_, fun b o hb q => keepO b o (hb.elim (fun z => by rw [z]; exact fpa) fun z => by rw [z]; exact fpk) q⟩
        · rw [← hfo]
          exact un.keep f _ hft hfn hfr (by simp)
        · rw [ez]; exact rx
      | next => exact False.elim hq
      | brk => exact False.elim hq
      | cont => exact False.elim hq
  · -- the end
    have ko2 : KeyedOut false (xs.map fun x => PyData.str (kf x)) its out := by rw [List.map_map] at ko; exact ko
    have ev := each_vals (keyedOut_each (R := fun u x => RelV x u) (fun x => PyData.str (kf x)) ko2 (vals_each rv))
    have hl : (xs.mergeSort (leK kf)).length ≤ sizeLine := by rw [List.length_mergeSort]; exact hz
    have It2 := Inv.tell (o := .lst (xs.mergeSort (leK kf))) It fpa ⟨hl, out, c0, ev, hout⟩
    exact ⟨.ref a0, _, It2, rfl, hend a0 fpa.1⟩
end Rz
set_option Elab.async false
set_option linter.all false
set_option maxRecDepth 100000
set_option maxHeartbeats 4000000
/-! the values, what stands for them in memory, and the text that a writer makes of them -/
namespace Rz
open PySem PySem.Spec PyProof.Rows L2 PySem.W
inductive Val where
  | non | bl (b : Bool) | int (i : Int) | str (x : Str) | seq (t : Bool) (l : List Val) | tab (es : List (Key × Val))
def flat : Val → Option V
  | .non => some .non
  | .bl b => some (.bl b)
  | .int i => some (.int i)
  | .str x => some (.str x)
  | _ => none
def sqO (t : Bool) (xs : List V) : HO := if t then .lst xs else .tup xs
/-- at v stands d, at most k deep; C: the class of tables -/
def VAt (C : Addr) (H : Hp) : Nat → V → Val → Prop
  | 0, v, d => flat d = some v
  | k + 1, v, d => flat d = some v ∨ (∃ t l a xs, d = .seq t l ∧ v = .ref a ∧ H a = some (sqO t xs) ∧ Paired (VAt C H k) xs l) ∨
      ∃ es p dx dd od kvs, d = .tab es ∧ v = .ref p ∧ H p = some (.ins C dx [("held", .ref dd)]) ∧ H dd = some (.frz od (.dK kvs)) ∧ Paired (fun a b => a.1 = b.1 ∧ VAt C H k a.2 b.2) kvs es
/-- bounds -/
def okF : Val → Prop
  | .int i => i.natAbs < 10 ^ 21
  | .str x => x.length ≤ 60
  | .non => True
  | .bl _ => True
  | _ => False
def okK : Key → Prop
  | .inl i => i.natAbs < 10 ^ 21
  | .inr x => x.length ≤ 60
def Ok : Nat → Val → Prop
  | 0, d => okF d
  | k + 1, d => okF d ∨ (∃ t l, d = .seq t l ∧ l.length ≤ 4 ∧ ∀ x ∈ l, Ok k x) ∨ ∃ es, d = .tab es ∧ es.length ≤ 4 ∧ (es.map (·.1)).Nodup ∧ ∀ e ∈ es, okK e.1 ∧ Ok k e.2
section
variable {C : Addr} {H H' : Hp} {k : Nat} {v : V} {d : Val}
theorem VAt.same (s : Same H H') : ∀ {k : Nat} {v : V} {d : Val}, VAt C H k v d → VAt C H' k v d
  | 0, _, _, h => h
  | k + 1, _, _, h => by
    rcases h with h | ⟨t, l, a, xs, e1, e2, h1, h2⟩ | ⟨es, p, dx, dd, od, kvs, e1, e2, h1, h2, h3⟩
    · exact .inl h
    · exact .inr (.inl ⟨t, l, a, xs, e1, e2, s _ _ h1, Paired.mapP h2 fun _ _ q => VAt.same s q⟩)
    · exact .inr (.inr ⟨es, p, dx, dd, od, kvs, e1, e2, s _ _ h1, s _ _ h2, Paired.mapP h3 fun _ _ q => ⟨q.1, VAt.same s q.2⟩⟩)
theorem VAt.up : ∀ {k : Nat} {v : V} {d : Val}, VAt C H k v d → VAt C H (k + 1) v d
  | 0, _, _, h => .inl h
  | k + 1, _, _, h => by
    rcases h with h | ⟨t, l, a, xs, e1, e2, h1, h2⟩ | ⟨es, p, dx, dd, od, kvs, e1, e2, h1, h2, h3⟩
    · exact .inl h
    · exact .inr (.inl ⟨t, l, a, xs, e1, e2, h1, Paired.mapP h2 fun _ _ q => VAt.up q⟩)
    · exact .inr (.inr ⟨es, p, dx, dd, od, kvs, e1, e2, h1, h2, Paired.mapP h3 fun _ _ q => ⟨q.1, VAt.up q.2⟩⟩)
theorem VAt.flat (h : flat d = some v) : VAt C H k v d := by cases k with | zero => exact h | succ k => exact .inl h
theorem Ok.up : ∀ {k : Nat} {d : Val}, Ok k d → Ok (k + 1) d
  | 0, _, h => .inl h
  | k + 1, _, h => by
    rcases h with h | ⟨t, l, e, h1, h2⟩ | ⟨es, e, h1, h2, h3⟩
    · exact .inl h
    · exact .inr (.inl ⟨t, l, e, h1, fun x hx => Ok.up (h2 x hx)⟩)
    · exact .inr (.inr ⟨es, e, h1, h2, fun x hx => ⟨(h3 x hx).1, Ok.up (h3 x hx).2⟩⟩)
theorem Ok.flat (h : okF d) : Ok k d := by cases k with | zero => exact h | succ k => exact .inl h
end
/-! ### the writers -/
structure Opt where
  nk : Str
  tp : Str
  nl : Str
  dk : Str
  od : Str
  ln : Str
  deriving DecidableEq
def Opt.ok (o : Opt) : Prop := o.nk ∈ (["text", "skip", "refuse"] : List Str) ∧ o.tp ∈ (["list", "refuse"] : List Str) ∧ o.nl ∈ (["keep", "skip"] : List Str) ∧ o.dk ∈ (["keep", "refuse"] : List Str) ∧ o.od ∈ (["keep", "rising"] : List Str) ∧ o.ln ∈ (["keep", "text", "refuse"] : List Str)
def rstr (x : Str) : Str := "\"" ++ Txt.replace (Txt.replace x "\\" "\\\\") "\"" "\\\"" ++ "\""
def istr (i : Int) : Str := toString i
def keyT : Key → Str
  | .inl i => istr i
  | .inr x => x
def isI : Key → Bool
  | .inl _ => true
  | .inr _ => false
def isN : Val → Bool
  | .non => true
  | _ => false
def longI (i : Int) : Bool := decide (15 < ((istr (if i < 0 then -i else i)).length : Int))
/-- an entry that is not left out because it is null -/
def seen (o : Opt) (e : Key × Val) : Bool := !(isN e.2 && o.nl == "skip")
def bad (o : Opt) (es : List (Key × Val)) : Bool := es.any fun e => seen o e && (isI e.1 && o.nk == "refuse")
def kept (o : Opt) (es : List (Key × Val)) : List (Key × Val) := es.filter fun e => seen o e && (!isI e.1 || o.nk == "text")
def leE : Key × Val → Key × Val → Bool := dataLe false fun e => PyData.str (keyT e.1)
def ordE (o : Opt) (l : List (Key × Val)) : List (Key × Val) := if o.od = "rising" then l.mergeSort leE else l
def dup (o : Opt) (l : List (Key × Val)) : Bool := o.dk == "refuse" && !decide (l.map fun e => keyT e.1).Nodup
def allS : List (Option Str) → Option (List Str)
  | [] => some []
  | x :: r => x.bind fun z => (allS r).map (z :: ·)
def txtF (o : Opt) : Val → Option Str
  | .non => some "null"
  | .bl b => some (if b then "true" else "false")
  | .int i => if longI i && !(o.ln == "keep") then (if o.ln = "refuse" then none else some (rstr (istr i))) else some (istr i)
  | .str x => some (rstr x)
  | _ => none
def pairT (t : Val → Option Str) (e : Key × Val) : Option Str := (t e.2).map fun z => rstr (keyT e.1) ++ ":" ++ z
def txt (o : Opt) : Nat → Val → Option Str
  | 0, d => txtF o d
  | k + 1, d => match d with
    | .seq t l => if !t && o.tp == "refuse" then none else (allS (l.map (txt o k))).map fun zs => "[" ++ Txt.join "," zs ++ "]"
    | .tab es => if bad o es then none else if dup o (ordE o (kept o es)) then none else (allS ((ordE o (kept o es)).map (pairT (txt o k)))).map fun zs => "{" ++ Txt.join "," zs ++ "}"
    | d => txtF o d
def partsE (p : Val → Nat) (l : List Val) : Nat := (l.map p).sum
def parts : Nat → Val → Nat
  | 0, _ => 1
  | k + 1, .seq _ l => 1 + (l.map (parts k)).sum
  | k + 1, .tab es => 1 + (es.map fun e => parts k e.2).sum
  | _, _ => 1
/-! ### lengths -/
def capT : Nat → Nat
  | 0 => 1000
  | k + 1 => 4 * capT k + 5000
theorem istr_len {i : Int} (h : i.natAbs < 10 ^ 21) : (istr i).length ≤ 22 := by
  unfold istr
  rw [PySem.ofString_length]
  exact int_text_length_le10 (by decide) h
theorem keyT_len {k : Key} (h : okK k) : (keyT k).length ≤ 60 := by
  cases k with
  | inl i => exact Nat.le_trans (istr_len h) (by decide)
  | inr x => exact h
theorem rstr_len {x : Str} (h : x.length ≤ 60) : (rstr x).length ≤ 1000 := by
  unfold rstr
  rw [strLen_append, strLen_append]
  have a := TK.replace_len x "\\" "\\\\"
  have b := TK.replace_len (Txt.replace x "\\" "\\\\") "\"" "\\\""
  have l1 : (("\\\\" : String) : Str).length = 2 := by decide +kernel
  have l2 : (("\\\"" : String) : Str).length = 2 := by decide +kernel
  have l3 : (("\"" : String) : Str).length = 1 := by decide +kernel
  rw [l1] at a
  rw [l2] at b
  rw [l3]
  omega
theorem join_len {y : Str} (hy : y.length ≤ 1) : ∀ (zs : List Str) {B : Nat}, (∀ z ∈ zs, z.length ≤ B) → (Txt.join y zs).length ≤ zs.length * (B + 1)
  | [], _, _ => by rw [TL.join_eq]; exact Nat.zero_le _
  | [x], B, h => by
    rw [TL.join_eq]
    show x.length ≤ _
    have := h x List.mem_cons_self
    simp
    omega
  | x :: z :: r, B, h => by
    have ih := join_len hy (z :: r) fun z hz => h z (List.mem_cons_of_mem _ hz)
    rw [TL.join_eq] at ih ⊢
    show (x ++ y ++ Str.join y (z :: r)).length ≤ _
    rw [strLen_append, strLen_append]
    have := h x List.mem_cons_self
    have e : (x :: z :: r).length = (z :: r).length + 1 := rfl
    rw [e, Nat.add_mul]
    omega
theorem allS_some : ∀ {l : List (Option Str)} {zs : List Str}, allS l = some zs ↔ l = zs.map some
  | [], zs => by cases zs <;> simp [allS]
  | x :: r, zs => by
    cases x with
    | none => cases zs <;> simp [allS]
    | some z =>
      cases zs with
      | nil => cases h : allS r <;> simp [allS, h]
      | cons y ys =>
        have ih := @allS_some r ys
        cases h : allS r with
        | none =>
          rw [h] at ih
          simp [allS, h]
          intro _ e
          exact absurd (ih.mpr e) (by simp)
        | some ws =>
          rw [h] at ih
          simp only [Option.some.injEq] at ih
          simp [allS, h, ih]
theorem allS_none : ∀ {l : List (Option Str)}, allS l = none ↔ none ∈ l
  | [] => by simp [allS]
  | x :: r => by
    have ih := @allS_none r
    cases x with
    | none => simp [allS]
    | some z => cases h : allS r <;> simp [allS, h, ← ih]
theorem kept_len {o : Opt} {es : List (Key × Val)} : (ordE o (kept o es)).length ≤ es.length := by
  unfold ordE
  split
  · rw [List.length_mergeSort]; exact List.length_filter_le _ _
  · exact List.length_filter_le _ _
theorem kept_mem {o : Opt} {es : List (Key × Val)} {e : Key × Val} (h : e ∈ ordE o (kept o es)) : e ∈ es := by
  unfold ordE at h
  split at h
  · exact (List.mem_filter.mp (List.mem_mergeSort.mp h)).1
  · exact (List.mem_filter.mp h).1
theorem txtF_len {o : Opt} {d : Val} {z : Str} (h : okF d) (e : txtF o d = some z) : z.length ≤ 1000 := by
  cases d with
  | non => cases e; decide +kernel
  | bl b => cases e; cases b <;> decide +kernel
  | int i =>
    have l := istr_len h
    simp only [txtF] at e
    split at e
    · split at e
      · cases e
      · cases e; exact rstr_len (by omega)
    · cases e; omega
  | str x => cases e; exact rstr_len h
  | seq t l => cases h
  | tab es => cases h
theorem capT_ge : ∀ k, 1000 ≤ capT k
  | 0 => Nat.le_refl _
  | k + 1 => by have := capT_ge k; show 1000 ≤ 4 * capT k + 5000; omega
theorem wrap_len {a b : String} (ha : (a : Str).length = 1) (hb : (b : Str).length = 1) {zs : List Str} {k : Nat} (hl : zs.length ≤ 4) (h : ∀ z ∈ zs, z.length ≤ capT k + 1001) : ((a : Str) ++ Txt.join "," zs ++ (b : Str)).length ≤ capT (k + 1) := by
  rw [strLen_append, strLen_append, ha, hb]
  have j := join_len (y := ",") (by decide +kernel) zs h
  have m : zs.length * (capT k + 1001 + 1) ≤ 4 * (capT k + 1001 + 1) := Nat.mul_le_mul_right _ hl
  show _ ≤ 4 * capT k + 5000
  omega
theorem txt_len {o : Opt} : ∀ {k : Nat} {d : Val} {z : Str}, Ok k d → txt o k d = some z → z.length ≤ capT k
  | 0, _, _, h, e => txtF_len h e
  | k + 1, d, z, h, e => by
    have fl : okF d → txtF o d = some z → z.length ≤ capT (k + 1) := fun h e => Nat.le_trans (txtF_len h e) (capT_ge _)
    rcases h with h | ⟨t, l, ed, hl, hx⟩ | ⟨es, ed, hl, hn, hx⟩
    · cases d with
      | seq t l => cases h
      | tab es => cases h
      | _ => exact fl h e
    · subst ed
      simp only [txt] at e
      split at e
      · cases e
      · cases q : allS (l.map (txt o k)) with
        | none => rw [q] at e; cases e
        | some zs =>
          rw [q] at e
          cases e
          have q2 := allS_some.mp q
          refine wrap_len (by decide +kernel) (by decide +kernel) (by have := congrArg List.length q2; simp at this; omega) fun y hy => ?_
          have : some y ∈ l.map (txt o k) := by rw [q2]; exact List.mem_map.mpr ⟨y, hy, rfl⟩
          obtain ⟨x, hxl, ex⟩ := List.mem_map.mp this
          have := txt_len (hx x hxl) ex
          omega
    · subst ed
      simp only [txt] at e
      split at e
      · cases e
      · split at e
        · cases e
        · cases q : allS ((ordE o (kept o es)).map (pairT (txt o k))) with
          | none => rw [q] at e; cases e
          | some zs =>
            rw [q] at e
            cases e
            have q2 := allS_some.mp q
            refine wrap_len (by decide +kernel) (by decide +kernel) (by have := congrArg List.length q2; have := kept_len (o := o) (es := es); simp at *; omega) fun y hy => ?_
            have : some y ∈ (ordE o (kept o es)).map (pairT (txt o k)) := by rw [q2]; exact List.mem_map.mpr ⟨y, hy, rfl⟩
            obtain ⟨x, hxl, ex⟩ := List.mem_map.mp this
            obtain ⟨hk, hv⟩ := hx x (kept_mem hxl)
            unfold pairT at ex
            cases q3 : txt o k x.2 with
            | none => rw [q3] at ex; cases ex
            | some w =>
              rw [q3] at ex
              cases ex
              have h1 := txt_len hv q3
              have h2 := rstr_len (keyT_len hk)
              rw [strLen_append, strLen_append, show ((":" : String) : Str).length = 1 by decide +kernel]
              omega
end Rz
set_option Elab.async false
set_option linter.all false
set_option maxRecDepth 100000
set_option maxHeartbeats 4000000
/-! the plain law: which writers write alike, and that the probes tell it with the fewest parts -/
namespace Rz
open PySem PySem.Spec PyProof.Rows L2 PySem.W
def probesV : List Val := [.seq false [], .seq true [], .int (10 ^ 15), .tab [(.inl 5, .int 0)], .tab [(.inr "5", .int 0)], .tab [(.inr "k", .non)], .tab [(.inl 5, .non)],
  .tab [(.inr "b", .int 0), (.inr "a", .int 0)], .tab [(.inl 5, .int 0), (.inr "5", .int 1)], .tab [(.inl 5, .int 0), (.inr "5", .non)], .tab [(.inl 5, .non), (.inr "5", .int 0)]]
def partB (o p : Opt) (d : Val) : Bool := !decide (txt o 1 d = txt p 1 d)
def foundV (o p : Opt) : Option Val := probesV.find? (partB o p)
structure Low1 (o p : Opt) : Prop where
  tp : (o.tp == "refuse") = (p.tp == "refuse")
  ln : o.ln = p.ln
structure Low2 (o p : Opt) : Prop extends Low1 o p where
  nk : o.nk = p.nk
  nl : o.nl = p.nl
structure Eqv (o p : Opt) : Prop extends Low2 o p where
  od : o.od = p.od
  dk : o.nk = "text" → o.dk = p.dk
section
variable {o p : Opt} {k : Nat} {d : Val}
theorem Low1.txtF (h : Low1 o p) (d : Val) : txtF o d = txtF p d := by
  cases d <;> simp only [Rz.txtF, h.ln]
theorem parts_pos : ∀ (k : Nat) (d : Val), 1 ≤ parts k d
  | 0, _ => Nat.le_refl _
  | k + 1, d => by cases d <;> simp [parts]
theorem Low1.txt1 (h : Low1 o p) : ∀ (k : Nat) (d : Val), parts k d ≤ 1 → txt o k d = txt p k d
  | 0, d, _ => h.txtF d
  | k + 1, d, hp => by
    cases d with
    | seq t l =>
      have e : l = [] := by
        cases l with
        | nil => rfl
        | cons x r => have := parts_pos k x; simp [parts] at hp; omega
      subst e
      simp only [txt, h.tp, List.map_nil]
    | tab es =>
      have e : es = [] := by
        cases es with
        | nil => rfl
        | cons x r => have := parts_pos k x.2; simp [parts] at hp; omega
      subst e
      simp [txt, bad, kept, ordE, dup]
    | _ => simp only [Rz.txt]; exact h.txtF _
theorem Low2.keep (h : Low2 o p) (es : List (Key × Val)) : bad o es = bad p es ∧ kept o es = kept p es := by
  unfold bad kept seen
  rw [h.nk, h.nl]
  exact ⟨rfl, rfl⟩
theorem ord_short {l : List (Key × Val)} (h : l.length ≤ 1) : ordE o l = l := by
  unfold ordE
  split
  · cases l with
    | nil => simp
    | cons x r =>
      cases r with
      | nil => simp
      | cons y r => simp at h
  · rfl
theorem dup_short {l : List (Key × Val)} (h : l.length ≤ 1) : dup o l = false := by
  unfold dup
  cases l with
  | nil => simp
  | cons x r =>
    cases r with
    | nil => simp
    | cons y r => simp at h
theorem pair_eq {f g : Val → Option Str} {l : List (Key × Val)} (h : ∀ e ∈ l, f e.2 = g e.2) : l.map (pairT f) = l.map (pairT g) :=
  List.map_congr_left fun e he => by unfold pairT; rw [h e he]
theorem Low2.txt2 (h : Low2 o p) : ∀ (k : Nat) (d : Val), parts k d ≤ 2 → txt o k d = txt p k d
  | 0, d, _ => h.txtF d
  | k + 1, d, hp => by
    cases d with
    | seq t l =>
      have e : l.map (txt o k) = l.map (txt p k) := by
        cases l with
        | nil => rfl
        | cons x r =>
          simp [parts] at hp
          have h1 := parts_pos k x
          cases r with
          | nil => simp; exact h.txt1 k x (by simp at hp; omega)
          | cons y r => have h2 := parts_pos k y; simp at hp; omega
      simp only [txt, h.tp, e]
    | tab es =>
      obtain ⟨b, q⟩ := h.keep es
      have hl : es.length ≤ 1 := by
        cases es with
        | nil => simp
        | cons x r =>
          cases r with
          | nil => simp
          | cons y r => have h1 := parts_pos k x.2; have h2 := parts_pos k y.2; simp [parts] at hp; omega
      have kl : (kept p es).length ≤ 1 := Nat.le_trans (List.length_filter_le _ _) hl
      simp only [txt, b, q, ord_short kl, dup_short kl]
      have e : (kept p es).map (pairT (txt o k)) = (kept p es).map (pairT (txt p k)) := pair_eq fun e he => by
        refine h.txt1 k e.2 ?_
        have hm := (List.mem_filter.mp he).1
        cases es with
        | nil => cases hm
        | cons x r =>
          cases r with
          | nil =>
            rw [List.mem_singleton.mp hm]
            simp [parts] at hp
            omega
          | cons y r => simp at hl
      rw [e]
    | _ => simp only [Rz.txt]; exact h.txtF _
theorem names_nodup {l : List (Key × Val)} (hs : ∀ e ∈ l, isI e.1 = false) (hn : (l.map (·.1)).Nodup) : (l.map fun e => keyT e.1).Nodup := by
  have e : (l.map fun e => keyT e.1) = (l.map (·.1)).map keyT := by rw [List.map_map]; rfl
  rw [e]
  refine List.Pairwise.map keyT (S := fun a b => a ≠ b) (fun a b q => q) ?_
  refine (List.pairwise_map.mpr ?_)
  refine (List.pairwise_map.mp hn).imp_of_mem fun {a b} ha hb q => ?_
  obtain ⟨ka, va⟩ := a
  obtain ⟨kb, vb⟩ := b
  cases ka with
  | inl i => exact absurd (hs _ ha) (by simp [isI])
  | inr x =>
    cases kb with
    | inl i => exact absurd (hs _ hb) (by simp [isI])
    | inr y => exact fun z => q (congrArg Sum.inr z)
theorem Eqv.txt (h : Eqv o p) (ok : o.ok) : ∀ (k : Nat) (d : Val), Ok k d → txt o k d = txt p k d
  | 0, d, _ => h.txtF d
  | k + 1, d, hd => by
    rcases hd with hd | ⟨t, l, e, _, hx⟩ | ⟨es, e, _, hn, hx⟩
    · cases d with
      | seq t l => cases hd
      | tab es => cases hd
      | _ => simp only [Rz.txt]; exact h.txtF _
    · subst e
      have e : l.map (Rz.txt o k) = l.map (Rz.txt p k) := List.map_congr_left fun x q => h.txt ok k x (hx x q)
      simp only [Rz.txt, h.tp, e]
    · subst e
      obtain ⟨b, q⟩ := h.keep es
      have eo : ordE o (kept p es) = ordE p (kept p es) := by unfold ordE; rw [h.od]
      have ed : dup o (ordE p (kept p es)) = dup p (ordE p (kept p es)) := by
        by_cases hk : o.nk = "text"
        · unfold dup; rw [h.dk hk]
        · have nd : ((ordE p (kept p es)).map fun e => keyT e.1).Nodup := by
            refine names_nodup (fun e he => ?_) ?_
            · have hm : e ∈ kept p es := by
                unfold ordE at he
                split at he
                · exact List.mem_mergeSort.mp he
                · exact he
              have := (List.mem_filter.mp hm).2
              rw [← h.nk] at this
              simp [hk] at this
              exact this.2
            · have sub : ((kept p es).map (·.1)).Nodup := hn.sublist (List.filter_sublist.map _)
              unfold ordE
              split
              · exact ((List.mergeSort_perm _ _).map _).nodup_iff.mpr sub
              · exact sub
          unfold dup
          simp [nd]
      have e : (ordE p (kept p es)).map (pairT (Rz.txt o k)) = (ordE p (kept p es)).map (pairT (Rz.txt p k)) := pair_eq fun e he => h.txt ok k e.2 (hx e (kept_mem he)).2
      simp only [Rz.txt, b, q, eo, ed, e]
end
section
variable {o p : Opt}
theorem partB_no {d : Val} (h : partB o p d = false) : txt o 1 d = txt p 1 d := by
  unfold partB at h
  simpa using h
theorem mem3 {x a b c : Str} (h : x ∈ [a, b, c]) : x = a ∨ x = b ∨ x = c := by simpa using h
theorem mem2 {x a b : Str} (h : x ∈ [a, b]) : x = a ∨ x = b := by simpa using h
theorem ne_rt : ((Str.ofString "list" == Str.ofString "refuse") = false) := by decide +kernel
theorem low1_of (ho : o.ok) (hp : p.ok) (h0 : partB o p (.seq false []) = false) (h2 : partB o p (.int (10 ^ 15)) = false) : Low1 o p := by
  have e0 := partB_no h0
  have e2 := partB_no h2
  obtain ⟨_, ot, _, _, _, ol⟩ := ho
  obtain ⟨_, pt, _, _, _, pl⟩ := hp
  have lg : longI (10 ^ 15) = true := by decide +kernel
  refine ⟨?_, ?_⟩
  · simp only [txt, List.map_nil, allS, Bool.not_false, Bool.true_and] at e0
    cases a : (o.tp == "refuse") <;> cases b : (p.tp == "refuse") <;> rw [a, b] at e0 <;> simp at e0 ⊢
  · simp only [txt, txtF, lg] at e2
    rcases mem3 ol with a | a | a <;> rcases mem3 pl with b | b | b <;> rw [a, b] at e2 ⊢ <;> revert e2 <;> decide +kernel
/-- a table of one entry -/
theorem txt_one {e : Key × Val} : txt o 1 (.tab [e]) = if bad o [e] then none else (allS ((kept o [e]).map (pairT (txtF o)))).map fun zs => "{" ++ Txt.join "," zs ++ "}" := by
  have l : (kept o [e]).length ≤ 1 := List.length_filter_le _ _
  simp only [txt, ord_short l, dup_short l]
  rfl
theorem low2_of (ho : o.ok) (hp : p.ok) (l : Low1 o p) (h3 : partB o p (.tab [(.inl 5, .int 0)]) = false) (h5 : partB o p (.tab [(.inr "k", .non)]) = false) : Low2 o p := by
  have e3 := partB_no h3
  have e5 := partB_no h5
  rw [txt_one, txt_one] at e3 e5
  obtain ⟨on, _, ol, _, _, _⟩ := ho
  obtain ⟨pn, _, pl, _, _, _⟩ := hp
  have lg : longI 0 = false := by decide +kernel
  have z : ∀ q : Opt, pairT (txtF q) (.inl 5, .int 0) = some (rstr (keyT (.inl 5)) ++ ":" ++ istr 0) := fun q => by simp [pairT, txtF, lg]
  have n : ∀ q : Opt, pairT (txtF q) (.inr "k", .non) = some (rstr (keyT (.inr "k")) ++ ":" ++ "null") := fun q => by simp [pairT, txtF]
  have b3 : ∀ q : Opt, bad q [(.inl 5, .int 0)] = (q.nk == "refuse") := fun q => by simp [bad, seen, isI, isN]
  have k3 : ∀ q : Opt, kept q [(.inl 5, .int 0)] = if (q.nk == "text") = true then [(.inl 5, .int 0)] else [] := fun q => by cases h : (q.nk == "text") <;> simp [kept, seen, isI, isN, h]
  have b5 : ∀ q : Opt, bad q [(.inr "k", .non)] = false := fun q => by simp [bad, seen, isI, isN]
  have k5 : ∀ q : Opt, kept q [(.inr "k", .non)] = if (q.nl == "skip") = true then [] else [(.inr "k", .non)] := fun q => by cases h : (q.nl == "skip") <;> simp [kept, seen, isI, isN, h]
  rw [b3, b3, k3, k3] at e3
  rw [b5, b5, k5, k5] at e5
  refine ⟨l, ?_, ?_⟩
  · clear e5
    have t1 : (Str.ofString "text" == Str.ofString "refuse") = false := by decide +kernel
    have t2 : (Str.ofString "skip" == Str.ofString "refuse") = false := by decide +kernel
    have t3 : (Str.ofString "skip" == Str.ofString "text") = false := by decide +kernel
    have t4 : (Str.ofString "refuse" == Str.ofString "text") = false := by decide +kernel
    have t5 : ("{" : Str) ++ Txt.join "," [rstr (keyT (.inl 5)) ++ ":" ++ istr 0] ++ "}" ≠ ("{" : Str) ++ Txt.join "," [] ++ "}" := by decide +kernel
    rcases mem3 on with a | a | a <;> rcases mem3 pn with b | b | b <;> rw [a, b] at e3 ⊢ <;> simp [t1, t2, t3, t4, allS, z] at e3 <;> first | exact absurd e3 t5 | exact absurd e3.symm t5
  · clear e3
    have t3 : (Str.ofString "keep" == Str.ofString "skip") = false := by decide +kernel
    have t5 : ("{" : Str) ++ Txt.join "," [rstr (keyT (.inr "k")) ++ ":" ++ "null"] ++ "}" ≠ ("{" : Str) ++ Txt.join "," [] ++ "}" := by decide +kernel
    rcases mem2 ol with a | a <;> rcases mem2 pl with b | b <;> rw [a, b] at e5 ⊢ <;> simp [t3, allS, n] at e5 <;> first | exact absurd e5 t5 | exact absurd e5.symm t5
theorem sort_two {α : Type} (le : α → α → Bool) (a b : α) : [a, b].mergeSort le = if le a b then [a, b] else [b, a] := by
  cases h : le a b <;> simp [List.mergeSort, List.MergeSort.Internal.splitInTwo, List.merge, h]
theorem eqv_of (ho : o.ok) (hp : p.ok) (l : Low2 o p) (h7 : partB o p (.tab [(.inr "b", .int 0), (.inr "a", .int 0)]) = false) (h8 : partB o p (.tab [(.inl 5, .int 0), (.inr "5", .int 1)]) = false) : Eqv o p := by
  have e7 := partB_no h7
  have e8 := partB_no h8
  obtain ⟨on, _, _, od, oo, _⟩ := ho
  obtain ⟨pn, _, _, pd, po, _⟩ := hp
  have lg : longI 0 = false := by decide +kernel
  have lg1 : longI 1 = false := by decide +kernel
  have za : ∀ q : Opt, pairT (txtF q) (.inr "a", .int 0) = some (rstr (keyT (.inr "a")) ++ ":" ++ istr 0) := fun q => by simp [pairT, txtF, lg]
  have zb : ∀ q : Opt, pairT (txtF q) (.inr "b", .int 0) = some (rstr (keyT (.inr "b")) ++ ":" ++ istr 0) := fun q => by simp [pairT, txtF, lg]
  have le : leE (.inr "b", .int 0) (.inr "a", .int 0) = false := by decide +kernel
  have q7 : ∀ q : Opt, txt q 1 (.tab [(.inr "b", .int 0), (.inr "a", .int 0)]) = some (if q.od = "rising" then ("{" : Str) ++ Txt.join "," [rstr (keyT (.inr "a")) ++ ":" ++ istr 0, rstr (keyT (.inr "b")) ++ ":" ++ istr 0] ++ "}" else ("{" : Str) ++ Txt.join "," [rstr (keyT (.inr "b")) ++ ":" ++ istr 0, rstr (keyT (.inr "a")) ++ ":" ++ istr 0] ++ "}") := fun q => by
    have b : bad q [(.inr "b", .int 0), (.inr "a", .int 0)] = false := by simp [bad, seen, isI, isN]
    have k : kept q [(.inr "b", .int 0), (.inr "a", .int 0)] = [(.inr "b", .int 0), (.inr "a", .int 0)] := by simp [kept, seen, isI, isN]
    have d : ∀ l : List (Key × Val), (l.map fun e => keyT e.1).Nodup → dup q l = false := fun l h => by simp [dup, h]
    have n1 : (([(.inr "a", .int 0), (.inr "b", .int 0)] : List (Key × Val)).map fun e => keyT e.1).Nodup := by decide +kernel
    have n2 : (([(.inr "b", .int 0), (.inr "a", .int 0)] : List (Key × Val)).map fun e => keyT e.1).Nodup := by decide +kernel
    simp only [txt, b, k, ordE, sort_two, le]
    by_cases h : q.od = "rising"
    · simp [h, d _ n1, allS, za, zb]
    · simp [h, d _ n2, allS, za, zb]
  rw [q7, q7] at e7
  have t5 : ("{" : Str) ++ Txt.join "," [rstr (keyT (.inr "a")) ++ ":" ++ istr 0, rstr (keyT (.inr "b")) ++ ":" ++ istr 0] ++ "}" ≠ ("{" : Str) ++ Txt.join "," [rstr (keyT (.inr "b")) ++ ":" ++ istr 0, rstr (keyT (.inr "a")) ++ ":" ++ istr 0] ++ "}" := by decide +kernel
  refine ⟨l, ?_, fun ht => ?_⟩
  · have t3 : ¬ (Str.ofString "keep" = Str.ofString "rising") := by decide +kernel
    rcases mem2 oo with a | a <;> rcases mem2 po with b | b <;> rw [a, b] at e7 ⊢ <;> simp [t3] at e7 <;> first | exact absurd e7 t5 | exact absurd e7.symm t5
  · have q8 : ∀ q : Opt, q.nk = "text" → (txt q 1 (.tab [(.inl 5, .int 0), (.inr "5", .int 1)])).isSome = !(q.dk == "refuse") := fun q hq => by
      have b : bad q [(.inl 5, .int 0), (.inr "5", .int 1)] = false := by
        have : (Str.ofString "text" == Str.ofString "refuse") = false := by decide +kernel
        simp [bad, seen, isI, isN, hq, this]
      have k : kept q [(.inl 5, .int 0), (.inr "5", .int 1)] = [(.inl 5, .int 0), (.inr "5", .int 1)] := by simp [kept, seen, isI, isN, hq]
      have z5 : pairT (txtF q) (.inl 5, .int 0) = some (rstr (keyT (.inl 5)) ++ ":" ++ istr 0) := by simp [pairT, txtF, lg]
      have z6 : pairT (txtF q) (.inr "5", .int 1) = some (rstr (keyT (.inr "5")) ++ ":" ++ istr 1) := by simp [pairT, txtF, lg1]
      have n1 : ¬ (([(.inl 5, .int 0), (.inr "5", .int 1)] : List (Key × Val)).map fun e => keyT e.1).Nodup := by decide +kernel
      have n2 : ¬ (([(.inr "5", .int 1), (.inl 5, .int 0)] : List (Key × Val)).map fun e => keyT e.1).Nodup := by decide +kernel
      have d : ∀ l : List (Key × Val), ¬ (l.map fun e => keyT e.1).Nodup → dup q l = (q.dk == "refuse") := fun l h => by simp [dup, h]
      have od : ordE q [(.inl 5, .int 0), (.inr "5", .int 1)] = [(.inl 5, .int 0), (.inr "5", .int 1)] ∨ ordE q [(.inl 5, .int 0), (.inr "5", .int 1)] = [(.inr "5", .int 1), (.inl 5, .int 0)] := by
        unfold ordE
        rw [sort_two]
        split
        · split
          · exact .inl rfl
          · exact .inr rfl
        · exact .inl rfl
      simp only [txt, b, k]
      rcases od with e | e
      · rw [e, d _ n1]
        cases h : (q.dk == "refuse") <;> simp [allS, z5, z6]
      · rw [e, d _ n2]
        cases h : (q.dk == "refuse") <;> simp [allS, z5, z6]
    have e9 := congrArg Option.isSome e8
    rw [q8 o ht, q8 p (l.nk ▸ ht)] at e9
    have t3 : (Str.ofString "keep" == Str.ofString "refuse") = false := by decide +kernel
    rcases mem2 od with a | a <;> rcases mem2 pd with b | b <;> rw [a, b] at e9 ⊢ <;> simp [t3] at e9
/-- THE LAW, plainly -/
theorem found_none (ho : o.ok) (hp : p.ok) (h : foundV o p = none) {k : Nat} {d : Val} (hd : Ok k d) : txt o k d = txt p k d := by
  have all := List.find?_eq_none.mp h
  have no : ∀ x ∈ probesV, partB o p x = false := fun x hx => by simpa using all x hx
  have l1 := low1_of ho hp (no _ (by simp [probesV])) (no _ (by simp [probesV]))
  have l2 := low2_of ho hp l1 (no _ (by simp [probesV])) (no _ (by simp [probesV]))
  exact (eqv_of ho hp l2 (no _ (by simp [probesV])) (no _ (by simp [probesV]))).txt ho k d hd
theorem found_some (ho : o.ok) (hp : p.ok) {x : Val} (h : foundV o p = some x) : txt o 1 x ≠ txt p 1 x ∧ x ∈ probesV ∧ ∀ k d, parts k d < parts 1 x → txt o k d = txt p k d := by
  have h1 := List.find?_some h
  refine ⟨by unfold partB at h1; simpa using h1, List.mem_of_find?_eq_some h, fun k d hp' => ?_⟩
  unfold foundV probesV at h
  have pp := parts_pos k d
  have done1 : ∀ {y : Val}, some y = some x → parts 1 y = 1 → txt o k d = txt p k d := fun e q => by cases e; omega
  simp only [List.find?_cons] at h
  cases q0 : partB o p (.seq false []) with
  | true => rw [q0] at h; exact done1 h (by decide)
  | false =>
  rw [q0] at h
  cases q1 : partB o p (.seq true []) with
  | true => rw [q1] at h; exact done1 h (by decide)
  | false =>
  rw [q1] at h
  cases q2 : partB o p (.int (10 ^ 15)) with
  | true => rw [q2] at h; exact done1 h (by decide)
  | false =>
  rw [q2] at h
  have l1 := low1_of ho hp q0 q2
  have done2 : ∀ {y : Val}, some y = some x → parts 1 y = 2 → txt o k d = txt p k d := fun e q => by cases e; exact l1.txt1 k d (by omega)
  cases q3 : partB o p (.tab [(.inl 5, .int 0)]) with
  | true => rw [q3] at h; exact done2 h (by decide)
  | false =>
  rw [q3] at h
  cases q4 : partB o p (.tab [(.inr "5", .int 0)]) with
  | true => rw [q4] at h; exact done2 h (by decide)
  | false =>
  rw [q4] at h
  cases q5 : partB o p (.tab [(.inr "k", .non)]) with
  | true => rw [q5] at h; exact done2 h (by decide)
  | false =>
  rw [q5] at h
  have l2 := low2_of ho hp l1 q3 q5
  have x3 : parts 1 x ≤ 3 := by
    have hm := List.mem_of_find?_eq_some (show probesV.find? (partB o p) = some x by unfold probesV; simp only [List.find?_cons, q0, q1, q2, q3, q4, q5]; exact h)
    have : ∀ y ∈ probesV, parts 1 y ≤ 3 := by decide
    exact this x hm
  exact l2.txt2 k d (by omega)
theorem Ok_probe : ∀ x ∈ probesV, Ok 1 x := by
  intro x hx
  simp only [probesV, List.mem_cons, List.not_mem_nil, or_false] at hx
  rcases hx with rfl | rfl | rfl | rfl | rfl | rfl | rfl | rfl | rfl | rfl | rfl
  · exact .inr (.inl ⟨_, _, rfl, by decide, fun _ h => nomatch h⟩)
  · exact .inr (.inl ⟨_, _, rfl, by decide, fun _ h => nomatch h⟩)
  · exact .inl (by show (10 ^ 15 : Int).natAbs < 10 ^ 21; decide)
  all_goals
    refine .inr (.inr ⟨_, rfl, by decide, by decide +kernel, fun e he => ?_⟩)
    simp only [List.mem_cons, List.not_mem_nil, or_false] at he
    rcases he with rfl | rfl <;> exact ⟨by unfold okK; decide +kernel, by unfold Ok okF; first | trivial | decide +kernel⟩
end
end Rz
set_option Elab.async false
set_option linter.all false
set_option maxRecDepth 100000
set_option maxHeartbeats 4000000
/-! facts of the written part by one Bool; a def as the top leaves it, with its promise -/
namespace Kt
open PySem PySem.Spec PyProof.Rows L2
/-- C is an own error class, over ValueError by way of own classes -/
def oexB (K : PySem.W.Frag) (C : Addr) : Bool := match K.lookup C with
  | some ⟨.type "type", _, .cls cd, sl⟩ => (match cd.mro, sl.toList with
    | .ref C' :: bm, [_, _, _, _, some (.builtin n), _] => C' == C && n == "ValueError.__new__" && !cd.hasDel && cd.hasDict && PySem.HandSPX.refsVE bm
    | _, _ => false)
  | _ => false
theorem oexB_ok {K : PySem.W.Frag} {C : Addr} (q : oexB K C = true) : ∃ nm qn N bs bm sn sub ab col dd k0 k1 k2 k3 k5,
    K.lookup C = some (excClassObj nm qn C N bs bm true sn sub ab col dd k0 k1 k2 k3 k5 "ValueError.__new__") ∧ PySem.HandSPX.refsVE bm = true := by
  unfold oexB at q
  split at q
  · rename_i dd cd sl ho
    split at q
    · rename_i C' bm k0 k1 k2 k3 n k5 hm hs
      simp only [Bool.and_eq_true, beq_iff_eq, Bool.not_eq_true'] at q
      obtain ⟨⟨⟨⟨rfl, rfl⟩, hdel⟩, hdc⟩, ht⟩ := q
      obtain ⟨nm, bs, mro, ns, qn, hd, sn, sub, ab, col, del⟩ := cd
      dsimp only at hm hdel hdc
      subst hm hdel hdc
      have hsl : sl = #[k0, k1, k2, k3, some (.builtin "ValueError.__new__"), k5] := by
        obtain ⟨l⟩ := sl
        simp only at hs
        rw [hs]
      subst hsl
      exact ⟨nm, qn, ns, bs, bm, sn, sub, ab, col, dd, k0, k1, k2, k3, k5, ho, ht⟩
    · cases q
  · cases q
/-- all that is asked of an own error class with a start of its own at fI -/
structure ExAll (K : PySem.W.Frag) (C fI : Addr) : Prop where
  o : OexC K C
  e : ExcC K C
  iC : PySem.W.findIn K (.ref C) "__init__" = some (some (.ref fI))
  tI : PySem.W.typeIn K (.ref fI) = some (.type "function")
def exAllB (K : PySem.W.Frag) (C fI : Addr) : Bool :=
  oexB K C && (decide (PySem.W.findIn K (.ref C) "__setattr__" = some (some (.builtin "object.__setattr__"))) &&
  (decide (PySem.W.subIn K (.ref C) (.type "BaseException") = some true) && (decide (PySem.W.typeIn K (.ref C) = some (.type "type")) &&
  (PySem.W.keepIn K (.ref C) && (decide (PySem.W.findIn K (.ref C) "__getattribute__" = some (some (.builtin "BaseException.__getattribute__"))) &&
  (decide (PySem.W.findIn K (.ref C) "__getattr__" = some none) && (PySem.W.hasDictIn K C &&
  (decide (PySem.W.findIn K (.ref C) "__class__" = some (some (.builtin "object.__class__"))) &&
  (decide (PySem.W.specialIn K (.builtin "object.__class__") "__get__" = some (some (.builtin "getset_descriptor.__get__"))) &&
  (decide (PySem.W.takesIn K (.builtin "object.__class__") = some true) && (decide (PySem.W.mroIn K C (.type "object") = some true) &&
  (decide (PySem.W.findIn K (.ref C) "__init__" = some (some (.ref fI))) && decide (PySem.W.typeIn K (.ref fI) = some (.type "function"))))))))))))))
theorem exAllB_ok {K : PySem.W.Frag} {C fI : Addr} (h : exAllB K C fI = true) : ExAll K C fI := by
  unfold exAllB at h
  simp only [Bool.and_eq_true, decide_eq_true_eq] at h
  obtain ⟨h1, h2, h3, h4, h5, h6, h7, h8, h9, h10, h11, h12, h13, h14⟩ := h
  exact ⟨⟨oexB_ok h1, h2, h3, h4, h5⟩, ⟨h6, h7, h3, h8, h9, h10, h11, h12⟩, h13, h14⟩
/-- a def (a global one, or a method) as it stands behind the top, and what it promises -/
structure Gd (P : Program) (w : World) (K : PySem.W.Frag) (base : Heap) (mg : Str → Option Value) (CX : CXT) (k : Nat) (f : Addr) (ps : List Str) (ds : List V) (sp : Sp) : Prop where
  ok : ∃ fd dv, FnOk P w K mg base CX k f fd ps sp ∧ Vals ds dv ∧ Binds K fd ps dv
  kp : PySem.W.keepIn K (.ref f) = true
section
variable {X : Cx} {CX : CXT} {k : Nat} {f : Addr} {ps : List Str} {sp : Sp} {ds : List V} {E : XK} {x : Str} {p pos : Pos} {e : Expr} {es : List Expr} {t : TA}
theorem pe_callG (F : Gd X.prog X.w X.K X.base X.mg CX k f ps ds sp) (hm : X.mg x = some (.ref f)) (hr : Room k X.A) (hx : Passes CX X E) (ha : PA X (e :: es) t) (hg : Gl X x := by rfl)
    (hdb : (x == ("__debug__" : Str)) = false := by decide) (he : starEach (e :: es) X.env = (false, eval e X.env) :: starEach es X.env := by rfl)
    (hpl : (backTo pos (starEach es X.env)).any (·.1) = false := by rfl) : PE X (.Call (.Name x p) (e :: es) [] pos) (tCall sp ds E t) := by
  obtain ⟨fd, dv, F1, hd, hb⟩ := F.ok
  exact pe_call F1 hr hg hm F.kp hb hd hx ha hdb he hpl
theorem pe_callG0 (F : Gd X.prog X.w X.K X.base X.mg CX k f ps ds sp) (hm : X.mg x = some (.ref f)) (hr : Room k X.A) (hx : Passes CX X E) (hg : Gl X x := by rfl)
    (hdb : (x == ("__debug__" : Str)) = false := by decide) : PE X (.Call (.Name x p) [] [] pos) (tCall sp ds E tNil) := by
  obtain ⟨fd, dv, F1, hd, hb⟩ := F.ok
  exact pe_call0 F1 hr hg hm F.kp hb hd hx hdb
theorem pmk_G {ta : TA} {C fI : Addr} (T : ExAll X.K C fI) (F : Gd X.prog X.w X.K X.base X.mg CX k fI ps [] sp) (hm : X.mg x = some (.ref C)) (hr : Room (k + 1) X.A) (hx : Passes CX X (fun _ _ _ => False))
    (ha : PA X (e :: es) ta) (hg : Gl X x := by rfl) (hdb : (x == ("__debug__" : Str)) = false := by decide) (he : starEach (e :: es) X.env = (false, eval e X.env) :: starEach es X.env := by rfl)
    (hpl : (backTo pos (starEach es X.env)).any (·.1) = false := by rfl) : PMk X (.Call (.Name x p) (e :: es) [] pos) (tMkO C sp [] ta) := by
  obtain ⟨fd, dv, F1, hd, hb⟩ := F.ok
  cases hd
  exact pmk_oex T.o T.iC T.tI F1 hr hb .nil hx hg hm ha hdb he hpl
end
end Kt
namespace Kt
open PySem PySem.Spec PyProof.Rows L2
section
variable {P : Program} {w : World} {K : PySem.W.Frag} {mg : Str → Option Value} {base : Heap} {x qual : Str} {params : Arguments} {body : List Stmt} {scope : Scope} {f : Addr} {N ps : List Str} {k : Nat} {sp : Sp}
/-- a def that lets no error out -/
theorem mkGd (F : ∃ fd, FunD K x qual params body scope [] [] f fd) (S : FnScope N ps scope) (len : ∀ vs H Q E, sp vs H Q E → vs.length = ps.length)
    (hb : ∀ (kV doc pm : Value) (an : Option Addr) (cdv ct : Value) (us : List Value), us.length = ps.length → bindArgs (PySem.W.fnOf x qual params body scope .none kV doc pm an cdv ct) ⟨us, []⟩ = pure (ps.zip us))
    (hbody : ∀ (cdv : Value) (A : Around) (outer : List Env) (s : Shared) (H : Hp) (vs : List V) (Q : VK) (E : XK), Room k (A.deeper (envOfC qual scope s.heap.objs.size f cdv)) → sp vs H Q E →
      ∃ t, PSs (cxOf CX0 P w K mg base N qual scope f cdv A outer s H E).nox body t ∧ t { nx := fun _ H' => Q .non H', rt := Q } (start N vs) H) :
    Gd P w K base mg CX0 (k + 1) f ps [] sp := by
  obtain ⟨fd, F⟩ := F
  refine ⟨⟨fd, [], F.ok S len fun cdv A outer s H vs Q E hr h => ?_, .nil, F.bindsN hb⟩, F.kp⟩
  obtain ⟨t, h1, h2⟩ := hbody cdv A outer s H vs Q E hr h
  exact ⟨t, h1.nox, h2⟩
/-- a def that may let an error out -/
theorem mkGdX (F : ∃ fd, FunD K x qual params body scope [] [] f fd) (S : FnScope N ps scope) (len : ∀ vs H Q E, sp vs H Q E → vs.length = ps.length)
    (hb : ∀ (kV doc pm : Value) (an : Option Addr) (cdv ct : Value) (us : List Value), us.length = ps.length → bindArgs (PySem.W.fnOf x qual params body scope .none kV doc pm an cdv ct) ⟨us, []⟩ = pure (ps.zip us))
    (hbody : ∀ (cdv : Value) (A : Around) (outer : List Env) (s : Shared) (H : Hp) (vs : List V) (Q : VK) (E : XK), Room k (A.deeper (envOfC qual scope s.heap.objs.size f cdv)) → sp vs H Q E →
      ∃ t, PSs (cxOf (CX P w) P w K mg base N qual scope f cdv A outer s H E) body t ∧ t { nx := fun _ H' => Q .non H', rt := Q } (start N vs) H) :
    Gd P w K base mg (CX P w) (k + 1) f ps [] sp := by
  obtain ⟨fd, F⟩ := F
  exact ⟨⟨fd, [], F.ok S len hbody, .nil, F.bindsN hb⟩, F.kp⟩
end
section
variable {P : Program} {w : World} {K : PySem.W.Frag} {mg : Str → Option Value} {base : Heap} {x qual : Str} {params : Arguments} {body : List Stmt} {scope : Scope} {f : Addr} {N ps : List Str} {k : Nat} {sp : Sp} {dvs : List V} {kws : List (Str × V)}
/-- a def with defaults, all its parameters given -/
theorem mkGdD (F : ∃ fd, FunD K x qual params body scope dvs kws f fd) (S : FnScope N ps scope) (len : ∀ vs H Q E, sp vs H Q E → vs.length = ps.length) (hb : ∀ fd, FunD K x qual params body scope dvs kws f fd → Binds K fd ps [])
    (hbody : ∀ (cdv : Value) (A : Around) (outer : List Env) (s : Shared) (H : Hp) (vs : List V) (Q : VK) (E : XK), Room k (A.deeper (envOfC qual scope s.heap.objs.size f cdv)) → sp vs H Q E →
      ∃ t, PSs (cxOf CX0 P w K mg base N qual scope f cdv A outer s H E).nox body t ∧ t { nx := fun _ H' => Q .non H', rt := Q } (start N vs) H) :
    Gd P w K base mg CX0 (k + 1) f ps [] sp := by
  obtain ⟨fd, F⟩ := F
  refine ⟨⟨fd, [], F.ok S len fun cdv A outer s H vs Q E hr h => ?_, .nil, hb fd F⟩, F.kp⟩
  obtain ⟨t, h1, h2⟩ := hbody cdv A outer s H vs Q E hr h
  exact ⟨t, h1.nox, h2⟩
end
end Kt

/-! the head's Hook once more, the interpreter's own table among what is looked at -/
namespace Kt
open PySem PySem.Spec PyProof.Rows L2
def asY (n : Nat) (g : Addr → Option Obj) : List Addr := He.asD g n ++ [cStatics]
def obsY (n : Nat) (fa : List He.Fa) (fn : List He.DefD) (tf : List He.Defn) (ex : PySem.W.Frag → Bool) (g : Addr → Option Obj) : He.AlX :=
  (He.obsT fa fn [] (He.frT g (asY n g)), ex (He.frT g (asY n g)) && He.tabsB g tf (He.frT g (asY n g)))
theorem saysY {n : Nat} {fa : List He.Fa} {fn : List He.DefD} {tf : List He.Defn} {ex : PySem.W.Frag → Bool} {w : World} {h : Heap} (e : obsY n fa fn tf ex h.get? = He.valX fn [] w) : He.SaysX fa fn [] tf ex w h (He.frT h.get? (asY n h.get?)) := by
  obtain ⟨x1, x2⟩ := Bool.and_eq_true_iff.mp (show (ex _ && He.tabsB h.get? tf _) = true from congrArg Prod.snd e)
  have one : ∀ p ∈ tf, PySem.W.codeHdIn _ (He.cT (He.frT h.get? (asY n h.get?)) p).1 (He.cT (He.frT h.get? (asY n h.get?)) p).2 = true ∧ ∃ o, h.get? (He.cT (He.frT h.get? (asY n h.get?)) p).2 = some o ∧ He.emptyTab o = true := fun p hp => by
    obtain ⟨y1, y2⟩ := Bool.and_eq_true_iff.mp (List.all_eq_true.mp x2 p hp)
    refine ⟨y1, ?_⟩
    split at y2
    · rename_i o q
      exact ⟨o, q, y2⟩
    · cases y2
  exact ⟨congrArg Prod.fst e, x1, fun p hp => (one p hp).1, fun p hp => let ⟨_, o, q, z⟩ := one p hp; He.frT_none q z, fun p hp => let ⟨_, o, q, z⟩ := one p hp; by rw [q, He.emptyTab_eq z]⟩
def hookY (n : Nat) (fa : List He.Fa) (fn : List He.DefD) (tf : List He.Defn) (ex : PySem.W.Frag → Bool) : PySem.W.Hook where
  α := He.AlX
  obs := fun s => obsY n fa fn tf ex s.heap.get?
  val := fun w => He.valX fn [] w
  says := fun w h => ∃ K : PySem.W.Frag, K.In h ∧ He.SaysX fa fn [] tf ex w h K
  of := fun _ _ e => ⟨_, He.frT_in, saysY e⟩
  keeps := fun _ _ _ ⟨K, hK, c⟩ k => ⟨K, PySem.W.Frag.In.keeps hK k, c.t, c.more, c.hd, c.out, fun p hp => k _ _ (c.empty p hp)⟩
theorem obsY_eq {n : Nat} {fa : List He.Fa} {fn : List He.DefD} {tf : List He.Defn} {ex : PySem.W.Frag → Bool} {g : Addr → Option Obj} {s : Shared} (h : ∀ a, g a = s.heap.get? a) : obsY n fa fn tf ex g = (hookY n fa fn tf ex).obs s := by
  rw [show g = s.heap.get? from funext h]
  rfl
end Kt
namespace Kt
open PySem PySem.Spec PyProof.Rows L2
section
variable {X : Cx} {CX : CXT} {k : Nat} {f C : Addr} {ps : List Str} {sp : Sp} {ds : List V} {E : XK} {x m : Str} {p pos apos : Pos} {o e : Expr} {es : List Expr} {ta : TE} {t : TA}
theorem pe_methG {pl : Sem Bool} (he : PE X o ta) (c : Cls X.K C) (hm : Meth X.K C m f) (F : Gd X.prog X.w X.K X.base X.mg CX k f ps ds sp) (hr : Room k X.A) (hx : Passes CX X E) (ha : PA X (e :: es) t)
    (hst : starEach (e :: es) X.env = (false, eval e X.env) :: starEach es X.env := by rfl) (hpl : (backTo pos (starEach es X.env)).any (·.1) = false := by rfl)
    (ht : eval (.Call (.Attribute o m apos) (e :: es) [] pos) X.env = (do
      let u ← eval o X.env
      standAt apos.atName
      let (g, fi) ← holding [u] (getMethod u m pl)
      callWith pos g fi (backTo pos (starEach (e :: es) X.env)) (backToKw pos (keywordEach [] X.env))) := by rfl) : PE X (.Call (.Attribute o m apos) (e :: es) [] pos) (tMeth C m sp ds E ta t) := by
  obtain ⟨fd, dv, F1, hd, hb⟩ := F.ok
  exact pe_meth (pl := pl) he c hm F1 hr hb hd hx ha hst hpl ht
theorem pe_methG0 {pl : Sem Bool} (he : PE X o ta) (c : Cls X.K C) (hm : Meth X.K C m f) (F : Gd X.prog X.w X.K X.base X.mg CX k f ps ds sp) (hr : Room k X.A) (hx : Passes CX X E)
    (ht : eval (.Call (.Attribute o m apos) [] [] pos) X.env = (do
      let u ← eval o X.env
      standAt apos.atName
      let (g, fi) ← holding [u] (getMethod u m pl)
      callWith pos g fi (backTo pos (starEach [] X.env)) (backToKw pos (keywordEach [] X.env))) := by rfl) : PE X (.Call (.Attribute o m apos) [] [] pos) (tMeth C m sp ds E ta tNil) := by
  obtain ⟨fd, dv, F1, hd, hb⟩ := F.ok
  exact pe_meth0 (pl := pl) he c hm F1 hr hb hd hx ht
theorem pe_makeG (M : Mk X.K C f) (F : Gd X.prog X.w X.K X.base X.mg CX k f ps ds sp) (hr : Room (k + 1) X.A) (hm : X.mg x = some (.ref C)) (hx : Passes CX X E) (ha : PA X (e :: es) t) (hg : Gl X x := by rfl)
    (hdb : (x == ("__debug__" : Str)) = false := by decide) (he : starEach (e :: es) X.env = (false, eval e X.env) :: starEach es X.env := by rfl) (hpl : (backTo pos (starEach es X.env)).any (·.1) = false := by rfl) :
    PE X (.Call (.Name x p) (e :: es) [] pos) (tMake C sp ds E t) := by
  obtain ⟨fd, dv, F1, hd, hb⟩ := F.ok
  exact pe_make M F1 hr hg hm hb hd hx ha hdb he hpl
/-- o.m(e, ..) where what is raised is wished for at the caller's slots -/
def tMethS (C : Addr) (m : Str) (sp : Sp) (E : L2.St → XK) (ta : TE) (t : TA) : TE := fun σ H Q => ta σ H fun x H1 => ∃ a dx fs, x = .ref a ∧ H1 a = some (.ins C dx fs) ∧ fs.lookup m = none ∧ t σ H1 fun ws H2 => sp (.ref a :: ws) H2 Q (E σ)
theorem pe_methXS {pl : Sem Bool} {E : L2.St → XK} (he : PE X o ta) (c : Cls X.K C) (hm : Meth X.K C m f) (F : Gd X.prog X.w X.K X.base X.mg CX k f ps [] sp) (hr : Room k X.A) (hx : ∀ σ, PassesAt CX X σ (E σ)) (ha : PA X (e :: es) t)
    (hst : starEach (e :: es) X.env = (false, eval e X.env) :: starEach es X.env := by rfl) (hpl : (backTo pos (starEach es X.env)).any (·.1) = false := by rfl)
    (ht : eval (.Call (.Attribute o m apos) (e :: es) [] pos) X.env = (do
      let u ← eval o X.env
      standAt apos.atName
      let (g, fi) ← holding [u] (getMethod u m pl)
      callWith pos g fi (backTo pos (starEach (e :: es) X.env)) (backToKw pos (keywordEach [] X.env))) := by rfl) : PE X (.Call (.Attribute o m apos) (e :: es) [] pos) (tMethS C m sp E ta t) := by
  obtain ⟨fd, dv, F1, hd, hb⟩ := F.ok
  cases hd
  refine ⟨fun pins s σ H Q I h => PySem.W.methodCall_KW (pl := pl) (thn (he.run pins s σ H _ I h) fun u s1 ⟨x, H1, I1, rx, a, dx, fs, ex, ea, l, q⟩ => ?_) ht⟩
  subst ex
  obtain rfl : u = Value.ref a := rx
  refine getmeth_ok I1 ea c hm l (PySem.W.callWith_K (first := [.ref a]) (h₀ := X.base) I.ok.mod.kin hm.kp (thn (ha.run pos pins s1 σ H1 _ I1 q) fun us s2 ⟨vs, H2, I2, r, q2⟩ => ⟨I2.kIn, ?_⟩) hst hpl)
  exact run_fnS (us := .ref a :: us) (vs := .ref a :: vs) F1 hr hb (hx σ) I2 (.cons rfl r) q2
end
/-- a def by the depth: below depth 0 it is not called -/
def prv (sp : Nat → Sp) : Nat → Sp
  | 0 => fun _ _ _ _ => False
  | k + 1 => sp k
section
variable {P : Program} {w : World} {K : PySem.W.Frag} {mg : Str → Option Value} {base : Heap} {x qual : Str} {params : Arguments} {body : List Stmt} {scope : Scope} {f : Addr} {N ps : List Str} {CY : CXT}
theorem mkGdF (F : ∃ fd, FunD K x qual params body scope [] [] f fd) (S : FnScope N ps scope)
    (hb : ∀ (kV doc pm : Value) (an : Option Addr) (cdv ct : Value) (us : List Value), us.length = ps.length → bindArgs (PySem.W.fnOf x qual params body scope .none kV doc pm an cdv ct) ⟨us, []⟩ = pure (ps.zip us)) (l : Nat) :
    Gd P w K base mg CX0 l f ps [] fun _ _ _ _ => False := by
  obtain ⟨fd, F⟩ := F
  exact ⟨⟨fd, [], ⟨fun _ _ _ _ z => z.elim, fun _ _ _ _ _ _ _ _ _ _ _ _ _ z => z.elim⟩, .nil, F.bindsN hb⟩, F.kp⟩
theorem mkGdXF (F : ∃ fd, FunD K x qual params body scope [] [] f fd) (S : FnScope N ps scope)
    (hb : ∀ (kV doc pm : Value) (an : Option Addr) (cdv ct : Value) (us : List Value), us.length = ps.length → bindArgs (PySem.W.fnOf x qual params body scope .none kV doc pm an cdv ct) ⟨us, []⟩ = pure (ps.zip us)) (l : Nat) :
    Gd P w K base mg (CX P w) l f ps [] fun _ _ _ _ => False := by
  obtain ⟨fd, F⟩ := F
  exact ⟨⟨fd, [], ⟨fun _ _ _ _ z => z.elim, fun _ _ _ _ _ _ _ _ _ _ _ _ _ z => z.elim⟩, .nil, F.bindsN hb⟩, F.kp⟩
theorem recGd {sp : Nat → Sp} (lev : Nat → Nat) (zero : ∀ l, Gd P w K base mg CY l f ps [] fun _ _ _ _ => False) (step : ∀ k, Gd P w K base mg CY (lev k) f ps [] (prv sp k) → Gd P w K base mg CY (lev k + 1) f ps [] (sp k)) (hl : ∀ k, lev (k + 1) = lev k + 1 := by intro _; first | rfl | omega) :
    ∀ k, Gd P w K base mg CY (lev k + 1) f ps [] (sp k)
  | 0 => step 0 (zero _)
  | k + 1 => step (k + 1) (by rw [hl]; exact recGd lev zero step hl k)
end
/-- all that was tracked stands, but for what is in ps -/
def Sx (ps : List Addr) (H H' : Hp) : Prop := ∀ b o, b ∉ ps → H b = some o → H' b = some o
theorem Sx.refl {ps : List Addr} {H : Hp} : Sx ps H H := fun _ _ _ h => h
theorem Sx.trans {ps : List Addr} {H H1 H2 : Hp} (a : Sx ps H H1) (b : Sx ps H1 H2) : Sx ps H H2 := fun c o n h => b c o n (a c o n h)
theorem Sx.of {ps : List Addr} {H H' : Hp} (s : Same H H') : Sx ps H H' := fun b o _ h => s b o h
theorem Sx.mono {ps qs : List Addr} {H H' : Hp} (a : Sx ps H H') (h : ∀ b ∈ ps, b ∈ qs) : Sx qs H H' := fun b o n e => a b o (fun z => n (h b z)) e
theorem Sx.up {ps : List Addr} {p : Addr} {H : Hp} {o : HO} (h : p ∈ ps) : Sx ps H (upd H p o) := fun b u n e => by rw [upd_ne fun z => n (by rw [z]; exact h)]; exact e
theorem Sx.mk {ps : List Addr} {H H' : Hp} {D : Addr} {o : HO} (e : Sx ps H H') (h : H' D = none) : Sx ps H (upd H' D o) := fun b u n q => by
  rw [upd_ne (ne_of_none (e b u n q) h)]
  exact e b u n q
theorem Same.mk' {H H' : Hp} {D : Addr} {o : HO} (e : Same H H') (h : H' D = none) : Same H (upd H' D o) := fun b u q => by
  rw [upd_ne (ne_of_none (e b u q) h)]
  exact e b u q
theorem Same.nu {H : Hp} {D : Addr} {o : HO} (h : H D = none) : Same H (upd H D o) := Same.mk' (Same.refl H) h
/-- the heap without what is in ps -/
def cut (H : Hp) (ps : List Addr) : Hp := fun b => if b ∈ ps then none else H b
theorem cut_nil {H : Hp} : cut H [] = H := by funext b; simp [cut]
theorem cut_le {H : Hp} {ps : List Addr} : Same (cut H ps) H := fun b o h => by
  unfold cut at h
  split at h
  · cases h
  · exact h
theorem cut_at {H : Hp} {ps : List Addr} {b : Addr} {o : HO} (n : b ∉ ps) (h : H b = some o) : cut H ps b = some o := by
  unfold cut
  rw [if_neg n]
  exact h
theorem cut_sx {H H' : Hp} {ps : List Addr} (s : Sx ps H H') : Same (cut H ps) (cut H' ps) := fun b o h => by
  unfold cut at h
  split at h
  · cases h
  · rename_i n
    exact cut_at n (s b o n h)
theorem cut_mono {H : Hp} {ps qs : List Addr} (h : ∀ b ∈ qs, b ∈ ps) : Same (cut H ps) (cut H qs) := fun b o e => by
  unfold cut at e
  split at e
  · cases e
  · rename_i n
    exact cut_at (fun z => n (h b z)) e
def Has (H : Hp) (ps : List Addr) : Prop := ∀ b ∈ ps, H b ≠ none
theorem Has.new {H : Hp} {ps : List Addr} {q : Addr} (h : Has H ps) (n : H q = none) : q ∉ ps := fun z => h q z n
theorem Has.sx {H H' : Hp} {ps : List Addr} (h : Has H ps) (s : Same H H') : Has H' ps := fun b hb => by
  cases e : H b with
  | none => exact absurd e (h b hb)
  | some o => rw [s b o e]; simp
theorem Has.nil {H : Hp} : Has H [] := fun _ h => nomatch h
end Kt
set_option Elab.async false
set_option linter.all false
set_option maxRecDepth 100000
set_option maxHeartbeats 0
namespace Kt
open PySem PySem.Spec PyProof.Rows L2
def top (i : Nat) : Stmt := PySem.Challenge.pw_keysthroughtext_k84_whole_writers_alike.main.body.getD i (.Pass ⟨0, 0, 0, 0⟩)
abbrev s_Unwritable_init : Stmt := inClass (top 7) 0
abbrev N_Unwritable_init : List Str := ["self", "reason", "path"]
theorem sc_Unwritable_init : FnScope N_Unwritable_init ["self", "reason", "path"] (defScope s_Unwritable_init) := ⟨rfl, rfl, rfl, by decide +kernel, rfl, by decide +kernel, by decide +kernel⟩
abbrev s_is_integer : Stmt := top 9
abbrev N_is_integer : List Str := ["value"]
theorem sc_is_integer : FnScope N_is_integer ["value"] (defScope s_is_integer) := ⟨rfl, rfl, rfl, by decide +kernel, rfl, by decide +kernel, by decide +kernel⟩
abbrev s_fresh : Stmt := top 11
abbrev N_fresh : List Str := ["value", "item"]
theorem sc_fresh : FnScope N_fresh ["value"] (defScope s_fresh) := ⟨rfl, rfl, rfl, by decide +kernel, rfl, by decide +kernel, by decide +kernel⟩
abbrev s_Table_init : Stmt := inClass (top 15) 0
abbrev N_Table_init : List Str := ["self", "entries", "held", "key", "item"]
theorem sc_Table_init : FnScope N_Table_init ["self", "entries"] (defScope s_Table_init) := ⟨rfl, rfl, rfl, by decide +kernel, rfl, by decide +kernel, by decide +kernel⟩
abbrev s_Table_entries : Stmt := inClass (top 15) 1
abbrev N_Table_entries : List Str := ["self", "key", "item"]
theorem sc_Table_entries : FnScope N_Table_entries ["self"] (defScope s_Table_entries) := ⟨rfl, rfl, rfl, by decide +kernel, rfl, by decide +kernel, by decide +kernel⟩
abbrev s_probes : Stmt := top 18
abbrev N_probes : List Str := ["zero", "nothing", "small"]
theorem sc_probes : FnScope N_probes [] (defScope s_probes) := ⟨rfl, rfl, rfl, by decide +kernel, rfl, by decide +kernel, by decide +kernel⟩
abbrev s_text_or_none : Stmt := top 19
abbrev N_text_or_none : List Str := ["writer", "value"]
theorem sc_text_or_none : FnScope N_text_or_none ["writer", "value"] (defScope s_text_or_none) := ⟨rfl, rfl, rfl, by decide +kernel, rfl, by decide +kernel, by decide +kernel⟩
abbrev s_parting_texts : Stmt := top 20
abbrev N_parting_texts : List Str := ["first", "second", "value"]
theorem sc_parting_texts : FnScope N_parting_texts ["first", "second"] (defScope s_parting_texts) := ⟨rfl, rfl, rfl, by decide +kernel, rfl, by decide +kernel, by decide +kernel⟩
abbrev s_render_string : Stmt := top 22
abbrev N_render_string : List Str := ["text"]
theorem sc_render_string : FnScope N_render_string ["text"] (defScope s_render_string) := ⟨rfl, rfl, rfl, by decide +kernel, rfl, by decide +kernel, by decide +kernel⟩
abbrev s_render : Stmt := top 23
abbrev N_render : List Str := ["raw", "shape", "members", "item", "name"]
theorem sc_render : FnScope N_render ["raw"] (defScope s_render) := ⟨rfl, rfl, rfl, by decide +kernel, rfl, by decide +kernel, by decide +kernel⟩
abbrev s_key_text : Stmt := top 26
abbrev N_key_text : List Str := ["key"]
theorem sc_key_text : FnScope N_key_text ["key"] (defScope s_key_text) := ⟨rfl, rfl, rfl, by decide +kernel, rfl, by decide +kernel, by decide +kernel⟩
abbrev s_check_options : Stmt := top 27
abbrev N_check_options : List Str := ["options", "given", "name", "allowed", "value"]
theorem sc_check_options : FnScope N_check_options ["options", "given"] (defScope s_check_options) := ⟨rfl, rfl, rfl, by decide +kernel, rfl, by decide +kernel, by decide +kernel⟩
abbrev s_Writer_init : Stmt := inClass (top 28) 1
abbrev N_Writer_init : List Str := ["self", "number_keys", "tuples", "nulls", "double_keys", "order", "long_numbers"]
theorem sc_Writer_init : FnScope N_Writer_init ["self", "number_keys", "tuples", "nulls", "double_keys", "order", "long_numbers"] (defScope s_Writer_init) := ⟨rfl, rfl, rfl, by decide +kernel, rfl, by decide +kernel, by decide +kernel⟩
abbrev s_Writer_write : Stmt := inClass (top 28) 4
abbrev N_Writer_write : List Str := ["self", "value"]
theorem sc_Writer_write : FnScope N_Writer_write ["self", "value"] (defScope s_Writer_write) := ⟨rfl, rfl, rfl, by decide +kernel, rfl, by decide +kernel, by decide +kernel⟩
abbrev s_Writer_raw_at : Stmt := inClass (top 28) 5
abbrev N_Writer_raw_at : List Str := ["self", "value", "path", "index", "item"]
theorem sc_Writer_raw_at : FnScope N_Writer_raw_at ["self", "value", "path"] (defScope s_Writer_raw_at) := ⟨rfl, rfl, rfl, by decide +kernel, rfl, by decide +kernel, by decide +kernel⟩
abbrev s_Writer_kept_entries : Stmt := inClass (top 28) 6
abbrev N_Writer_kept_entries : List Str := ["self", "table", "path", "kept", "key", "item"]
theorem sc_Writer_kept_entries : FnScope N_Writer_kept_entries ["self", "table", "path"] (defScope s_Writer_kept_entries) := ⟨rfl, rfl, rfl, by decide +kernel, rfl, by decide +kernel, by decide +kernel⟩
abbrev s_Writer_raw_pairs : Stmt := inClass (top 28) 7
abbrev N_Writer_raw_pairs : List Str := ["self", "table", "path", "pairs", "seen", "key", "item", "name"]
theorem sc_Writer_raw_pairs : FnScope N_Writer_raw_pairs ["self", "table", "path"] (defScope s_Writer_raw_pairs) := ⟨rfl, rfl, rfl, by decide +kernel, rfl, by decide +kernel, by decide +kernel⟩
abbrev s__law_source : Stmt := top 30
abbrev N__law_source : List Str := ["_law_script", "_law_place", "_law_cell", "_law_large"]
theorem sc__law_source : FnScope N__law_source ["_law_script", "_law_place"] (defScope s__law_source) := ⟨rfl, rfl, rfl, by decide +kernel, rfl, by decide +kernel, by decide +kernel⟩
abbrev s__law_draw : Stmt := top 31
abbrev N__law_draw : List Str := ["_law_source_here", "_law_many", "_law_digit", "_law_mixed"]
theorem sc__law_draw : FnScope N__law_draw ["_law_source_here", "_law_many"] (defScope s__law_draw) := ⟨rfl, rfl, rfl, by decide +kernel, rfl, by decide +kernel, by decide +kernel⟩
abbrev s__law_pick : Stmt := top 32
abbrev N__law_pick : List Str := ["_law_source_here", "_law_some"]
theorem sc__law_pick : FnScope N__law_pick ["_law_source_here", "_law_some"] (defScope s__law_pick) := ⟨rfl, rfl, rfl, by decide +kernel, rfl, by decide +kernel, by decide +kernel⟩
abbrev s__law_word : Stmt := top 33
abbrev N__law_word : List Str := ["_law_source_here", "_law_text_here", "_law_turn"]
theorem sc__law_word : FnScope N__law_word ["_law_source_here"] (defScope s__law_word) := ⟨rfl, rfl, rfl, by decide +kernel, rfl, by decide +kernel, by decide +kernel⟩
abbrev s__law_text_key : Stmt := top 34
abbrev N__law_text_key : List Str := ["_law_source_here", "_law_road", "_law_word_here"]
theorem sc__law_text_key : FnScope N__law_text_key ["_law_source_here"] (defScope s__law_text_key) := ⟨rfl, rfl, rfl, by decide +kernel, rfl, by decide +kernel, by decide +kernel⟩
abbrev s__law_focus : Stmt := top 35
abbrev N__law_focus : List Str := ["_law_source_here", "_law_number", "_law_word_here", "_law_found"]
theorem sc__law_focus : FnScope N__law_focus ["_law_source_here"] (defScope s__law_focus) := ⟨rfl, rfl, rfl, by decide +kernel, rfl, by decide +kernel, by decide +kernel⟩
abbrev s__law_is_number : Stmt := top 36
abbrev N__law_is_number : List Str := ["_law_text_here", "_law_digits"]
theorem sc__law_is_number : FnScope N__law_is_number ["_law_text_here"] (defScope s__law_is_number) := ⟨rfl, rfl, rfl, by decide +kernel, rfl, by decide +kernel, by decide +kernel⟩
abbrev s__law_twins : Stmt := top 37
abbrev N__law_twins : List Str := ["_law_keys", "_law_found", "_law_key_here", "_law_both", "_law_one"]
theorem sc__law_twins : FnScope N__law_twins ["_law_keys"] (defScope s__law_twins) := ⟨rfl, rfl, rfl, by decide +kernel, rfl, by decide +kernel, by decide +kernel⟩
abbrev s__law_atoms : Stmt := top 38
abbrev N__law_atoms : List Str := ["_law_source_here", "_law_small", "_law_large", "_law_text_here"]
theorem sc__law_atoms : FnScope N__law_atoms ["_law_source_here"] (defScope s__law_atoms) := ⟨rfl, rfl, rfl, by decide +kernel, rfl, by decide +kernel, by decide +kernel⟩
abbrev s__law_scalar : Stmt := top 39
abbrev N__law_scalar : List Str := ["_law_source_here", "_law_atoms_here", "_law_road"]
theorem sc__law_scalar : FnScope N__law_scalar ["_law_source_here", "_law_atoms_here"] (defScope s__law_scalar) := ⟨rfl, rfl, rfl, by decide +kernel, rfl, by decide +kernel, by decide +kernel⟩
abbrev s__law_key : Stmt := top 40
abbrev N__law_key : List Str := ["_law_source_here", "_law_twins_here", "_law_road", "_law_number"]
theorem sc__law_key : FnScope N__law_key ["_law_source_here", "_law_twins_here"] (defScope s__law_key) := ⟨rfl, rfl, rfl, by decide +kernel, rfl, by decide +kernel, by decide +kernel⟩
abbrev s__law_value : Stmt := top 41
abbrev N__law_value : List Str := ["_law_source_here", "_law_deep", "_law_twins_here", "_law_atoms_here", "_law_room", "_law_road", "_law_many", "_law_turn", "_law_items"]
theorem sc__law_value : FnScope N__law_value ["_law_source_here", "_law_deep", "_law_twins_here", "_law_atoms_here", "_law_room"] (defScope s__law_value) := ⟨rfl, rfl, rfl, by decide +kernel, rfl, by decide +kernel, by decide +kernel⟩
abbrev s__law_table : Stmt := top 42
abbrev N__law_table : List Str := ["_law_source_here", "_law_many", "_law_deep", "_law_twins_here", "_law_atoms_here", "_law_room", "_law_entries", "_law_turn", "_law_key_here", "_law_old", "_law_item"]
theorem sc__law_table : FnScope N__law_table ["_law_source_here", "_law_many", "_law_deep", "_law_twins_here", "_law_atoms_here", "_law_room"] (defScope s__law_table) := ⟨rfl, rfl, rfl, by decide +kernel, rfl, by decide +kernel, by decide +kernel⟩
abbrev s__law_parts : Stmt := top 43
abbrev N__law_parts : List Str := ["_law_value_here", "_law_item", "_law_key_here"]
theorem sc__law_parts : FnScope N__law_parts ["_law_value_here"] (defScope s__law_parts) := ⟨rfl, rfl, rfl, by decide +kernel, rfl, by decide +kernel, by decide +kernel⟩
abbrev s__law_options : Stmt := top 44
abbrev N__law_options : List Str := ["_law_source_here", "_law_found"]
theorem sc__law_options : FnScope N__law_options ["_law_source_here"] (defScope s__law_options) := ⟨rfl, rfl, rfl, by decide +kernel, rfl, by decide +kernel, by decide +kernel⟩
abbrev s__law_writer : Stmt := top 45
abbrev N__law_writer : List Str := ["_law_found"]
theorem sc__law_writer : FnScope N__law_writer ["_law_found"] (defScope s__law_writer) := ⟨rfl, rfl, rfl, by decide +kernel, rfl, by decide +kernel, by decide +kernel⟩
abbrev s__law_text : Stmt := top 46
abbrev N__law_text : List Str := ["_law_writer_here", "_law_value_here", "_law_found"]
theorem sc__law_text : FnScope N__law_text ["_law_writer_here", "_law_value_here"] (defScope s__law_text) := ⟨rfl, rfl, rfl, by decide +kernel, rfl, by decide +kernel, by decide +kernel⟩
abbrev s_law : Stmt := top 47
abbrev N_law : List Str := ["_law_script", "_law_place", "_law_source_here", "_law_keys", "_law_atoms_here", "_law_one", "_law_other", "_law_turn", "_law_at", "_law_options_here", "_law_first", "_law_second", "_law_found", "_law_value_here"]
theorem sc_law : FnScope N_law ["_law_script"] (defScope s_law) := ⟨rfl, rfl, rfl, by decide +kernel, rfl, by decide +kernel, by decide +kernel⟩
def d_Unwritable_init : He.DefD := ⟨("Unwritable", some "__init__"), "__init__", "Unwritable.__init__", defArgs s_Unwritable_init, defBody s_Unwritable_init, defScope s_Unwritable_init, [], []⟩
def d_is_integer : He.DefD := ⟨("is_integer", none), "is_integer", "is_integer", defArgs s_is_integer, defBody s_is_integer, defScope s_is_integer, [], []⟩
def d_fresh : He.DefD := ⟨("fresh", none), "fresh", "fresh", defArgs s_fresh, defBody s_fresh, defScope s_fresh, [], []⟩
def d_Table_init : He.DefD := ⟨("Table", some "__init__"), "__init__", "Table.__init__", defArgs s_Table_init, defBody s_Table_init, defScope s_Table_init, [.adr (He.dflAt ("Table", some "__init__") 0)], []⟩
def d_Table_entries : He.DefD := ⟨("Table", some "entries"), "entries", "Table.entries", defArgs s_Table_entries, defBody s_Table_entries, defScope s_Table_entries, [], []⟩
def d_probes : He.DefD := ⟨("probes", none), "probes", "probes", defArgs s_probes, defBody s_probes, defScope s_probes, [], []⟩
def d_text_or_none : He.DefD := ⟨("text_or_none", none), "text_or_none", "text_or_none", defArgs s_text_or_none, defBody s_text_or_none, defScope s_text_or_none, [], []⟩
def d_parting_texts : He.DefD := ⟨("parting_texts", none), "parting_texts", "parting_texts", defArgs s_parting_texts, defBody s_parting_texts, defScope s_parting_texts, [], []⟩
def d_render_string : He.DefD := ⟨("render_string", none), "render_string", "render_string", defArgs s_render_string, defBody s_render_string, defScope s_render_string, [], []⟩
def d_render : He.DefD := ⟨("render", none), "render", "render", defArgs s_render, defBody s_render, defScope s_render, [], []⟩
def d_key_text : He.DefD := ⟨("key_text", none), "key_text", "key_text", defArgs s_key_text, defBody s_key_text, defScope s_key_text, [], []⟩
def d_check_options : He.DefD := ⟨("check_options", none), "check_options", "check_options", defArgs s_check_options, defBody s_check_options, defScope s_check_options, [], []⟩
def d_Writer_init : He.DefD := ⟨("Writer", some "__init__"), "__init__", "Writer.__init__", defArgs s_Writer_init, defBody s_Writer_init, defScope s_Writer_init, [], [("number_keys", .str "text"), ("tuples", .str "list"), ("nulls", .str "keep"), ("double_keys", .str "keep"), ("order", .str "keep"), ("long_numbers", .str "keep")]⟩
def d_Writer_write : He.DefD := ⟨("Writer", some "write"), "write", "Writer.write", defArgs s_Writer_write, defBody s_Writer_write, defScope s_Writer_write, [], []⟩
def d_Writer_raw_at : He.DefD := ⟨("Writer", some "raw_at"), "raw_at", "Writer.raw_at", defArgs s_Writer_raw_at, defBody s_Writer_raw_at, defScope s_Writer_raw_at, [], []⟩
def d_Writer_kept_entries : He.DefD := ⟨("Writer", some "kept_entries"), "kept_entries", "Writer.kept_entries", defArgs s_Writer_kept_entries, defBody s_Writer_kept_entries, defScope s_Writer_kept_entries, [], []⟩
def d_Writer_raw_pairs : He.DefD := ⟨("Writer", some "raw_pairs"), "raw_pairs", "Writer.raw_pairs", defArgs s_Writer_raw_pairs, defBody s_Writer_raw_pairs, defScope s_Writer_raw_pairs, [], []⟩
def d__law_source : He.DefD := ⟨("_law_source", none), "_law_source", "_law_source", defArgs s__law_source, defBody s__law_source, defScope s__law_source, [], []⟩
def d__law_draw : He.DefD := ⟨("_law_draw", none), "_law_draw", "_law_draw", defArgs s__law_draw, defBody s__law_draw, defScope s__law_draw, [], []⟩
def d__law_pick : He.DefD := ⟨("_law_pick", none), "_law_pick", "_law_pick", defArgs s__law_pick, defBody s__law_pick, defScope s__law_pick, [], []⟩
def d__law_word : He.DefD := ⟨("_law_word", none), "_law_word", "_law_word", defArgs s__law_word, defBody s__law_word, defScope s__law_word, [], []⟩
def d__law_text_key : He.DefD := ⟨("_law_text_key", none), "_law_text_key", "_law_text_key", defArgs s__law_text_key, defBody s__law_text_key, defScope s__law_text_key, [], []⟩
def d__law_focus : He.DefD := ⟨("_law_focus", none), "_law_focus", "_law_focus", defArgs s__law_focus, defBody s__law_focus, defScope s__law_focus, [], []⟩
def d__law_is_number : He.DefD := ⟨("_law_is_number", none), "_law_is_number", "_law_is_number", defArgs s__law_is_number, defBody s__law_is_number, defScope s__law_is_number, [], []⟩
def d__law_twins : He.DefD := ⟨("_law_twins", none), "_law_twins", "_law_twins", defArgs s__law_twins, defBody s__law_twins, defScope s__law_twins, [], []⟩
def d__law_atoms : He.DefD := ⟨("_law_atoms", none), "_law_atoms", "_law_atoms", defArgs s__law_atoms, defBody s__law_atoms, defScope s__law_atoms, [], []⟩
def d__law_scalar : He.DefD := ⟨("_law_scalar", none), "_law_scalar", "_law_scalar", defArgs s__law_scalar, defBody s__law_scalar, defScope s__law_scalar, [], []⟩
def d__law_key : He.DefD := ⟨("_law_key", none), "_law_key", "_law_key", defArgs s__law_key, defBody s__law_key, defScope s__law_key, [], []⟩
def d__law_value : He.DefD := ⟨("_law_value", none), "_law_value", "_law_value", defArgs s__law_value, defBody s__law_value, defScope s__law_value, [], []⟩
def d__law_table : He.DefD := ⟨("_law_table", none), "_law_table", "_law_table", defArgs s__law_table, defBody s__law_table, defScope s__law_table, [], []⟩
def d__law_parts : He.DefD := ⟨("_law_parts", none), "_law_parts", "_law_parts", defArgs s__law_parts, defBody s__law_parts, defScope s__law_parts, [], []⟩
def d__law_options : He.DefD := ⟨("_law_options", none), "_law_options", "_law_options", defArgs s__law_options, defBody s__law_options, defScope s__law_options, [], []⟩
def d__law_writer : He.DefD := ⟨("_law_writer", none), "_law_writer", "_law_writer", defArgs s__law_writer, defBody s__law_writer, defScope s__law_writer, [], []⟩
def d__law_text : He.DefD := ⟨("_law_text", none), "_law_text", "_law_text", defArgs s__law_text, defBody s__law_text, defScope s__law_text, [], []⟩
def d_law : He.DefD := ⟨("law", none), "law", "law", defArgs s_law, defBody s_law, defScope s_law, [], []⟩
def fn : List He.DefD := [d_Unwritable_init, d_is_integer, d_fresh, d_Table_init, d_Table_entries, d_probes, d_text_or_none, d_parting_texts, d_render_string, d_render, d_key_text, d_check_options, d_Writer_init, d_Writer_write, d_Writer_raw_at, d_Writer_kept_entries, d_Writer_raw_pairs, d__law_source, d__law_draw, d__law_pick, d__law_word, d__law_text_key, d__law_focus, d__law_is_number, d__law_twins, d__law_atoms, d__law_scalar, d__law_key, d__law_value, d__law_table, d__law_parts, d__law_options, d__law_writer, d__law_text, d_law]
def fa : List He.Fa := [.glo "KeysError", .glo "BadKey", .glo "DoubleKey", .glo "NoKey", .glo "BadOption", .glo "Unwritable", .glo "Table", .glo "Writer", .glo "is_integer", .glo "fresh", .glo "probes", .glo "text_or_none", .glo "parting_texts", .glo "render_string", .glo "render", .glo "key_text", .glo "check_options", .glo "_law_source", .glo "_law_draw", .glo "_law_pick", .glo "_law_word", .glo "_law_text_key", .glo "_law_focus", .glo "_law_is_number", .glo "_law_twins", .glo "_law_atoms", .glo "_law_scalar", .glo "_law_key", .glo "_law_value", .glo "_law_table", .glo "_law_parts", .glo "_law_options", .glo "_law_writer", .glo "_law_text", .glo "law", .free "abs", .free "bool", .free "enumerate", .free "int", .free "isinstance", .free "len", .free "list", .free "max", .free "min", .free "range", .free "set", .free "sorted", .free "str", .free "sum", .free "tuple", .free "zip", .noat "Unwritable" "reason", .noat "Unwritable" "path", .cls "Table", .mkr "Table", .noat "Table" "held", .cls "Writer", .mkr "Writer", .noat "Writer" "number_keys", .noat "Writer" "tuples", .noat "Writer" "nulls", .noat "Writer" "double_keys", .noat "Writer" "order", .noat "Writer" "long_numbers", .meth "Table" "entries", .meth "Writer" "write", .meth "Writer" "raw_at", .meth "Writer" "kept_entries", .meth "Writer" "raw_pairs", .int "LONG" (10 ^ 15), .glo "WRITER_OPTIONS", .exm "Unwritable" "Unwritable" true]
/-- the j-th item of the tuple at a, if it is an object -/
def itA (K : PySem.W.Frag) (a : Addr) (j : Nat) : Addr := match K.lookup a with
  | some ⟨_, _, .seq its _, _⟩ => (match its.toList[j]? with
    | some (.ref b) => b
    | _ => 0)
  | _ => 0
def ktB (K : PySem.W.Frag) (a : Addr) (vs : List V) : Bool := match K.lookup a with
  | some ⟨.type c, _, .seq its _, _⟩ => decide (c = "tuple") && (decide (its.size ≤ sizeLine) && He.relAll vs its.toList)
  | _ => false
theorem ktB_ok {K : PySem.W.Frag} {a : Addr} {vs : List V} (h : ktB K a vs = true) (H : Hp) : SqT K H a vs := by
  unfold ktB at h
  split at h
  · rename_i c dd its n sl e
    simp only [Bool.and_eq_true, decide_eq_true_eq] at h
    obtain ⟨h1, h2, h3⟩ := h
    exact .inr ⟨_, its, n, e, congrArg Value.type h1, rfl, h2, He.relAll_ok h3⟩
  · cases h
def woN : List (Str × List Str) := [("number_keys", ["text", "skip", "refuse"]), ("tuples", ["list", "refuse"]), ("nulls", ["keep", "skip"]), ("double_keys", ["keep", "refuse"]), ("order", ["keep", "rising"]), ("long_numbers", ["keep", "text", "refuse"])]
def woI (K : PySem.W.Frag) (j : Nat) : Addr := itA K (He.ga K "WRITER_OPTIONS") j
def woB (K : PySem.W.Frag) : Bool := ktB K (He.ga K "WRITER_OPTIONS") ((List.range 6).map fun j => .ref (woI K j)) && (List.range 6).all fun j =>
  ktB K (woI K j) [.str (woN.getD j ("", [])).1, .ref (itA K (woI K j) 1)] && ktB K (itA K (woI K j) 1) ((woN.getD j ("", [])).2.map V.str)
def tyN : List String := ["NoneType", "bool", "int", "str", "list", "tuple"]
def tyB (K : PySem.W.Frag) : Bool := (tyN.all fun t => decide (PySem.W.kitOne K (.type t) (.ref (He.ga K "Table")) = some false) && decide (PySem.W.kitOne K (.ref (He.ga K "Table")) (.type t) = some false)) &&
  decide (PySem.W.kitOne K (.ref (He.ga K "Table")) (.ref (He.ga K "Table")) = some true)
def insB (K : PySem.W.Frag) (x : Str) : Bool := decide (PySem.W.findIn K (.ref (He.ga K x)) "__class__" = some (some (.builtin "object.__class__"))) && (decide (PySem.W.specialIn K (.builtin "object.__class__") "__get__" = some (some (.builtin "getset_descriptor.__get__"))) &&
  (decide (PySem.W.takesIn K (.builtin "object.__class__") = some true) && decide (PySem.W.mroIn K (He.ga K x) (.type "object") = some true)))
def digB (K : PySem.W.Frag) : Bool := PySem.W.readsIn K (He.ga K "Writer") (.type "type") && (decide (PySem.W.specialIn K (.ref (He.ga K "Writer")) "__getattribute__" = some (some (.builtin "type.__getattribute__"))) &&
  (match PySem.W.findCls K (.ref (He.ga K "Writer")) (.type "type") "DIGITS" with
  | some (.val u) => He.relB (.int 15) u
  | _ => false))
def extra (K : PySem.W.Frag) : Bool := exAllB K (He.ga K "Unwritable") (He.ma K (He.ga K "Unwritable") "__init__") && (woB K && (tyB K && (insB K "Table" && digB K)))
def tf : List He.Defn := [("Writer", some "kept_entries")]
structure Tx (w : World) (K : PySem.W.Frag) (mg : Str → Option Value) : Prop where
  ex : ∃ h, K.In h ∧ h.Ns mainGlobals mg ∧ He.SaysX fa fn [] tf extra w h K
section
variable {w : World} {K : PySem.W.Frag} {mg : Str → Option Value}
theorem Tx.d (T : Tx w K mg) : He.SaysD fa fn K := by
  obtain ⟨h, X, G, c⟩ := T.ex
  exact c.t.d
theorem Tx.m (T : Tx w K mg) : extra K = true := by
  obtain ⟨h, X, G, c⟩ := T.ex
  exact c.more
theorem Tx.g_KeysError (T : Tx w K mg) : mg "KeysError" = some (.ref (He.ga K "KeysError")) := by
  obtain ⟨h, X, G, c⟩ := T.ex
  exact He.glo_ok X G (c.t.d.fact 0 (f := .glo "KeysError") rfl)
theorem Tx.g_BadKey (T : Tx w K mg) : mg "BadKey" = some (.ref (He.ga K "BadKey")) := by
  obtain ⟨h, X, G, c⟩ := T.ex
  exact He.glo_ok X G (c.t.d.fact 1 (f := .glo "BadKey") rfl)
theorem Tx.g_DoubleKey (T : Tx w K mg) : mg "DoubleKey" = some (.ref (He.ga K "DoubleKey")) := by
  obtain ⟨h, X, G, c⟩ := T.ex
  exact He.glo_ok X G (c.t.d.fact 2 (f := .glo "DoubleKey") rfl)
theorem Tx.g_NoKey (T : Tx w K mg) : mg "NoKey" = some (.ref (He.ga K "NoKey")) := by
  obtain ⟨h, X, G, c⟩ := T.ex
  exact He.glo_ok X G (c.t.d.fact 3 (f := .glo "NoKey") rfl)
theorem Tx.g_BadOption (T : Tx w K mg) : mg "BadOption" = some (.ref (He.ga K "BadOption")) := by
  obtain ⟨h, X, G, c⟩ := T.ex
  exact He.glo_ok X G (c.t.d.fact 4 (f := .glo "BadOption") rfl)
theorem Tx.g_Unwritable (T : Tx w K mg) : mg "Unwritable" = some (.ref (He.ga K "Unwritable")) := by
  obtain ⟨h, X, G, c⟩ := T.ex
  exact He.glo_ok X G (c.t.d.fact 5 (f := .glo "Unwritable") rfl)
theorem Tx.g_Table (T : Tx w K mg) : mg "Table" = some (.ref (He.ga K "Table")) := by
  obtain ⟨h, X, G, c⟩ := T.ex
  exact He.glo_ok X G (c.t.d.fact 6 (f := .glo "Table") rfl)
theorem Tx.g_Writer (T : Tx w K mg) : mg "Writer" = some (.ref (He.ga K "Writer")) := by
  obtain ⟨h, X, G, c⟩ := T.ex
  exact He.glo_ok X G (c.t.d.fact 7 (f := .glo "Writer") rfl)
theorem Tx.g_is_integer (T : Tx w K mg) : mg "is_integer" = some (.ref (He.ga K "is_integer")) := by
  obtain ⟨h, X, G, c⟩ := T.ex
  exact He.glo_ok X G (c.t.d.fact 8 (f := .glo "is_integer") rfl)
theorem Tx.g_fresh (T : Tx w K mg) : mg "fresh" = some (.ref (He.ga K "fresh")) := by
  obtain ⟨h, X, G, c⟩ := T.ex
  exact He.glo_ok X G (c.t.d.fact 9 (f := .glo "fresh") rfl)
theorem Tx.g_probes (T : Tx w K mg) : mg "probes" = some (.ref (He.ga K "probes")) := by
  obtain ⟨h, X, G, c⟩ := T.ex
  exact He.glo_ok X G (c.t.d.fact 10 (f := .glo "probes") rfl)
theorem Tx.g_text_or_none (T : Tx w K mg) : mg "text_or_none" = some (.ref (He.ga K "text_or_none")) := by
  obtain ⟨h, X, G, c⟩ := T.ex
  exact He.glo_ok X G (c.t.d.fact 11 (f := .glo "text_or_none") rfl)
theorem Tx.g_parting_texts (T : Tx w K mg) : mg "parting_texts" = some (.ref (He.ga K "parting_texts")) := by
  obtain ⟨h, X, G, c⟩ := T.ex
  exact He.glo_ok X G (c.t.d.fact 12 (f := .glo "parting_texts") rfl)
theorem Tx.g_render_string (T : Tx w K mg) : mg "render_string" = some (.ref (He.ga K "render_string")) := by
  obtain ⟨h, X, G, c⟩ := T.ex
  exact He.glo_ok X G (c.t.d.fact 13 (f := .glo "render_string") rfl)
theorem Tx.g_render (T : Tx w K mg) : mg "render" = some (.ref (He.ga K "render")) := by
  obtain ⟨h, X, G, c⟩ := T.ex
  exact He.glo_ok X G (c.t.d.fact 14 (f := .glo "render") rfl)
theorem Tx.g_key_text (T : Tx w K mg) : mg "key_text" = some (.ref (He.ga K "key_text")) := by
  obtain ⟨h, X, G, c⟩ := T.ex
  exact He.glo_ok X G (c.t.d.fact 15 (f := .glo "key_text") rfl)
theorem Tx.g_check_options (T : Tx w K mg) : mg "check_options" = some (.ref (He.ga K "check_options")) := by
  obtain ⟨h, X, G, c⟩ := T.ex
  exact He.glo_ok X G (c.t.d.fact 16 (f := .glo "check_options") rfl)
theorem Tx.g__law_source (T : Tx w K mg) : mg "_law_source" = some (.ref (He.ga K "_law_source")) := by
  obtain ⟨h, X, G, c⟩ := T.ex
  exact He.glo_ok X G (c.t.d.fact 17 (f := .glo "_law_source") rfl)
theorem Tx.g__law_draw (T : Tx w K mg) : mg "_law_draw" = some (.ref (He.ga K "_law_draw")) := by
  obtain ⟨h, X, G, c⟩ := T.ex
  exact He.glo_ok X G (c.t.d.fact 18 (f := .glo "_law_draw") rfl)
theorem Tx.g__law_pick (T : Tx w K mg) : mg "_law_pick" = some (.ref (He.ga K "_law_pick")) := by
  obtain ⟨h, X, G, c⟩ := T.ex
  exact He.glo_ok X G (c.t.d.fact 19 (f := .glo "_law_pick") rfl)
theorem Tx.g__law_word (T : Tx w K mg) : mg "_law_word" = some (.ref (He.ga K "_law_word")) := by
  obtain ⟨h, X, G, c⟩ := T.ex
  exact He.glo_ok X G (c.t.d.fact 20 (f := .glo "_law_word") rfl)
theorem Tx.g__law_text_key (T : Tx w K mg) : mg "_law_text_key" = some (.ref (He.ga K "_law_text_key")) := by
  obtain ⟨h, X, G, c⟩ := T.ex
  exact He.glo_ok X G (c.t.d.fact 21 (f := .glo "_law_text_key") rfl)
theorem Tx.g__law_focus (T : Tx w K mg) : mg "_law_focus" = some (.ref (He.ga K "_law_focus")) := by
  obtain ⟨h, X, G, c⟩ := T.ex
  exact He.glo_ok X G (c.t.d.fact 22 (f := .glo "_law_focus") rfl)
theorem Tx.g__law_is_number (T : Tx w K mg) : mg "_law_is_number" = some (.ref (He.ga K "_law_is_number")) := by
  obtain ⟨h, X, G, c⟩ := T.ex
  exact He.glo_ok X G (c.t.d.fact 23 (f := .glo "_law_is_number") rfl)
theorem Tx.g__law_twins (T : Tx w K mg) : mg "_law_twins" = some (.ref (He.ga K "_law_twins")) := by
  obtain ⟨h, X, G, c⟩ := T.ex
  exact He.glo_ok X G (c.t.d.fact 24 (f := .glo "_law_twins") rfl)
theorem Tx.g__law_atoms (T : Tx w K mg) : mg "_law_atoms" = some (.ref (He.ga K "_law_atoms")) := by
  obtain ⟨h, X, G, c⟩ := T.ex
  exact He.glo_ok X G (c.t.d.fact 25 (f := .glo "_law_atoms") rfl)
theorem Tx.g__law_scalar (T : Tx w K mg) : mg "_law_scalar" = some (.ref (He.ga K "_law_scalar")) := by
  obtain ⟨h, X, G, c⟩ := T.ex
  exact He.glo_ok X G (c.t.d.fact 26 (f := .glo "_law_scalar") rfl)
theorem Tx.g__law_key (T : Tx w K mg) : mg "_law_key" = some (.ref (He.ga K "_law_key")) := by
  obtain ⟨h, X, G, c⟩ := T.ex
  exact He.glo_ok X G (c.t.d.fact 27 (f := .glo "_law_key") rfl)
theorem Tx.g__law_value (T : Tx w K mg) : mg "_law_value" = some (.ref (He.ga K "_law_value")) := by
  obtain ⟨h, X, G, c⟩ := T.ex
  exact He.glo_ok X G (c.t.d.fact 28 (f := .glo "_law_value") rfl)
theorem Tx.g__law_table (T : Tx w K mg) : mg "_law_table" = some (.ref (He.ga K "_law_table")) := by
  obtain ⟨h, X, G, c⟩ := T.ex
  exact He.glo_ok X G (c.t.d.fact 29 (f := .glo "_law_table") rfl)
theorem Tx.g__law_parts (T : Tx w K mg) : mg "_law_parts" = some (.ref (He.ga K "_law_parts")) := by
  obtain ⟨h, X, G, c⟩ := T.ex
  exact He.glo_ok X G (c.t.d.fact 30 (f := .glo "_law_parts") rfl)
theorem Tx.g__law_options (T : Tx w K mg) : mg "_law_options" = some (.ref (He.ga K "_law_options")) := by
  obtain ⟨h, X, G, c⟩ := T.ex
  exact He.glo_ok X G (c.t.d.fact 31 (f := .glo "_law_options") rfl)
theorem Tx.g__law_writer (T : Tx w K mg) : mg "_law_writer" = some (.ref (He.ga K "_law_writer")) := by
  obtain ⟨h, X, G, c⟩ := T.ex
  exact He.glo_ok X G (c.t.d.fact 32 (f := .glo "_law_writer") rfl)
theorem Tx.g__law_text (T : Tx w K mg) : mg "_law_text" = some (.ref (He.ga K "_law_text")) := by
  obtain ⟨h, X, G, c⟩ := T.ex
  exact He.glo_ok X G (c.t.d.fact 33 (f := .glo "_law_text") rfl)
theorem Tx.g_law (T : Tx w K mg) : mg "law" = some (.ref (He.ga K "law")) := by
  obtain ⟨h, X, G, c⟩ := T.ex
  exact He.glo_ok X G (c.t.d.fact 34 (f := .glo "law") rfl)
theorem Tx.n_abs (T : Tx w K mg) : mg "abs" = none := by
  obtain ⟨h, X, G, c⟩ := T.ex
  exact He.free_ok X G (c.t.d.fact 35 (f := .free "abs") rfl)
theorem Tx.n_bool (T : Tx w K mg) : mg "bool" = none := by
  obtain ⟨h, X, G, c⟩ := T.ex
  exact He.free_ok X G (c.t.d.fact 36 (f := .free "bool") rfl)
theorem Tx.n_enumerate (T : Tx w K mg) : mg "enumerate" = none := by
  obtain ⟨h, X, G, c⟩ := T.ex
  exact He.free_ok X G (c.t.d.fact 37 (f := .free "enumerate") rfl)
theorem Tx.n_int (T : Tx w K mg) : mg "int" = none := by
  obtain ⟨h, X, G, c⟩ := T.ex
  exact He.free_ok X G (c.t.d.fact 38 (f := .free "int") rfl)
theorem Tx.n_isinstance (T : Tx w K mg) : mg "isinstance" = none := by
  obtain ⟨h, X, G, c⟩ := T.ex
  exact He.free_ok X G (c.t.d.fact 39 (f := .free "isinstance") rfl)
theorem Tx.n_len (T : Tx w K mg) : mg "len" = none := by
  obtain ⟨h, X, G, c⟩ := T.ex
  exact He.free_ok X G (c.t.d.fact 40 (f := .free "len") rfl)
theorem Tx.n_list (T : Tx w K mg) : mg "list" = none := by
  obtain ⟨h, X, G, c⟩ := T.ex
  exact He.free_ok X G (c.t.d.fact 41 (f := .free "list") rfl)
theorem Tx.n_max (T : Tx w K mg) : mg "max" = none := by
  obtain ⟨h, X, G, c⟩ := T.ex
  exact He.free_ok X G (c.t.d.fact 42 (f := .free "max") rfl)
theorem Tx.n_min (T : Tx w K mg) : mg "min" = none := by
  obtain ⟨h, X, G, c⟩ := T.ex
  exact He.free_ok X G (c.t.d.fact 43 (f := .free "min") rfl)
theorem Tx.n_range (T : Tx w K mg) : mg "range" = none := by
  obtain ⟨h, X, G, c⟩ := T.ex
  exact He.free_ok X G (c.t.d.fact 44 (f := .free "range") rfl)
theorem Tx.n_set (T : Tx w K mg) : mg "set" = none := by
  obtain ⟨h, X, G, c⟩ := T.ex
  exact He.free_ok X G (c.t.d.fact 45 (f := .free "set") rfl)
theorem Tx.n_sorted (T : Tx w K mg) : mg "sorted" = none := by
  obtain ⟨h, X, G, c⟩ := T.ex
  exact He.free_ok X G (c.t.d.fact 46 (f := .free "sorted") rfl)
theorem Tx.n_str (T : Tx w K mg) : mg "str" = none := by
  obtain ⟨h, X, G, c⟩ := T.ex
  exact He.free_ok X G (c.t.d.fact 47 (f := .free "str") rfl)
theorem Tx.n_sum (T : Tx w K mg) : mg "sum" = none := by
  obtain ⟨h, X, G, c⟩ := T.ex
  exact He.free_ok X G (c.t.d.fact 48 (f := .free "sum") rfl)
theorem Tx.n_tuple (T : Tx w K mg) : mg "tuple" = none := by
  obtain ⟨h, X, G, c⟩ := T.ex
  exact He.free_ok X G (c.t.d.fact 49 (f := .free "tuple") rfl)
theorem Tx.n_zip (T : Tx w K mg) : mg "zip" = none := by
  obtain ⟨h, X, G, c⟩ := T.ex
  exact He.free_ok X G (c.t.d.fact 50 (f := .free "zip") rfl)
theorem Tx.a_Unwritable_reason (T : Tx w K mg) : NoAttr K (He.ga K "Unwritable") "reason" := He.noat_ok (T.d.fact 51 (f := .noat "Unwritable" "reason") rfl)
theorem Tx.a_Unwritable_path (T : Tx w K mg) : NoAttr K (He.ga K "Unwritable") "path" := He.noat_ok (T.d.fact 52 (f := .noat "Unwritable" "path") rfl)
theorem Tx.cl_Table (T : Tx w K mg) : Cls K (He.ga K "Table") := He.cls_ok (T.d.fact 53 (f := .cls "Table") rfl)
theorem Tx.mk_Table (T : Tx w K mg) : Mk K (He.ga K "Table") (He.ma K (He.ga K "Table") "__init__") := He.mkr_ok (T.d.fact 54 (f := .mkr "Table") rfl)
theorem Tx.a_Table_held (T : Tx w K mg) : NoAttr K (He.ga K "Table") "held" := He.noat_ok (T.d.fact 55 (f := .noat "Table" "held") rfl)
theorem Tx.cl_Writer (T : Tx w K mg) : Cls K (He.ga K "Writer") := He.cls_ok (T.d.fact 56 (f := .cls "Writer") rfl)
theorem Tx.mk_Writer (T : Tx w K mg) : Mk K (He.ga K "Writer") (He.ma K (He.ga K "Writer") "__init__") := He.mkr_ok (T.d.fact 57 (f := .mkr "Writer") rfl)
theorem Tx.a_Writer_number_keys (T : Tx w K mg) : NoAttr K (He.ga K "Writer") "number_keys" := He.noat_ok (T.d.fact 58 (f := .noat "Writer" "number_keys") rfl)
theorem Tx.a_Writer_tuples (T : Tx w K mg) : NoAttr K (He.ga K "Writer") "tuples" := He.noat_ok (T.d.fact 59 (f := .noat "Writer" "tuples") rfl)
theorem Tx.a_Writer_nulls (T : Tx w K mg) : NoAttr K (He.ga K "Writer") "nulls" := He.noat_ok (T.d.fact 60 (f := .noat "Writer" "nulls") rfl)
theorem Tx.a_Writer_double_keys (T : Tx w K mg) : NoAttr K (He.ga K "Writer") "double_keys" := He.noat_ok (T.d.fact 61 (f := .noat "Writer" "double_keys") rfl)
theorem Tx.a_Writer_order (T : Tx w K mg) : NoAttr K (He.ga K "Writer") "order" := He.noat_ok (T.d.fact 62 (f := .noat "Writer" "order") rfl)
theorem Tx.a_Writer_long_numbers (T : Tx w K mg) : NoAttr K (He.ga K "Writer") "long_numbers" := He.noat_ok (T.d.fact 63 (f := .noat "Writer" "long_numbers") rfl)
theorem Tx.m_Table_entries (T : Tx w K mg) : Meth K (He.ga K "Table") "entries" (He.ma K (He.ga K "Table") "entries") := He.meth_ok (T.d.fact 64 (f := .meth "Table" "entries") rfl)
theorem Tx.m_Writer_write (T : Tx w K mg) : Meth K (He.ga K "Writer") "write" (He.ma K (He.ga K "Writer") "write") := He.meth_ok (T.d.fact 65 (f := .meth "Writer" "write") rfl)
theorem Tx.m_Writer_raw_at (T : Tx w K mg) : Meth K (He.ga K "Writer") "raw_at" (He.ma K (He.ga K "Writer") "raw_at") := He.meth_ok (T.d.fact 66 (f := .meth "Writer" "raw_at") rfl)
theorem Tx.m_Writer_kept_entries (T : Tx w K mg) : Meth K (He.ga K "Writer") "kept_entries" (He.ma K (He.ga K "Writer") "kept_entries") := He.meth_ok (T.d.fact 67 (f := .meth "Writer" "kept_entries") rfl)
theorem Tx.m_Writer_raw_pairs (T : Tx w K mg) : Meth K (He.ga K "Writer") "raw_pairs" (He.ma K (He.ga K "Writer") "raw_pairs") := He.meth_ok (T.d.fact 68 (f := .meth "Writer" "raw_pairs") rfl)
theorem Tx.LONG (T : Tx w K mg) : ∃ t, mg "LONG" = some (.int (10 ^ 15) t) := by
  obtain ⟨h, X, G, c⟩ := T.ex
  exact He.int_ok X G (c.t.d.fact 69 (f := .int "LONG" (10 ^ 15)) rfl)
theorem Tx.g_WRITER_OPTIONS (T : Tx w K mg) : mg "WRITER_OPTIONS" = some (.ref (He.ga K "WRITER_OPTIONS")) := by
  obtain ⟨h, X, G, c⟩ := T.ex
  exact He.glo_ok X G (c.t.d.fact 70 (f := .glo "WRITER_OPTIONS") rfl)
theorem Tx.exm (T : Tx w K mg) : PySem.W.exmOne K (.ref (He.ga K "Unwritable")) (.ref (He.ga K "Unwritable")) = some true := He.exm_ok (T.d.fact 71 (f := .exm "Unwritable" "Unwritable" true) rfl)
theorem Tx.f_Unwritable_init (T : Tx w K mg) : ∃ fd, FunD K d_Unwritable_init.name d_Unwritable_init.qual (defArgs s_Unwritable_init) (defBody s_Unwritable_init) (defScope s_Unwritable_init) (d_Unwritable_init.dvs K) (d_Unwritable_init.kws K) (He.fAd K d_Unwritable_init.at_) fd := T.d.def_ 0 (d := d_Unwritable_init) rfl
theorem Tx.f_is_integer (T : Tx w K mg) : ∃ fd, FunD K d_is_integer.name d_is_integer.qual (defArgs s_is_integer) (defBody s_is_integer) (defScope s_is_integer) (d_is_integer.dvs K) (d_is_integer.kws K) (He.fAd K d_is_integer.at_) fd := T.d.def_ 1 (d := d_is_integer) rfl
theorem Tx.f_fresh (T : Tx w K mg) : ∃ fd, FunD K d_fresh.name d_fresh.qual (defArgs s_fresh) (defBody s_fresh) (defScope s_fresh) (d_fresh.dvs K) (d_fresh.kws K) (He.fAd K d_fresh.at_) fd := T.d.def_ 2 (d := d_fresh) rfl
theorem Tx.f_Table_init (T : Tx w K mg) : ∃ fd, FunD K d_Table_init.name d_Table_init.qual (defArgs s_Table_init) (defBody s_Table_init) (defScope s_Table_init) (d_Table_init.dvs K) (d_Table_init.kws K) (He.fAd K d_Table_init.at_) fd := T.d.def_ 3 (d := d_Table_init) rfl
theorem Tx.f_Table_entries (T : Tx w K mg) : ∃ fd, FunD K d_Table_entries.name d_Table_entries.qual (defArgs s_Table_entries) (defBody s_Table_entries) (defScope s_Table_entries) (d_Table_entries.dvs K) (d_Table_entries.kws K) (He.fAd K d_Table_entries.at_) fd := T.d.def_ 4 (d := d_Table_entries) rfl
theorem Tx.f_probes (T : Tx w K mg) : ∃ fd, FunD K d_probes.name d_probes.qual (defArgs s_probes) (defBody s_probes) (defScope s_probes) (d_probes.dvs K) (d_probes.kws K) (He.fAd K d_probes.at_) fd := T.d.def_ 5 (d := d_probes) rfl
theorem Tx.f_text_or_none (T : Tx w K mg) : ∃ fd, FunD K d_text_or_none.name d_text_or_none.qual (defArgs s_text_or_none) (defBody s_text_or_none) (defScope s_text_or_none) (d_text_or_none.dvs K) (d_text_or_none.kws K) (He.fAd K d_text_or_none.at_) fd := T.d.def_ 6 (d := d_text_or_none) rfl
theorem Tx.f_parting_texts (T : Tx w K mg) : ∃ fd, FunD K d_parting_texts.name d_parting_texts.qual (defArgs s_parting_texts) (defBody s_parting_texts) (defScope s_parting_texts) (d_parting_texts.dvs K) (d_parting_texts.kws K) (He.fAd K d_parting_texts.at_) fd := T.d.def_ 7 (d := d_parting_texts) rfl
theorem Tx.f_render_string (T : Tx w K mg) : ∃ fd, FunD K d_render_string.name d_render_string.qual (defArgs s_render_string) (defBody s_render_string) (defScope s_render_string) (d_render_string.dvs K) (d_render_string.kws K) (He.fAd K d_render_string.at_) fd := T.d.def_ 8 (d := d_render_string) rfl
theorem Tx.f_render (T : Tx w K mg) : ∃ fd, FunD K d_render.name d_render.qual (defArgs s_render) (defBody s_render) (defScope s_render) (d_render.dvs K) (d_render.kws K) (He.fAd K d_render.at_) fd := T.d.def_ 9 (d := d_render) rfl
theorem Tx.f_key_text (T : Tx w K mg) : ∃ fd, FunD K d_key_text.name d_key_text.qual (defArgs s_key_text) (defBody s_key_text) (defScope s_key_text) (d_key_text.dvs K) (d_key_text.kws K) (He.fAd K d_key_text.at_) fd := T.d.def_ 10 (d := d_key_text) rfl
theorem Tx.f_check_options (T : Tx w K mg) : ∃ fd, FunD K d_check_options.name d_check_options.qual (defArgs s_check_options) (defBody s_check_options) (defScope s_check_options) (d_check_options.dvs K) (d_check_options.kws K) (He.fAd K d_check_options.at_) fd := T.d.def_ 11 (d := d_check_options) rfl
theorem Tx.f_Writer_init (T : Tx w K mg) : ∃ fd, FunD K d_Writer_init.name d_Writer_init.qual (defArgs s_Writer_init) (defBody s_Writer_init) (defScope s_Writer_init) (d_Writer_init.dvs K) (d_Writer_init.kws K) (He.fAd K d_Writer_init.at_) fd := T.d.def_ 12 (d := d_Writer_init) rfl
theorem Tx.f_Writer_write (T : Tx w K mg) : ∃ fd, FunD K d_Writer_write.name d_Writer_write.qual (defArgs s_Writer_write) (defBody s_Writer_write) (defScope s_Writer_write) (d_Writer_write.dvs K) (d_Writer_write.kws K) (He.fAd K d_Writer_write.at_) fd := T.d.def_ 13 (d := d_Writer_write) rfl
theorem Tx.f_Writer_raw_at (T : Tx w K mg) : ∃ fd, FunD K d_Writer_raw_at.name d_Writer_raw_at.qual (defArgs s_Writer_raw_at) (defBody s_Writer_raw_at) (defScope s_Writer_raw_at) (d_Writer_raw_at.dvs K) (d_Writer_raw_at.kws K) (He.fAd K d_Writer_raw_at.at_) fd := T.d.def_ 14 (d := d_Writer_raw_at) rfl
theorem Tx.f_Writer_kept_entries (T : Tx w K mg) : ∃ fd, FunD K d_Writer_kept_entries.name d_Writer_kept_entries.qual (defArgs s_Writer_kept_entries) (defBody s_Writer_kept_entries) (defScope s_Writer_kept_entries) (d_Writer_kept_entries.dvs K) (d_Writer_kept_entries.kws K) (He.fAd K d_Writer_kept_entries.at_) fd := T.d.def_ 15 (d := d_Writer_kept_entries) rfl
theorem Tx.f_Writer_raw_pairs (T : Tx w K mg) : ∃ fd, FunD K d_Writer_raw_pairs.name d_Writer_raw_pairs.qual (defArgs s_Writer_raw_pairs) (defBody s_Writer_raw_pairs) (defScope s_Writer_raw_pairs) (d_Writer_raw_pairs.dvs K) (d_Writer_raw_pairs.kws K) (He.fAd K d_Writer_raw_pairs.at_) fd := T.d.def_ 16 (d := d_Writer_raw_pairs) rfl
theorem Tx.f__law_source (T : Tx w K mg) : ∃ fd, FunD K d__law_source.name d__law_source.qual (defArgs s__law_source) (defBody s__law_source) (defScope s__law_source) (d__law_source.dvs K) (d__law_source.kws K) (He.fAd K d__law_source.at_) fd := T.d.def_ 17 (d := d__law_source) rfl
theorem Tx.f__law_draw (T : Tx w K mg) : ∃ fd, FunD K d__law_draw.name d__law_draw.qual (defArgs s__law_draw) (defBody s__law_draw) (defScope s__law_draw) (d__law_draw.dvs K) (d__law_draw.kws K) (He.fAd K d__law_draw.at_) fd := T.d.def_ 18 (d := d__law_draw) rfl
theorem Tx.f__law_pick (T : Tx w K mg) : ∃ fd, FunD K d__law_pick.name d__law_pick.qual (defArgs s__law_pick) (defBody s__law_pick) (defScope s__law_pick) (d__law_pick.dvs K) (d__law_pick.kws K) (He.fAd K d__law_pick.at_) fd := T.d.def_ 19 (d := d__law_pick) rfl
theorem Tx.f__law_word (T : Tx w K mg) : ∃ fd, FunD K d__law_word.name d__law_word.qual (defArgs s__law_word) (defBody s__law_word) (defScope s__law_word) (d__law_word.dvs K) (d__law_word.kws K) (He.fAd K d__law_word.at_) fd := T.d.def_ 20 (d := d__law_word) rfl
theorem Tx.f__law_text_key (T : Tx w K mg) : ∃ fd, FunD K d__law_text_key.name d__law_text_key.qual (defArgs s__law_text_key) (defBody s__law_text_key) (defScope s__law_text_key) (d__law_text_key.dvs K) (d__law_text_key.kws K) (He.fAd K d__law_text_key.at_) fd := T.d.def_ 21 (d := d__law_text_key) rfl
theorem Tx.f__law_focus (T : Tx w K mg) : ∃ fd, FunD K d__law_focus.name d__law_focus.qual (defArgs s__law_focus) (defBody s__law_focus) (defScope s__law_focus) (d__law_focus.dvs K) (d__law_focus.kws K) (He.fAd K d__law_focus.at_) fd := T.d.def_ 22 (d := d__law_focus) rfl
theorem Tx.f__law_is_number (T : Tx w K mg) : ∃ fd, FunD K d__law_is_number.name d__law_is_number.qual (defArgs s__law_is_number) (defBody s__law_is_number) (defScope s__law_is_number) (d__law_is_number.dvs K) (d__law_is_number.kws K) (He.fAd K d__law_is_number.at_) fd := T.d.def_ 23 (d := d__law_is_number) rfl
theorem Tx.f__law_twins (T : Tx w K mg) : ∃ fd, FunD K d__law_twins.name d__law_twins.qual (defArgs s__law_twins) (defBody s__law_twins) (defScope s__law_twins) (d__law_twins.dvs K) (d__law_twins.kws K) (He.fAd K d__law_twins.at_) fd := T.d.def_ 24 (d := d__law_twins) rfl
theorem Tx.f__law_atoms (T : Tx w K mg) : ∃ fd, FunD K d__law_atoms.name d__law_atoms.qual (defArgs s__law_atoms) (defBody s__law_atoms) (defScope s__law_atoms) (d__law_atoms.dvs K) (d__law_atoms.kws K) (He.fAd K d__law_atoms.at_) fd := T.d.def_ 25 (d := d__law_atoms) rfl
theorem Tx.f__law_scalar (T : Tx w K mg) : ∃ fd, FunD K d__law_scalar.name d__law_scalar.qual (defArgs s__law_scalar) (defBody s__law_scalar) (defScope s__law_scalar) (d__law_scalar.dvs K) (d__law_scalar.kws K) (He.fAd K d__law_scalar.at_) fd := T.d.def_ 26 (d := d__law_scalar) rfl
theorem Tx.f__law_key (T : Tx w K mg) : ∃ fd, FunD K d__law_key.name d__law_key.qual (defArgs s__law_key) (defBody s__law_key) (defScope s__law_key) (d__law_key.dvs K) (d__law_key.kws K) (He.fAd K d__law_key.at_) fd := T.d.def_ 27 (d := d__law_key) rfl
theorem Tx.f__law_value (T : Tx w K mg) : ∃ fd, FunD K d__law_value.name d__law_value.qual (defArgs s__law_value) (defBody s__law_value) (defScope s__law_value) (d__law_value.dvs K) (d__law_value.kws K) (He.fAd K d__law_value.at_) fd := T.d.def_ 28 (d := d__law_value) rfl
theorem Tx.f__law_table (T : Tx w K mg) : ∃ fd, FunD K d__law_table.name d__law_table.qual (defArgs s__law_table) (defBody s__law_table) (defScope s__law_table) (d__law_table.dvs K) (d__law_table.kws K) (He.fAd K d__law_table.at_) fd := T.d.def_ 29 (d := d__law_table) rfl
theorem Tx.f__law_parts (T : Tx w K mg) : ∃ fd, FunD K d__law_parts.name d__law_parts.qual (defArgs s__law_parts) (defBody s__law_parts) (defScope s__law_parts) (d__law_parts.dvs K) (d__law_parts.kws K) (He.fAd K d__law_parts.at_) fd := T.d.def_ 30 (d := d__law_parts) rfl
theorem Tx.f__law_options (T : Tx w K mg) : ∃ fd, FunD K d__law_options.name d__law_options.qual (defArgs s__law_options) (defBody s__law_options) (defScope s__law_options) (d__law_options.dvs K) (d__law_options.kws K) (He.fAd K d__law_options.at_) fd := T.d.def_ 31 (d := d__law_options) rfl
theorem Tx.f__law_writer (T : Tx w K mg) : ∃ fd, FunD K d__law_writer.name d__law_writer.qual (defArgs s__law_writer) (defBody s__law_writer) (defScope s__law_writer) (d__law_writer.dvs K) (d__law_writer.kws K) (He.fAd K d__law_writer.at_) fd := T.d.def_ 32 (d := d__law_writer) rfl
theorem Tx.f__law_text (T : Tx w K mg) : ∃ fd, FunD K d__law_text.name d__law_text.qual (defArgs s__law_text) (defBody s__law_text) (defScope s__law_text) (d__law_text.dvs K) (d__law_text.kws K) (He.fAd K d__law_text.at_) fd := T.d.def_ 33 (d := d__law_text) rfl
theorem Tx.f_law (T : Tx w K mg) : ∃ fd, FunD K d_law.name d_law.qual (defArgs s_law) (defBody s_law) (defScope s_law) (d_law.dvs K) (d_law.kws K) (He.fAd K d_law.at_) fd := T.d.def_ 34 (d := d_law) rfl
end
abbrev R : PySem.W.OpenRow := PySem.W.OpenLaw.row PySem.Challenge.rw_keysthroughtext_k84_whole_writers_alike
abbrev hk : PySem.W.Hook := hookY 6 fa fn tf extra
def ob (s : PySem.W.SharedT) : He.AlX := obsY 6 fa fn tf extra (HandSHeadRun.getT s)
theorem ob_eq (s : PySem.W.SharedT) : ob s = hk.obs s.abs := obsY_eq (HandSHeadRun.getT_eq s)
abbrev looseN : List Str := (["_wall", "KeysError", "BadKey", "DoubleKey", "NoKey", "BadOption", "Unwritable", "is_integer", "kind", "fresh", "same_rows", "same_tables"] : List Str) ++ (["same", "Table", "LONG", "probes", "text_or_none", "parting_texts", "render_string", "render", "WRITER_OPTIONS", "key_text", "check_options", "Writer"] : List Str) ++ (["_law_source", "_law_draw", "_law_pick", "_law_word", "_law_text_key", "_law_focus", "_law_is_number", "_law_twins", "_law_atoms", "_law_scalar", "_law_key", "_law_value"] : List Str) ++ (["_law_table", "_law_parts", "_law_options", "_law_writer", "_law_text"] : List Str)
theorem run (w : World) : HandSHeadRun.RunEq R (PySem.W.view R.prog [47]) hk ob 60000 looseN w := by
  intro os
  kernel_rfl
section
variable {w : World} {K : PySem.W.Frag} {mg : Str → Option Value}
theorem band {a b : Bool} (h : (a && b) = true) : a = true ∧ b = true := Bool.and_eq_true_iff.mp h
theorem Tx.ex' (T : Tx w K mg) : ExAll K (He.ga K "Unwritable") (He.ma K (He.ga K "Unwritable") "__init__") := exAllB_ok (band T.m).1
theorem Tx.wo (T : Tx w K mg) (H : Hp) : SqT K H (He.ga K "WRITER_OPTIONS") ((List.range 6).map fun j => .ref (woI K j)) := ktB_ok (band (band (band T.m).2).1).1 H
theorem Tx.wo1 (T : Tx w K mg) (H : Hp) (j : Nat) (hj : j < 6) : SqT K H (woI K j) [.str (woN.getD j ("", [])).1, .ref (itA K (woI K j) 1)] := ktB_ok (band (List.all_eq_true.mp (band (band (band T.m).2).1).2 j (List.mem_range.mpr hj))).1 H
theorem Tx.wo2 (T : Tx w K mg) (H : Hp) (j : Nat) (hj : j < 6) : SqT K H (itA K (woI K j) 1) ((woN.getD j ("", [])).2.map V.str) := ktB_ok (band (List.all_eq_true.mp (band (band (band T.m).2).1).2 j (List.mem_range.mpr hj))).2 H
theorem Tx.kT (T : Tx w K mg) {t : String} (h : t ∈ tyN) : PySem.W.kitOne K (.type t) (.ref (He.ga K "Table")) = some false := of_decide_eq_true (band (List.all_eq_true.mp (band (band (band (band T.m).2).2).1).1 t h)).1
theorem Tx.kTb (T : Tx w K mg) {t : String} (h : t ∈ tyN) : PySem.W.kitOne K (.ref (He.ga K "Table")) (.type t) = some false := of_decide_eq_true (band (List.all_eq_true.mp (band (band (band (band T.m).2).2).1).1 t h)).2
theorem Tx.kTT (T : Tx w K mg) : PySem.W.kitOne K (.ref (He.ga K "Table")) (.ref (He.ga K "Table")) = some true := of_decide_eq_true (band (band (band (band T.m).2).2).1).2
theorem Tx.insT (T : Tx w K mg) {H : Hp} {a dx : Addr} {fs : List (Str × V)} (e : H a = some (.ins (He.ga K "Table") dx fs)) : TyOf K H (.ref a) (.ref (He.ga K "Table")) := by
  have h := (band (band (band (band T.m).2).2).2).1
  obtain ⟨h1, h⟩ := band h
  obtain ⟨h2, h⟩ := band h
  obtain ⟨h3, h4⟩ := band h
  exact .ins e T.cl_Table (of_decide_eq_true h1) (of_decide_eq_true h2) (of_decide_eq_true h3) (of_decide_eq_true h4)
theorem Tx.dig (T : Tx w K mg) : ClX.CRead K (He.ga K "Writer") (.type "type") ∧ ∃ u, ClX.CVal K (He.ga K "Writer") (.type "type") "DIGITS" (.int 15) u := by
  have h := (band (band (band (band T.m).2).2).2).2
  obtain ⟨h1, h⟩ := band h
  obtain ⟨h2, h⟩ := band h
  refine ⟨⟨h1, of_decide_eq_true h2⟩, ?_⟩
  split at h
  · rename_i u e
    exact ⟨u, e, He.relB_ok h⟩
  · cases h
end
end Kt
set_option Elab.async false
set_option linter.all false
set_option maxRecDepth 100000
set_option maxHeartbeats 4000000
namespace Kt
open PySem PySem.Spec PyProof.Rows L2 Rz
section
variable {K : PySem.W.Frag} {b : Bool} {a : Addr} {xs : List V} {g : TG} {tt : TT} {te : TE} {vs : List Nat} {σ : L2.St} {H1 : Hp} {D : Addr} {Qd : Hp → Prop}
/-- a comprehension over a list or a tuple that stays -/
theorem lc_seqB (Pv : Nat → Hp → Prop) (h0 : Pv 0 (upd H1 D (.lst []))) (hl : ∀ i H, i ≤ xs.length → Pv i H → SqB K b H a xs)
    (hs : ∀ i x H, xs[i]? = some x → Pv i H → g x (wipe σ vs) H fun σ2 H2 => wipe σ2 vs = wipe σ vs ∧ tt σ2 H2 fun c H3 =>
      if c = true then te σ2 H3 fun y H4 => ∃ acc, H4 D = some (.lst acc) ∧ acc.length < sizeLine ∧ Pv (i + 1) (upd H4 D (.lst (acc ++ [y]))) else Pv (i + 1) H3) (hd : ∀ H, Pv xs.length H → Qd H) :
    ∃ W : Nat → Nat → Hp → Prop, (∃ m, W 0 m (upd H1 D (.lst []))) ∧ ∀ i m H, W i m H →
      ((ItB K b a).stop i H ∧ Qd H) ∨ ((ItB K b a).go i H ∧ ∃ Nx : Hp → Prop, (∀ H', Nx H' → ∃ m', m' < m ∧ W (i + 1) m' H') ∧ ∀ x H', (ItB K b a).yld i H x H' → g x (wipe σ vs) H' fun σ2 H2 => wipe σ2 vs = wipe σ vs ∧ tt σ2 H2 fun c H3 =>
        if c = true then te σ2 H3 fun y H4 => ∃ acc, H4 D = some (.lst acc) ∧ acc.length < sizeLine ∧ Nx (upd H4 D (.lst (acc ++ [y]))) else Nx H3) := by
  cases b with
  | true => exact lc_list (K := K) (a := a) Pv h0 hl hs hd
  | false => exact lc_tup (K := K) (a := a) Pv h0 hl hs hd
/-- .. with the places: the items as new pairs -/
theorem lc_enumB (Pv : Nat → Hp → Prop) (h0 : Pv 0 (upd H1 D (.lst []))) (hl : ∀ i H, i ≤ xs.length → Pv i H → SqB K b H a xs)
    (hs : ∀ i x T H, xs[i]? = some x → Pv i H → H T = none → g (.ref T) (wipe σ vs) (upd H T (.tup [.int (i : Nat), x])) fun σ2 H2 => wipe σ2 vs = wipe σ vs ∧ tt σ2 H2 fun c H3 =>
      if c = true then te σ2 H3 fun y H4 => ∃ acc, H4 D = some (.lst acc) ∧ acc.length < sizeLine ∧ Pv (i + 1) (upd H4 D (.lst (acc ++ [y]))) else Pv (i + 1) H3) (hd : ∀ H, Pv xs.length H → Qd H) :
    ∃ W : Nat → Nat → Hp → Prop, (∃ m, W 0 m (upd H1 D (.lst []))) ∧ ∀ i m H, W i m H →
      ((IteB K b a).stop i H ∧ Qd H) ∨ ((IteB K b a).go i H ∧ ∃ Nx : Hp → Prop, (∀ H', Nx H' → ∃ m', m' < m ∧ W (i + 1) m' H') ∧ ∀ x H', (IteB K b a).yld i H x H' → g x (wipe σ vs) H' fun σ2 H2 => wipe σ2 vs = wipe σ vs ∧ tt σ2 H2 fun c H3 =>
        if c = true then te σ2 H3 fun y H4 => ∃ acc, H4 D = some (.lst acc) ∧ acc.length < sizeLine ∧ Nx (upd H4 D (.lst (acc ++ [y]))) else Nx H3) := by
  refine ⟨fun i m H => m = xs.length - i ∧ i ≤ xs.length ∧ Pv i H, ⟨xs.length, by simp, Nat.zero_le _, h0⟩, ?_⟩
  rintro i m H ⟨rfl, hi, p⟩
  have q := hl i H hi p
  by_cases hlt : i < xs.length
  · have next : ∀ H', Pv (i + 1) H' → ∃ m', m' < xs.length - i ∧ m' = xs.length - (i + 1) ∧ i + 1 ≤ xs.length ∧ Pv (i + 1) H' := fun H' p' => ⟨xs.length - (i + 1), by omega, rfl, hlt, p'⟩
    cases b with
    | true => exact .inr ⟨⟨xs, xs[i], q, by simp [hlt]⟩, Pv (i + 1), next, fun x H' ⟨T, y, e1, hT, e2, hy⟩ => by subst e1 e2; exact hs i y T H (hy xs q) p hT⟩
    | false => exact .inr ⟨⟨xs, xs[i], q, by simp [hlt]⟩, Pv (i + 1), next, fun x H' ⟨T, y, e1, hT, e2, hy⟩ => by subst e1 e2; exact hs i y T H (hy xs q) p hT⟩
  · have e : i = xs.length := by omega
    subst e
    cases b with
    | true => exact .inl ⟨⟨xs, q, Nat.le_refl _⟩, hd H p⟩
    | false => exact .inl ⟨⟨xs, q, Nat.le_refl _⟩, hd H p⟩
end
theorem sqB_of {K : PySem.W.Frag} {t : Bool} {H : Hp} {a : Addr} {xs : List V} (h : H a = some (sqO t xs)) : SqB K t H a xs := by
  cases t with
  | true => exact SqL.of h
  | false => exact SqT.of h
theorem cut_cons {H : Hp} {ps : List Addr} {D : Addr} {o : HO} : cut (upd H D o) (D :: ps) = cut H (D :: ps) := by
  funext b
  unfold cut
  by_cases h : b ∈ D :: ps
  · rw [if_pos h, if_pos h]
  · rw [if_neg h, if_neg h, upd_ne fun z => h (by rw [z]; exact List.mem_cons_self)]
theorem cut_add {H H' : Hp} {ps : List Addr} {D : Addr} (n : H D = none) (s : Same H H') : Same (cut H ps) (cut H' (D :: ps)) := fun b o h => by
  have hb := cut_le b o h
  refine cut_at (fun z => ?_) (s b o hb)
  rcases List.mem_cons.mp z with e | z
  · rw [e, n] at hb; cases hb
  · unfold cut at h
    rw [if_pos z] at h
    cases h
theorem Same.mk'' {H H' : Hp} {D : Addr} {o : HO} (e : Same H H') (h : H D = none) : Same H (upd H' D o) := fun b u q => by
  rw [upd_ne (ne_of_none q h)]
  exact e b u q
theorem sqB_same {K : PySem.W.Frag} {b : Bool} {H H' : Hp} {a : Addr} {xs : List V} (s : Same H H') (h : SqB K b H a xs) : SqB K b H' a xs := by
  have rd : ∀ {u : HO}, Rd H a u → Rd H' a u := fun r => r.elim (fun z => .inl (s _ _ z)) fun ⟨o, z⟩ => .inr ⟨o, s _ _ z⟩
  cases b with
  | true => exact Or.imp_left rd h
  | false => exact Or.imp_left rd h
end Kt
set_option Elab.async false
set_option linter.all false
set_option maxRecDepth 100000
set_option maxHeartbeats 4000000
namespace Kt
open PySem PySem.Spec PyProof.Rows L2 Rz
section
variable {P : Program} {w : World} {K : PySem.W.Frag} {mg : Str → Option Value} {base : Heap}
abbrev CT (K : PySem.W.Frag) : Addr := He.ga K "Table"
def tyS : Val → String
  | .non => "NoneType"
  | .bl _ => "bool"
  | .int _ => "int"
  | .str _ => "str"
  | .seq t _ => if t then "list" else "tuple"
  | .tab _ => "Table"
def isT (ty : String) (d : Val) : Bool := tyS d == ty || (tyS d == "bool" && ty == "int")
theorem kits {a b : String} (ha : a ∈ tyN) (hb : b ∈ ["bool", "int", "str", "list", "tuple"]) : PySem.W.kitOne K (.type a) (.type b) = some (a == b || (a == "bool" && b == "int")) := by
  simp only [tyN, List.mem_cons, List.not_mem_nil, or_false] at ha hb
  rcases ha with rfl | rfl | rfl | rfl | rfl | rfl <;> rcases hb with rfl | rfl | rfl | rfl | rfl <;> exact kit_ty (by decide +kernel)
theorem at_ty (T : Tx w K mg) {H G : Hp} {k : Nat} {x : V} {d : Val} (g : Same G H) (h : VAt (CT K) G k x d) : ∃ t, TyX K H x t ∧ ((∃ a ∈ tyN, t = .type a ∧ tyS d = a) ∨ (t = .ref (CT K) ∧ tyS d = "Table")) := by
  have fl : ∀ {d : Val}, Rz.flat d = some x → ∃ t, TyX K H x t ∧ ((∃ a ∈ tyN, t = .type a ∧ tyS d = a) ∨ (t = .ref (CT K) ∧ tyS d = "Table")) := fun {d} e => by
    cases d with
    | non => cases e; exact ⟨_, .base .non, .inl ⟨_, by decide, rfl, rfl⟩⟩
    | bl b => cases e; exact ⟨_, .base (.bl _), .inl ⟨_, by decide, rfl, rfl⟩⟩
    | int i => cases e; exact ⟨_, .base (.int _), .inl ⟨_, by decide, rfl, rfl⟩⟩
    | str z => cases e; exact ⟨_, .base (.str _), .inl ⟨_, by decide, rfl, rfl⟩⟩
    | seq t l => cases e
    | tab es => cases e
  cases k with
  | zero => exact fl h
  | succ k =>
    rcases h with h | ⟨t, l, a, xs, rfl, rfl, h1, h2⟩ | ⟨es, p, dx, dd, od, kvs, rfl, rfl, h1, h2, h3⟩
    · exact fl h
    · cases t with
      | true => exact ⟨_, .base (.lst (g _ _ h1)), .inl ⟨"list", by decide, rfl, rfl⟩⟩
      | false => exact ⟨_, .base (.tup (g _ _ h1)), .inl ⟨"tuple", by decide, rfl, rfl⟩⟩
    · exact ⟨_, .base (T.insT (g _ _ h1)), .inr ⟨rfl, rfl⟩⟩
/-- isinstance(x, a built-in class) -/
theorem isi (T : Tx w K mg) {H G : Hp} {k : Nat} {x : V} {d : Val} (b : String) (g : Same G H) (h : VAt (CT K) G k x d) (hb : b ∈ ["bool", "int", "str", "list", "tuple"] := by decide) : ∃ t, TyX K H x t ∧ PySem.W.kitOne K t (.type b) = some (isT b d) := by
  obtain ⟨t, ty, ⟨a, ha, rfl, e⟩ | ⟨rfl, e⟩⟩ := at_ty T g h
  · exact ⟨_, ty, by unfold isT; rw [e]; exact kits ha hb⟩
  · refine ⟨_, ty, ?_⟩
    have hb2 : b ∈ tyN := by
      simp only [List.mem_cons, List.not_mem_nil, or_false] at hb
      rcases hb with rfl | rfl | rfl | rfl | rfl <;> decide
    rw [T.kTb hb2]
    unfold isT
    rw [e]
    simp only [List.mem_cons, List.not_mem_nil, or_false] at hb
    rcases hb with rfl | rfl | rfl | rfl | rfl <;> decide
/-- isinstance(x, Table) -/
theorem isiC (T : Tx w K mg) {H G : Hp} {k : Nat} {x : V} {d : Val} (g : Same G H) (h : VAt (CT K) G k x d) : ∃ t, TyX K H x t ∧ PySem.W.kitOne K t (.ref (CT K)) = some (tyS d == "Table") := by
  obtain ⟨t, ty, ⟨a, ha, rfl, e⟩ | ⟨rfl, e⟩⟩ := at_ty T g h
  · refine ⟨_, ty, ?_⟩
    rw [T.kT ha, e]
    simp only [tyN, List.mem_cons, List.not_mem_nil, or_false] at ha
    rcases ha with rfl | rfl | rfl | rfl | rfl | rfl <;> decide
  · exact ⟨_, ty, by rw [T.kTT, e]; rfl⟩
/-- isinstance(x, (list, tuple)) -/
theorem isiLT (T : Tx w K mg) {H G : Hp} {k : Nat} {x : V} {d : Val} (g : Same G H) (h : VAt (CT K) G k x d) : ∃ t, TyX K H x t ∧ PySem.W.kitAny K t [.type "list", .type "tuple"] = some (isT "list" d || isT "tuple" d) := by
  obtain ⟨t, ty, c⟩ := at_ty T g h
  refine ⟨t, ty, ?_⟩
  have k1 : ∀ b ∈ ["list", "tuple"], PySem.W.kitOne K t (.type b) = some (isT b d) := fun b hb => by
    rcases c with ⟨a, ha, rfl, e⟩ | ⟨rfl, e⟩
    · unfold isT
      rw [e]
      exact kits ha (by simp only [List.mem_cons, List.not_mem_nil, or_false] at hb ⊢; rcases hb with rfl | rfl <;> simp)
    · have hb2 : b ∈ tyN := by
        simp only [List.mem_cons, List.not_mem_nil, or_false] at hb
        rcases hb with rfl | rfl <;> decide
      rw [T.kTb hb2]
      unfold isT
      rw [e]
      simp only [List.mem_cons, List.not_mem_nil, or_false] at hb
      rcases hb with rfl | rfl <;> decide
  refine kitAny_cons (k1 "list" (by simp)) (fun z => ?_) (fun z => by rw [z, Bool.true_or])
  refine kitAny_cons (k1 "tuple" (by simp)) (fun z2 => ?_) (fun z2 => by rw [z2, Bool.or_true])
  rw [kitAny_nil, z, z2]
  rfl
def isInt : Val → Bool
  | .int _ => true
  | _ => false
def spIsInt (K : PySem.W.Frag) : Sp := fun vs H Q _ => ∃ x d G k, vs = [x] ∧ Same G H ∧ VAt (CT K) G k x d ∧ Q (.bl (isInt d)) H
theorem ok_is_integer (T : Tx w K mg) : Gd P w K base mg CX0 1 (He.fAd K d_is_integer.at_) ["value"] [] (spIsInt K) := by
  refine mkGd (T.f_is_integer) sc_is_integer (fun vs H Q E h => ?_) (fun _ _ _ _ _ _ us hl => match us, hl with | [_], _ => rfl) (fun cdv A outer s H vs Q E hr h => ?_)
  · obtain ⟨x, d, G, k, rfl, _⟩ := h
    rfl
  · have hu := hu_of hr
    obtain ⟨x, d, G, k, rfl, g, hv, q⟩ := h
    refine ⟨_, (pss_one (ps_ret (pe_and (pe_callB call_isi (by rfl) T.n_isinstance (by decide +kernel) (pa_cons (pv 0) (pa_cons (pe_bltn (v := .ty "int") (u := .type "int") (by rfl) T.n_int (by decide +kernel) rfl) pa_nil))) (pe_one (pe_not (pe_callB call_isi (by rfl) T.n_isinstance (by decide +kernel) (pa_cons (pv 0) (pa_cons (pe_bltn (v := .ty "bool") (u := .type "bool") (by rfl) T.n_bool (by decide +kernel) rfl) pa_nil)))))))), ?_⟩
    obtain ⟨t1, y1, k1⟩ := isi T "int" g hv
    obtain ⟨t2, y2, k2⟩ := isi T "bool" g hv
    refine ⟨_, rfl, x, _, t1, _, _, rfl, .ty _, y1, k1, _, rfl, ?_⟩
    cases d with
    | int i => exact ⟨_, rfl, x, _, t2, _, _, rfl, .ty _, y2, k2, _, rfl, q⟩
    | bl b => exact ⟨_, rfl, x, _, t2, _, _, rfl, .ty _, y2, k2, _, rfl, q⟩
    | seq t l => cases t <;> exact q
    | _ => exact q
/-- a key as a value -/
def keyV : Key → Val
  | .inl i => .int i
  | .inr z => .str z
theorem key_at {C : Addr} {G : Hp} (y : Key) : VAt C G 0 (kV y) (keyV y) := by
  cases y <;> rfl
def spKeyText : Sp := fun vs H Q _ => ∃ y : Key, vs = [kV y] ∧ okK y ∧ Q (.str (keyT y)) H
theorem log_of {i : Int} (h : i.natAbs < 10 ^ 21) : i.natAbs.log2 < 1920 := by
  by_cases z : i.natAbs = 0
  · rw [z]
    decide
  · exact Nat.lt_of_lt_of_le ((Nat.log2_lt z).mpr (Nat.lt_trans h (show 10 ^ 21 < 2 ^ 70 by decide))) (by decide)
theorem ok_key_text (T : Tx w K mg) : Gd P w K base mg CX0 1 (He.fAd K d_key_text.at_) ["key"] [] spKeyText := by
  refine mkGd (T.f_key_text) sc_key_text (fun vs H Q E h => ?_) (fun _ _ _ _ _ _ us hl => match us, hl with | [_], _ => rfl) (fun cdv A outer s H vs Q E hr h => ?_)
  · obtain ⟨y, rfl, _⟩ := h
    rfl
  · have hu := hu_of hr
    obtain ⟨y, rfl, ok, q⟩ := h
    refine ⟨_, (pss_cons (ps_if (pt_val (pe_callB call_isi (by rfl) T.n_isinstance (by decide +kernel) (pa_cons (pv 0) (pa_cons (pe_bltn (v := .ty "str") (u := .type "str") (by rfl) T.n_str (by decide +kernel) rfl) pa_nil)))) (pss_one (ps_ret (pv 0))) pss_nil)
      (pss_one (ps_ret (pe_callTy call_str_int (by rfl) T.n_str (by decide +kernel) (pa_cons (pv 0) pa_nil))))), ?_⟩
    obtain ⟨t1, y1, k1⟩ := isi T "str" (G := H) (Same.refl H) (key_at y)
    refine ⟨_, rfl, kV y, _, t1, _, _, rfl, .ty _, y1, k1, _, rfl, ?_⟩
    cases y with
    | inl i => exact iteF ⟨_, rfl, _, rfl, log_of ok, q⟩
    | inr z => exact iteT ⟨_, rfl, q⟩
end
end Kt
set_option Elab.async false
set_option linter.all false
set_option maxRecDepth 100000
set_option maxHeartbeats 4000000
namespace Kt
open PySem PySem.Spec PyProof.Rows L2 Rz
section
variable {P : Program} {w : World} {K : PySem.W.Frag} {mg : Str → Option Value} {base : Heap}
/-- an error of the class at C stands at a, its dict at dx with the fields fs -/
def ErrAt (H : Hp) (a C dx : Addr) (fs : List (Str × V)) : Prop := H a = some (exo a C (some dx)) ∧ H dx = some (exd dx fs)
def spErr (K : PySem.W.Frag) (ns : List Str) : Sp := fun vs H Q _ => ∃ (a C : Addr) (ys : List V), vs = .ref a :: ys ∧ ys.length = ns.length ∧ H a = some (exo a C none) ∧ OexC K C ∧ (∀ f ∈ ns, PySem.W.findIn K (.ref C) f = some none) ∧
  ∀ dx H', H dx = none → dx ≠ a → ErrAt H' a C dx (ns.zip ys).reverse → (∀ b o, b ≠ a → H b = some o → H' b = some o) → Q .non H'
theorem ok_Unwritable_init (T : Tx w K mg) : Gd P w K base mg CX0 1 (He.fAd K d_Unwritable_init.at_) ["self", "reason", "path"] [] (spErr K ["reason", "path"]) := by
  refine mkGd (T.f_Unwritable_init) sc_Unwritable_init (fun vs H Q E h => ?_) (fun _ _ _ _ _ _ us hl => match us, hl with | [_, _, _], _ => rfl) (fun cdv A outer s H vs Q E hr h => ?_)
  · obtain ⟨a, C, ys, rfl, hl, _⟩ := h
    rw [List.length_cons, hl]
    rfl
  · obtain ⟨a, C, ys, rfl, hl, ha, O, hf, k⟩ := h
    match ys, hl with
    | [y0, y1], _ =>
    refine ⟨_, (pss_cons (ps_ost (pv 0) (pv 1))
      (pss_one (ps_ost (pv 0) (pv 2)))), ?_⟩
    refine ⟨_, rfl, _, rfl, a, C, rfl, O, hf _ (by simp), .inl ⟨ha, fun dx hd hn => ?_⟩⟩
    refine ⟨_, rfl, _, rfl, a, C, rfl, O, hf _ (by simp), .inr ⟨dx, _, upd_same, (by rw [upd_ne hn]; exact upd_same), (by show 1 ≤ 900; decide), ?_⟩⟩
    exact k dx _ hd hn ⟨by rw [upd_ne hn.symm]; exact upd_same, upd_same⟩ fun b o hb e => by rw [upd_ne (ne_of_none e hd), upd_ne hb, upd_ne (ne_of_none e hd)]; exact e
def spFresh (K : PySem.W.Frag) (k : Nat) : Sp := fun vs H Q _ => ∃ x d ps, vs = [x] ∧ Has H ps ∧ VAt (CT K) (cut H ps) k x d ∧ Ok k d ∧ ∀ H' y, Same H H' → VAt (CT K) (cut H' ps) k y d → Q y H'
theorem ok_list {k : Nat} {t : Bool} {l : List Val} (h : Ok (k + 1) (.seq t l)) : l.length ≤ 4 ∧ ∀ x ∈ l, Ok k x := by
  rcases h with h | ⟨t', l', e, h1, h2⟩ | ⟨es, e, _⟩
  · cases h
  · cases e; exact ⟨h1, h2⟩
  · cases e
theorem ok_tab {k : Nat} {es : List (Key × Val)} (h : Ok (k + 1) (.tab es)) : es.length ≤ 4 ∧ (es.map (·.1)).Nodup ∧ ∀ e ∈ es, okK e.1 ∧ Ok k e.2 := by
  rcases h with h | ⟨t', l', e, h1, h2⟩ | ⟨es', e, h1, h2, h3⟩
  · cases h
  · cases e
  · cases e; exact ⟨h1, h2, h3⟩
theorem at_list {C : Addr} {G : Hp} {k : Nat} {t : Bool} {l : List Val} {x : V} (h : VAt C G k x (.seq t l)) : ∃ j a xs, k = j + 1 ∧ x = .ref a ∧ G a = some (sqO t xs) ∧ Paired (VAt C G j) xs l := by
  cases k with
  | zero => cases h
  | succ k =>
    rcases h with h | ⟨t', l', a, xs, e, e2, h1, h2⟩ | ⟨es, p, dx, dd, od, kvs, e, _⟩
    · cases h
    · cases e; exact ⟨k, a, xs, rfl, e2, h1, h2⟩
    · cases e
theorem at_tab {C : Addr} {G : Hp} {k : Nat} {es : List (Key × Val)} {x : V} (h : VAt C G k x (.tab es)) : ∃ j p dx dd od kvs, k = j + 1 ∧ x = .ref p ∧ G p = some (.ins C dx [("held", .ref dd)]) ∧ G dd = some (.frz od (.dK kvs)) ∧ Paired (fun a b => a.1 = b.1 ∧ VAt C G j a.2 b.2) kvs es := by
  cases k with
  | zero => cases h
  | succ k =>
    rcases h with h | ⟨t', l', a, xs, e, _⟩ | ⟨es', p, dx, dd, od, kvs, e, e2, h1, h2, h3⟩
    · cases h
    · cases e
    · cases e; exact ⟨k, p, dx, dd, od, kvs, rfl, e2, h1, h2, h3⟩
theorem Paired.at {α β : Type} {F : α → β → Prop} : ∀ {l : List α} {m : List β} {i : Nat} {a : α}, Paired F l m → l[i]? = some a → ∃ b, m[i]? = some b ∧ F a b
  | _, _, _, _, .nil, h => by simp at h
  | _, _, 0, _, .cons r _, h => by simp at h; subst h; exact ⟨_, rfl, r⟩
  | _, _, i + 1, _, .cons _ t, h => by
    obtain ⟨b, h1, h2⟩ := Paired.at (i := i) t (by simpa using h)
    exact ⟨b, by simpa using h1, h2⟩
theorem Paired.taken {α β : Type} {F : α → β → Prop} : ∀ {l : List α} {m : List β} (n : Nat), Paired F l m → Paired F (l.take n) (m.take n)
  | _, _, 0, _ => .nil
  | _, _, _ + 1, .nil => .nil
  | _, _, n + 1, .cons r t => .cons r (Paired.taken n t)
theorem take_snoc {α : Type} {l : List α} {i : Nat} {a : α} (h : l[i]? = some a) : l.take (i + 1) = l.take i ++ [a] := by
  rw [List.take_add_one, h]
  rfl
theorem lt_of_at {α : Type} {l : List α} {i : Nat} {a : α} (h : l[i]? = some a) : i < l.length := (List.getElem?_eq_some_iff.mp h).1
theorem st_fresh (T : Tx w K mg) (k : Nat) (G_fresh : Gd P w K base mg CX0 k (He.fAd K d_fresh.at_) ["value"] [] (prv (spFresh K) k)) : Gd P w K base mg CX0 (k + 1) (He.fAd K d_fresh.at_) ["value"] [] ((spFresh K) k) := by
  refine mkGd (T.f_fresh) sc_fresh (fun vs H Q E h => ?_) (fun _ _ _ _ _ _ us hl => match us, hl with | [_], _ => rfl) (fun cdv A outer s H vs Q E hr h => ?_)
  · obtain ⟨x, d, ps, rfl, _⟩ := h
    rfl
  · have hu := hu_of hr
    obtain ⟨x, d, ps, rfl, hp, hv, ok, q⟩ := h
    refine ⟨_, (pss_cons (ps_if (pt_val (pe_callB call_isi (by rfl) T.n_isinstance (by decide +kernel) (pa_cons (pv 0) (pa_cons (pe_bltn (v := .ty "list") (u := .type "list") (by rfl) T.n_list (by decide +kernel) rfl) pa_nil)))) (pss_one (ps_ret (pe_lc (own := [("item", 1)]) (g := gName 1) (tt := tYes) rfl sc_fresh.nd (pi_seqB (pv 0)) (blkOk_by (own := [("item", 1)]) (N := N_fresh) (sc := defScope s_fresh) (by decide +kernel)) (fun _ _ _ _ _ => (pg_name (i := 1) sc_fresh.nd rfl (Or.inl rfl))) (fun _ _ _ _ _ => pts_nil) (fun _ _ _ _ _ => (pe_callG G_fresh T.g_fresh (hr.mono (by first | decide | omega)) pass0 (pa_cons (pv 1) pa_nil)))))) pss_nil)
      (pss_cons (ps_if (pt_val (pe_callB call_isi (by rfl) T.n_isinstance (by decide +kernel) (pa_cons (pv 0) (pa_cons (pe_bltn (v := .ty "tuple") (u := .type "tuple") (by rfl) T.n_tuple (by decide +kernel) rfl) pa_nil)))) (pss_one (ps_ret (pe_callTy call_tuple_of (by rfl) T.n_tuple (by decide +kernel) (pa_cons (pe_lc (own := [("item", 1)]) (g := gName 1) (tt := tYes) rfl sc_fresh.nd (pi_seqB (pv 0)) (blkOk_by (own := [("item", 1)]) (N := N_fresh) (sc := defScope s_fresh) (by decide +kernel)) (fun _ _ _ _ _ => (pg_name (i := 1) sc_fresh.nd rfl (Or.inl rfl))) (fun _ _ _ _ _ => pts_nil) (fun _ _ _ _ _ => (pe_callG G_fresh T.g_fresh (hr.mono (by first | decide | omega)) pass0 (pa_cons (pv 1) pa_nil)))) pa_nil)))) pss_nil)
      (pss_one (ps_ret (pv 0))))), ?_⟩
    obtain ⟨t1, y1, k1⟩ := isi T "list" cut_le hv
    obtain ⟨t2, y2, k2⟩ := isi T "tuple" cut_le hv
    refine ⟨_, rfl, x, _, t1, _, _, rfl, .ty _, y1, k1, _, rfl, ?_⟩
    have loop : ∀ {j : Nat} {b : Bool} {a D : Addr} {xs : List V} {l : List Val} {Qd : Hp → Prop} (hk : k = j + 1), SqB K b H a xs → Paired (VAt (CT K) (cut H ps) j) xs l → (∀ e ∈ l, Ok j e) → l.length ≤ 4 → H D = none →
        (∀ H' ys, Same H H' → H' D = some (.lst ys) → Paired (VAt (CT K) (cut H' (D :: ps)) j) ys l → Qd H') →
        ∃ W : Nat → Nat → Hp → Prop, (∃ m, W 0 m (upd H D (.lst []))) ∧ ∀ i m H, W i m H → ((ItB K b a).stop i H ∧ Qd H) ∨ ((ItB K b a).go i H ∧ ∃ Nx : Hp → Prop, (∀ H', Nx H' → ∃ m', m' < m ∧ W (i + 1) m' H') ∧ ∀ x' H', (ItB K b a).yld i H x' H' →
          gName 1 x' (wipe (start N_fresh [x]) [1]) H' fun σ2 H2 => wipe σ2 [1] = wipe (start N_fresh [x]) [1] ∧ tYes σ2 H2 fun c H3 => if c = true then tCall (prv (spFresh K) k) [] (fun _ _ _ => False) (tCons (tVar 1) tNil) σ2 H3 fun y H4 => ∃ acc, H4 D = some (.lst acc) ∧ acc.length < sizeLine ∧ Nx (upd H4 D (.lst (acc ++ [y]))) else Nx H3) := by
      intro j b a D xs l Qd hk hq hx hok h4 hD fin
      subst hk
      have hl := Paired.length hx
      refine lc_seqB (xs := xs) (fun i H' => Same H H' ∧ ∃ ys, H' D = some (.lst ys) ∧ ys.length ≤ 4 ∧ Paired (VAt (CT K) (cut H' (D :: ps)) j) ys (l.take i)) ⟨Same.nu hD, [], upd_same, Nat.zero_le _, by rw [List.take_zero]; exact .nil⟩ (fun i H' _ h => ?_) ?_ ?_
      · exact sqB_same h.1 hq
      · rintro i y H' hy ⟨s1, ys, hd, hy4, hp1⟩
        obtain ⟨e, he, hv1⟩ := Paired.at hx hy
        have hps : Has H' (D :: ps) := fun c hc => by
          rcases List.mem_cons.mp hc with z | z
          · rw [z, hd]; simp
          · exact hp.sx s1 c z
        refine ⟨rfl, _, rfl, y, e, D :: ps, rfl, hps, VAt.same (cut_add hD s1) hv1, hok e (List.mem_of_getElem? he), fun H2 z s2 hz => ⟨ys, s2 _ _ hd, small1000 (by omega), Same.mk'' (s1.trans s2) hD, ys ++ [z], upd_same, ?_, ?_⟩⟩
        · have q1 := Paired.length hp1
          rw [List.length_take] at q1
          have := lt_of_at hy
          rw [List.length_append, List.length_singleton]
          omega
        · rw [cut_cons, take_snoc he]
          exact Paired.snoc (Paired.mapP hp1 fun _ _ q => VAt.same (cut_sx (Sx.of s2)) q) hz
      · rintro H' ⟨s1, ys, hd, _, hp1⟩
        rw [List.take_of_length_le (by omega)] at hp1
        exact fin H' ys s1 hd hp1
    have leaf : (∀ t l, d ≠ .seq t l) → Q x H := fun no => q H x (Same.refl H) hv
    cases d with
    | seq t l =>
      obtain ⟨j, a, xs, rfl, rfl, ha, hx⟩ := at_list hv
      obtain ⟨h4, hok⟩ := ok_list ok
      have hS := sqB_of (K := K) (cut_le _ _ ha)
      cases t with
      | true =>
        refine iteT ⟨_, rfl, true, a, xs, rfl, hS, fun D hD => loop rfl hS hx hok h4 hD fun H' ys s1 hd hp1 => ?_⟩
        have nD := hp.new hD
        exact q H' (.ref D) s1 (.inr (.inl ⟨true, l, D, ys, rfl, rfl, cut_at nD hd, Paired.mapP hp1 fun _ _ q => VAt.same (cut_mono fun b hb => List.mem_cons_of_mem _ hb) q⟩))
      | false =>
        refine iteF ⟨_, rfl, _, _, t2, _, _, rfl, .ty _, y2, k2, _, rfl, iteT ?_⟩
        refine ⟨_, rfl, false, a, xs, rfl, hS, fun D hD => loop rfl hS hx hok h4 hD fun H' ys s1 hd hp1 => ?_⟩
        refine ⟨D, ys, rfl, .inl ⟨SqL.of hd, fun p hp' => ?_⟩⟩
        have np : p ∉ ps := fun z => (hp.sx s1) p z hp'
        exact q _ (.ref p) (Same.mk' s1 hp') (.inr (.inl ⟨false, l, p, ys, rfl, rfl, cut_at np upd_same, Paired.mapP hp1 fun _ _ q => VAt.same (fun b o hb => Same.nu (o := .tup ys) hp' |> fun z => cut_at (fun y => by
          have := cut_mono (ps := D :: ps) (qs := ps) (fun b hb => List.mem_cons_of_mem _ hb) b o hb
          unfold cut at this
          rw [if_pos y] at this
          cases this) (z b o (cut_le b o hb))) q⟩))
    | _ => exact iteF ⟨_, rfl, x, _, t2, _, _, rfl, .ty _, y2, k2, _, rfl, iteF ⟨_, rfl, leaf (fun _ _ z => nomatch z)⟩⟩
theorem ok_fresh (T : Tx w K mg) : ∀ k, Gd P w K base mg CX0 (k + 1) (He.fAd K d_fresh.at_) ["value"] [] ((spFresh K) k) := fun k => recGd (fun k => k) (fun l => mkGdF (T.f_fresh) sc_fresh (fun _ _ _ _ _ _ us hl => match us, hl with | [_], _ => rfl) l) (fun k G => st_fresh T k G) (by intro _; first | rfl | omega) k
end
end Kt
set_option Elab.async false
set_option linter.all false
set_option maxRecDepth 100000
set_option maxHeartbeats 4000000
namespace Kt
open PySem PySem.Spec PyProof.Rows L2 Rz
section
variable {P : Program} {w : World} {K : PySem.W.Frag} {mg : Str → Option Value} {base : Heap}
/-- an entry of a list of pairs -/
def EntAt (K : PySem.W.Frag) (H : Hp) (ps : List Addr) (k : Nat) (t : V) (e : Key × Val) : Prop := ∃ b y, t = .ref b ∧ H b = some (.tup [kV e.1, y]) ∧ VAt (CT K) (cut H ps) k y e.2
def okE (k : Nat) (es : List (Key × Val)) : Prop := es.length ≤ 4 ∧ (es.map (·.1)).Nodup ∧ ∀ e ∈ es, okK e.1 ∧ Ok k e.2
def spTable (K : PySem.W.Frag) (k : Nat) : Sp := fun vs H Q _ => ∃ p a dx ts es ps, vs = [.ref p, .ref a] ∧ H p = some (.ins (CT K) dx []) ∧ SqL K H a ts ∧ Has H ps ∧ p ∉ ps ∧ Paired (EntAt K H (p :: ps) k) ts es ∧ okE k es ∧
  ∀ H', (∀ b o, b ≠ p → H b = some o → H' b = some o) → VAt (CT K) (cut H' ps) (k + 1) (.ref p) (.tab es) → Q .non H'
theorem valV_out {kvs : List (Key × V)} {y : Key} (h : y ∉ kvs.map (·.1)) : valV kvs y = none := by
  induction kvs with
  | nil => rfl
  | cons a r ih =>
    rw [List.map_cons, List.mem_cons, not_or] at h
    rw [valV_neg fun z => h.1 z.symm]
    exact ih h.2
theorem nd_at {es : List (Key × Val)} {i : Nat} {e : Key × Val} (h : (es.map (·.1)).Nodup) (he : es[i]? = some e) : e.1 ∉ (es.take i).map (·.1) := fun z => by
  obtain ⟨j, hj⟩ := List.mem_iff_getElem?.mp z
  rw [List.getElem?_map, List.getElem?_take] at hj
  by_cases hji : j < i
  · rw [if_pos hji] at hj
    have h1 := lt_of_at he
    have e1 : es[j]? = some es[j] := List.getElem?_eq_getElem (by omega)
    rw [e1] at hj
    have e2 : es[i] = e := by
      have := List.getElem?_eq_getElem h1
      rw [this] at he
      exact Option.some.inj he
    have e3 : (es[j]'(by omega)).1 = e.1 := by simpa using hj
    have := List.pairwise_iff_getElem.mp h j i (by simp; omega) (by simpa using h1) hji
    simp [e2, e3] at this
  · rw [if_neg hji] at hj
    simp at hj
theorem paired_keys {R : (Key × V) → (Key × Val) → Prop} (hR : ∀ a b, R a b → a.1 = b.1) : ∀ {kvs : List (Key × V)} {es : List (Key × Val)}, Paired R kvs es → kvs.map (·.1) = es.map (·.1)
  | _, _, .nil => rfl
  | _, _, .cons r t => by rw [List.map_cons, List.map_cons, hR _ _ r, paired_keys hR t]
theorem okE_take {k : Nat} {es : List (Key × Val)} (h : okE k es) : es.length ≤ 4 := h.1
theorem ok_Table_init (T : Tx w K mg) (k : Nat) : Gd P w K base mg CX0 (k + 2) (He.fAd K d_Table_init.at_) ["self", "entries"] [] (spTable K k) := by
  have G_is_integer := ok_is_integer (P := P) (w := w) (base := base) T
  have G_fresh := ok_fresh (P := P) (w := w) (base := base) T k
  refine mkGdD (T.f_Table_init) sc_Table_init (fun vs H Q E h => ?_) (fun fd F => ?_) (fun cdv A outer s H vs Q E hr h => ?_)
  · obtain ⟨p, a, dx, ts, es, ps, rfl, _⟩ := h
    rfl
  · obtain ⟨ds, h1, h2⟩ := FunD.binds1 (ps := ["self", "entries"]) F 2 1 (by intro z; cases z) rfl fun T kV doc pm an cdv ct us its h1 h2 => match us, h1 with
      | [_, _], _ => match its, h2 with
        | [_], _ => ⟨_, rfl, rfl⟩
    cases ds with
    | nil => exact h2
    | cons d r => cases h1
  · have hu := hu_of hr
    obtain ⟨p, a, dx, ts, es, ps, rfl, hp, hS, hps, np, hE, okes, q⟩ := h
    obtain ⟨h4, hnd, hok⟩ := okes
    have hlen := Paired.length hE
    refine ⟨_, (pss_cons (ps_set (i := 2) sc_Table_init.nd rfl (Or.inl rfl) pe_dnewK)
      (pss_cons (ps_for PassesOwn.never rfl (pi_list (pv 1)) (pg_tup rfl (pgs_cons (pg_name (i := 3) sc_Table_init.nd rfl (Or.inl rfl)) (pgs_cons (pg_name (i := 4) sc_Table_init.nd rfl (Or.inl rfl)) pgs_nil)))
      (pss_cons (ps_if (PW.pt (pw_and (pt_not (pt_val (pe_callG G_is_integer T.g_is_integer (hr.mono (by first | decide | omega)) pass0 (pa_cons (pv 3) pa_nil)))) (pw_and1 (pt_not (pt_val (pe_callB call_isi (by rfl) T.n_isinstance (by decide +kernel) (pa_cons (pv 3) (pa_cons (pe_bltn (v := .ty "str") (u := .type "str") (by rfl) T.n_str (by decide +kernel) rfl) pa_nil)))))))) (pss_one ps_never) pss_nil)
      (pss_cons (ps_if (pt_cmp (pc_din hu (pv 3) (pv 2))) (pss_one ps_never) pss_nil)
      (pss_one (ps_dput hu (pv 2) (pv 3) (pe_callG G_fresh T.g_fresh (hr.mono (by first | decide | omega)) pass0 (pa_cons (pv 4) pa_nil)) rfl)))))
      (pss_one (ps_frz (ps_fld (pv 0) (pv 2) rfl))))), ?_⟩
    refine fun d hd => ⟨_, rfl, a, rfl, ⟨_, Same.seq (Same.nu hd) hS⟩, for_list (xs := ts)
      (fun i σ H' => (∃ u v, σ = [some (.ref p), some (.ref a), some (.ref d), u, v]) ∧ Same H H' ∧ ∃ kvs, H' d = some (.dK kvs) ∧ Paired (fun x e => x.1 = e.1 ∧ VAt (CT K) (cut H' (d :: p :: ps)) k x.2 e.2) kvs (es.take i)) ?_ ?_ ?_ ?_⟩
    · exact ⟨⟨_, _, rfl⟩, Same.nu hd, [], upd_same, by rw [List.take_zero]; exact .nil⟩
    · rintro i σ H' _ ⟨_, s1, _⟩
      exact Same.seq s1 hS
    · rintro i t σ H' ht ⟨⟨u, v, rfl⟩, s1, kvs, hkv, hpr⟩
      obtain ⟨e, he, b, y, rfl, hb, hy⟩ := Paired.at hE ht
      obtain ⟨ok1, ok2⟩ := hok e (List.mem_of_getElem? he)
      have hkeys := paired_keys (fun _ _ z => z.1) hpr
      have hpps : Has H (p :: ps) := fun c hc => by
        rcases List.mem_cons.mp hc with z | z
        · rw [z, hp]; simp
        · exact hps c z
      have hout : valV kvs e.1 = none := valV_out (by rw [hkeys]; exact nd_at hnd he)
      refine ⟨b, _, rfl, SqT.of (s1 _ _ hb), rfl, _, _, rfl, _, _, rfl, rfl, ?_⟩
      obtain ⟨t2, y2, k2⟩ := isi T "str" (H := H') (G := H') (Same.refl H') (key_at e.1)
      refine ⟨_, rfl, _, _, H', 0, rfl, Same.refl H', key_at e.1, _, rfl, ?_⟩
      have tail : sDPut (tVar 2) (tVar 3) (tCall (spFresh K k) [] (fun _ _ _ => False) (tCons (tVar 4) tNil)) { nx := fun σ H' => (∃ u v, σ = [some (.ref p), some (.ref a), some (.ref d), u, v]) ∧ Same H H' ∧ ∃ kvs, H' d = some (.dK kvs) ∧ Paired (fun x e => x.1 = e.1 ∧ VAt (CT K) (cut H' (d :: p :: ps)) k x.2 e.2) kvs (es.take (i + 1)), rt := fun _ _ => False } [some (.ref p), some (.ref a), some (.ref d), some (kV e.1), some y] H' := by
        have hps' : Has H' (d :: p :: ps) := fun c hc => by
          rcases List.mem_cons.mp hc with z | z
          · rw [z, hkv]; simp
          · exact hpps.sx s1 c z
        refine ⟨_, rfl, y, e.2, d :: p :: ps, rfl, hps', VAt.same (cut_add hd s1) hy, ok2, fun H2 z s2 hz => ⟨_, rfl, _, rfl, d, _, rfl, DPut.k (s2 _ _ hkv) (small1000 (by have := Paired.length hpr; rw [List.length_take] at this; omega)), ⟨_, _, rfl⟩, Same.mk'' (s1.trans s2) hd, _, upd_same, ?_⟩⟩
        rw [putK_new _ hout, take_snoc he, cut_cons]
        exact Paired.snoc (Paired.mapP hpr fun x e w => ⟨w.1, VAt.same (cut_sx (Sx.of s2)) w.2⟩) ⟨rfl, hz⟩
      obtain ⟨ek, ev⟩ := e
      cases ek with
      | inl n =>
        refine iteF ⟨_, rfl, _, rfl, d, _, rfl, DGet.k (k := Sum.inl n) hkv, _, rfl, ?_⟩
        rw [hout]
        exact iteF tail
      | inr z =>
        refine iteT ⟨_, rfl, _, _, t2, _, _, rfl, .ty _, y2, k2, _, rfl, iteF ⟨_, rfl, _, rfl, d, _, rfl, DGet.k (k := Sum.inr z) hkv, _, rfl, ?_⟩⟩
        rw [hout]
        exact iteF tail
    · rintro σ H' ⟨⟨u, v, rfl⟩, s1, kvs, hkv, hpr⟩
      rw [List.take_of_length_le (by omega)] at hpr
      have hp' := s1 _ _ hp
      have npd : p ≠ d := ne_of_none hp hd
      have nd : d ∉ ps := hps.new hd
      refine ⟨_, rfl, _, rfl, p, _, _, _, rfl, hp', T.cl_Table, T.a_Table_held, (by show 0 < 1000; decide), d, .dK kvs, by rw [upd_ne npd.symm]; exact hkv, True.intro, fun od => ?_⟩
      refine q _ (fun b o nb hb => ?_) (.inr (.inr ⟨es, p, dx, d, od, kvs, rfl, rfl, cut_at np (by rw [upd_ne npd]; exact upd_same), cut_at nd upd_same, Paired.mapP hpr fun x e z => ⟨z.1, VAt.same (fun b o hb => ?_) z.2⟩⟩))
      · rw [upd_ne (ne_of_none hb hd), upd_ne nb]
        exact s1 b o hb
      · have hb1 := cut_le b o hb
        have nb : b ∉ d :: p :: ps := fun z => by
          unfold cut at hb
          rw [if_pos z] at hb
          cases hb
        simp only [List.mem_cons, not_or] at nb
        exact cut_at nb.2.2 (by rw [upd_ne nb.1, upd_ne nb.2.1]; exact hb1)
def spEntries (K : PySem.W.Frag) (k : Nat) : Sp := fun vs H Q _ => ∃ x es ps, vs = [x] ∧ Has H ps ∧ VAt (CT K) (cut H ps) (k + 1) x (.tab es) ∧ okE k es ∧
  ∀ H' l ts, Same H H' → H l = none → H' l = some (.lst ts) → Paired (EntAt K H' (l :: ps) k) ts es → Q (.ref l) H'
theorem ent_same {K : PySem.W.Frag} {H H' : Hp} {ps qs : List Addr} {k : Nat} {t : V} {e : Key × Val} (s : Same H H') (c : Same (cut H ps) (cut H' qs)) (h : EntAt K H ps k t e) : EntAt K H' qs k t e := by
  obtain ⟨b, y, e1, h1, h2⟩ := h
  exact ⟨b, y, e1, s _ _ h1, VAt.same c h2⟩
theorem cut_put {H : Hp} {ps : List Addr} {q : Addr} {o : HO} (hq : H q = none) : Same (cut H ps) (cut (upd H q o) ps) := cut_sx (Sx.of (Same.nu hq))
theorem ok_Table_entries (T : Tx w K mg) (k : Nat) : Gd P w K base mg CX0 (k + 2) (He.fAd K d_Table_entries.at_) ["self"] [] (spEntries K k) := by
  have G_fresh := ok_fresh (P := P) (w := w) (base := base) T k
  refine mkGd (T.f_Table_entries) sc_Table_entries (fun vs H Q E h => ?_) (fun _ _ _ _ _ _ us hl => match us, hl with | [_], _ => rfl) (fun cdv A outer s H vs Q E hr h => ?_)
  · obtain ⟨x, es, ps, rfl, _⟩ := h
    rfl
  · have hu := hu_of hr
    obtain ⟨x, es, ps, rfl, hps, hv, okes, q⟩ := h
    obtain ⟨h4, hnd, hok⟩ := okes
    obtain ⟨j, p, dx, d, od, kvs, ej, rfl, hp, hd, hpr⟩ := at_tab hv
    cases ej
    have hp := cut_le _ _ hp
    have hd' := cut_le _ _ hd
    have hlen := Paired.length hpr
    refine ⟨_, (pss_one (ps_ret (pe_lc (own := [("key", 1), ("item", 2)]) (g := gTup K 2 (gCons (gName 1) (gCons (gName 2) gNil))) (tt := tYes) rfl sc_Table_entries.nd (pi_items (pe_fld (pv 0) rfl)) (blkOk_by (own := [("key", 1), ("item", 2)]) (N := N_Table_entries) (sc := defScope s_Table_entries) (by decide +kernel)) (fun _ _ _ _ _ => (pg_tup rfl (pgs_cons (pg_name (i := 1) sc_Table_entries.nd rfl (Or.inl rfl)) (pgs_cons (pg_name (i := 2) sc_Table_entries.nd rfl (Or.inl rfl)) pgs_nil)))) (fun _ _ _ _ _ => pts_nil) (fun _ _ _ _ _ => (pe_tup (pa_cons (pv 1) (pa_cons (pe_callG G_fresh T.g_fresh (hr.mono (by first | decide | omega)) pass0 (pa_cons (pv 2) pa_nil)) pa_nil))))))), ?_⟩
    refine ⟨_, rfl, p, _, _, _, _, rfl, hp, T.cl_Table, T.a_Table_held, rfl, d, od, kvs, rfl, hd', fun D hD => lc_it walk_items
      (fun i H' => Same H H' ∧ ∃ ts, H' D = some (.lst ts) ∧ Paired (EntAt K H' (D :: ps) k) ts (es.take i)) ?_ ?_ ?_ ?_⟩
    · exact ⟨Same.nu hD, [], upd_same, by rw [List.take_zero]; exact .nil⟩
    · rintro i H' _ ⟨s1, _⟩
      exact s1 _ _ hd'
    · rintro i x H1 H2 hi ⟨s1, ts, hts, hpt⟩ ⟨t, x1, x2, rfl, ht, rfl, e1, e2⟩
      dsimp only at e1 e2
      cases ekv : kvs[i]? with
      | none => rw [ekv] at e1; cases e1
      | some kv =>
      rw [ekv] at e1 e2
      cases e1
      cases e2
      obtain ⟨e, he, hk, hy⟩ := Paired.at hpr ekv
      have hDp : Has (upd H1 t (.tup [kV kv.1, kv.2])) (D :: ps) := fun c hc => by
        rcases List.mem_cons.mp hc with z | z
        · rw [z, Same.nu ht _ _ hts]; simp
        · exact hps.sx (s1.trans (Same.nu ht)) c z
      refine ⟨t, _, rfl, SqT.of upd_same, rfl, _, _, rfl, _, _, rfl, rfl, rfl, _, rfl, _, rfl, _, e.2, D :: ps, rfl, hDp, ?_, (hok e (List.mem_of_getElem? he)).2, fun H2 y s2 hy2 => ⟨(by show 2 ≤ sizeLine; decide), fun q2 hq2 => ?_⟩⟩
      · exact VAt.same (fun b o hb => (cut_put ht) b o ((cut_add hD s1) b o hb)) hy
      have sAll : Same H1 H2 := (Same.nu ht).trans s2
      have nq : D ≠ q2 := ne_of_none (sAll _ _ hts) hq2
      refine ⟨ts, (Same.nu hq2) _ _ (sAll _ _ hts), small1000 (by have := Paired.length hpt; rw [List.length_take] at this; omega), Same.mk'' ((s1.trans sAll).trans (Same.nu hq2)) hD, _, upd_same, ?_⟩
      have cc : Same (cut H1 (D :: ps)) (cut (upd (upd H2 q2 (.tup [kV kv.1, y])) D (.lst (ts ++ [.ref q2]))) (D :: ps)) := by
        rw [cut_cons]
        exact fun b o hb => cut_put hq2 b o (cut_sx (Sx.of sAll) b o hb)
      have ss : ∀ b o, b ≠ D → H1 b = some o → (upd (upd H2 q2 (.tup [kV kv.1, y])) D (.lst (ts ++ [.ref q2]))) b = some o := fun b o n hb => by
        rw [upd_ne n]
        exact (Same.nu hq2) _ _ (sAll _ _ hb)
      rw [take_snoc he]
      refine Paired.snoc (Paired.mapP hpt fun t e hh => ?_) ?_
      · obtain ⟨b, y0, e1, h1, h2⟩ := hh
        exact ⟨b, y0, e1, ss b _ (ne_of h1 hts (by intro z; cases z)) h1, VAt.same cc h2⟩
      · refine ⟨q2, y, rfl, ?_, ?_⟩
        · rw [upd_ne nq.symm, upd_same]
          show some (HO.tup [kV kv.1, y]) = _
          rw [hk]
        · rw [cut_cons]
          exact VAt.same (cut_put hq2) hy2
    · rintro H' ⟨s1, ts, hts, hpt⟩
      rw [List.take_of_length_le (by omega)] at hpt
      exact q H' D ts s1 hD hts hpt
end
end Kt
set_option Elab.async false
set_option linter.all false
set_option maxRecDepth 100000
set_option maxHeartbeats 4000000
namespace Kt
open PySem PySem.Spec PyProof.Rows L2 Rz
section
variable {P : Program} {w : World} {K : PySem.W.Frag} {mg : Str → Option Value} {base : Heap}
/-- the class of the writers; the code object of kept_entries and its table; the lambda's name -/
abbrev CW (K : PySem.W.Frag) : Addr := He.ga K "Writer"
abbrev keD : He.Defn := ("Writer", some "kept_entries")
abbrev keT (K : PySem.W.Frag) : Addr := (He.cT K keD).2
def lamQ : Str := d_Writer_kept_entries.qual ++ ".<locals>." ++ "<lambda>"
abbrev TT (K : PySem.W.Frag) : List (Addr × Str) := [(keT K, lamQ)]
def optF (o : Opt) : List (Str × V) := [("number_keys", .str o.nk), ("tuples", .str o.tp), ("nulls", .str o.nl), ("double_keys", .str o.dk), ("order", .str o.od), ("long_numbers", .str o.ln)]
def WAt (K : PySem.W.Frag) (H : Hp) (p : Addr) (o : Opt) : Prop := ∃ dx, H p = some (.ins (CW K) dx (optF o))
/-- what is known of the heap is kept but for the tables of code; those are well -/
def Xt (K : PySem.W.Frag) (H H' : Hp) : Prop := LamX.ExtN H H' ∧ LamX.Tabs (TT K) H'
theorem Xt.of {K : PySem.W.Frag} {H H1 H' : Hp} (a : Xt K H H1) (s : Same H1 H') : Xt K H H' := ⟨a.1.trans (LamX.ExtN.of s), a.2.ext s⟩
theorem Xt.trans {K : PySem.W.Frag} {H H1 H' : Hp} (a : Xt K H H1) (b : Xt K H1 H') : Xt K H H' := ⟨a.1.trans b.1, b.2⟩
theorem Xt.same {K : PySem.W.Frag} {H H' : Hp} (t : LamX.Tabs (TT K) H) (s : Same H H') : Xt K H H' := ⟨LamX.ExtN.of s, t.ext s⟩
theorem WAt.x {K : PySem.W.Frag} {H H' : Hp} {p : Addr} {o : Opt} (h : WAt K H p o) (x : LamX.ExtN H H') : WAt K H' p o := let ⟨dx, e⟩ := h; ⟨dx, x _ _ e fun _ z => nomatch z⟩
theorem VAt.x {C : Addr} {H H' : Hp} (s : LamX.ExtN H H') : ∀ {k : Nat} {v : V} {d : Val}, VAt C H k v d → VAt C H' k v d
  | 0, _, _, h => h
  | k + 1, _, _, h => by
    rcases h with h | ⟨t, l, a, xs, e1, e2, h1, h2⟩ | ⟨es, p, dx, dd, od, kvs, e1, e2, h1, h2, h3⟩
    · exact .inl h
    · exact .inr (.inl ⟨t, l, a, xs, e1, e2, s _ _ h1 (fun ps z => by cases t <;> cases z), Paired.mapP h2 fun _ _ q => VAt.x s q⟩)
    · exact .inr (.inr ⟨es, p, dx, dd, od, kvs, e1, e2, s _ _ h1 (fun _ z => nomatch z), s _ _ h2 (fun _ z => nomatch z), Paired.mapP h3 fun _ _ q => ⟨q.1, VAt.x s q.2⟩⟩)
theorem sqT_x {K : PySem.W.Frag} {H H' : Hp} {a : Addr} {xs : List V} (s : LamX.ExtN H H') (h : SqT K H a xs) : SqT K H' a xs :=
  h.imp_left fun r => r.elim (fun z => .inl (s _ _ z fun _ y => nomatch y)) fun ⟨o, z⟩ => .inr ⟨o, s _ _ z fun _ y => nomatch y⟩
/-- a def that may let an error out, its code object told -/
theorem mkGdXC {x qual : Str} {params : Arguments} {body : List Stmt} {scope : Scope} {at_ : He.Defn} {N ps : List Str} {k : Nat} {sp : Sp} (F : ∃ fd, FunD K x qual params body scope [] [] (He.fAd K at_) fd) (S : FnScope N ps scope) (len : ∀ vs H Q E, sp vs H Q E → vs.length = ps.length)
    (hb : ∀ (kV doc pm : Value) (an : Option Addr) (cdv ct : Value) (us : List Value), us.length = ps.length → bindArgs (PySem.W.fnOf x qual params body scope .none kV doc pm an cdv ct) ⟨us, []⟩ = pure (ps.zip us))
    (hbody : ∀ (c : Addr), c = He.codeOf K at_ → ∀ (A : Around) (outer : List Env) (s : Shared) (H : Hp) (vs : List V) (Q : VK) (E : XK), Room k (A.deeper (envOfC qual scope s.heap.objs.size (He.fAd K at_) (.ref c))) → sp vs H Q E →
      ∃ t, PSs (cxOf (CX P w) P w K mg base N qual scope (He.fAd K at_) (.ref c) A outer s H E) body t ∧ t { nx := fun _ H' => Q .non H', rt := Q } (start N vs) H) :
    Gd P w K base mg (CX P w) (k + 1) (He.fAd K at_) ps [] sp := by
  obtain ⟨fd, F⟩ := F
  obtain ⟨oc, od, dV, kV, doc, pm, an, cdv, ct, osl, e, lk, hcd, _, _⟩ := F.ex
  subst e
  obtain ⟨c, rfl⟩ := He.codeIn_ref hcd
  refine ⟨⟨_, [], fn_of lk hcd S len fun A outer s H vs Q E hr hsp => hbody c (He.codeOf_eq lk rfl).symm A outer s H vs Q E hr hsp, .nil, F.bindsN hb⟩, F.kp⟩
/-- raising: the heap behind it -/
theorem rais_end {H H2 : Hp} {a D d : Addr} {fs : List (Str × V)} (ha : H a = none) (hd : (upd H a (exo a D none)) d = none) (hk : ∀ b o, b ≠ a → (upd H a (exo a D none)) b = some o → H2 b = some o) :
    H d = none ∧ Same H (upd (del H2 a) d (.xd fs)) := by
  have e : d ≠ a := fun z => by
    rw [z, upd_same] at hd
    cases hd
  have hd' : H d = none := by
    rw [upd_ne e] at hd
    exact hd
  refine ⟨hd', fun b o q => ?_⟩
  have nb : b ≠ a := ne_of_none q ha
  rw [upd_ne (ne_of_none q hd'), del_ne nb]
  exact hk b o nb (by rw [upd_ne nb]; exact q)
/-- raise Unwritable(r, path) -/
theorem rais_U (T : Tx w K mg) {H : Hp} {r pth : V} {E : XK} (k : ∀ d H', Same H H' → E (.ref (He.ga K "Unwritable")) (some d) H') :
    [r, pth].length ≤ 1000 ∧ ∀ a, H a = none → spErr K ["reason", "path"] (.ref a :: ([r, pth] ++ [])) (upd H a (exo a (He.ga K "Unwritable") none))
      (fun v H2 => v = .non ∧ ∃ (d : Addr) (fs : List (Str × V)), H2 a = some (exo a (He.ga K "Unwritable") (some d)) ∧ H2 d = some (exd d fs) ∧ H d = none ∧ E (.ref (He.ga K "Unwritable")) (some d) (upd (del H2 a) d (.xd fs))) (fun _ _ _ => False) := by
  refine ⟨(by show 2 ≤ 1000; decide), fun x hx => ⟨x, _, _, rfl, rfl, upd_same, T.ex'.o, ?_, fun dx H1 hdx _ he hk => ⟨rfl, dx, _, he.1, he.2, (rais_end (fs := []) hx hdx hk).1, k dx _ (rais_end hx hdx hk).2⟩⟩⟩
  intro f hf
  simp only [List.mem_cons, List.not_mem_nil, or_false] at hf
  rcases hf with rfl | rfl
  · exact T.a_Unwritable_reason
  · exact T.a_Unwritable_path
/-- the wish of a def that refuses -/
def Ref (K : PySem.W.Frag) (H : Hp) (E : XK) : Prop := ∀ d H', Xt K H H' → E (.ref (He.ga K "Unwritable")) (some d) H'
def EntB (K : PySem.W.Frag) (H : Hp) (k : Nat) (t : V) (e : Key × Val) : Prop := ∃ b y, t = .ref b ∧ H b = some (.tup [kV e.1, y]) ∧ VAt (CT K) H k y e.2
/-- an entry in a tuple of H', its item as it stood at H -/
def EntC (K : PySem.W.Frag) (H H' : Hp) (k : Nat) (t : V) (e : Key × Val) : Prop := ∃ b y, t = .ref b ∧ H' b = some (.tup [kV e.1, y]) ∧ VAt (CT K) H k y e.2
def spKept (K : PySem.W.Frag) (k : Nat) : Sp := fun vs H Q E => ∃ (p : Addr) (x : V) (pth : Addr) (xs : List V) (o : Opt) (es : List (Key × Val)) (G : Hp), vs = [.ref p, x, .ref pth] ∧ WAt K H p o ∧ LamX.ExtN G H ∧ VAt (CT K) G (k + 1) x (.tab es) ∧ okE k es ∧
  SqT K H pth xs ∧ xs.length ≤ 100 ∧ LamX.Tabs (TT K) H ∧ (bad o es = true → Ref K H E) ∧ (bad o es = false → ∀ H' l ts, Xt K H H' → (∀ b u, H b = some u → (∀ q, u ≠ .tbl q) → l ≠ b) → H' l = some (.lst ts) → Paired (EntC K G H' k) ts (ordE o (kept o es)) → Q (.ref l) H')
theorem at_non {C : Addr} {G : Hp} {k : Nat} {x : V} {d : Val} (h : VAt C G k x d) : decide (x = .non) = isN d := by
  have fl : Rz.flat d = some x → decide (x = .non) = isN d := fun e => by cases d <;> cases e <;> rfl
  cases k with
  | zero => exact fl h
  | succ k =>
    rcases h with h | ⟨t, l, a, xs, rfl, rfl, _⟩ | ⟨es, p, dx, dd, od, kvs, rfl, rfl, _⟩
    · exact fl h
    · rfl
    · rfl
/-- the key that the lambda gives -/
def keyOf (H : Hp) : V → Str
  | .ref b => (match H b with
    | some (.tup (.int i :: _)) => istr i
    | some (.tup (.str z :: _)) => z
    | _ => "")
  | _ => ""
theorem keyOf_at {H : Hp} {b : Addr} {e : Key} {y : V} (h : H b = some (.tup [kV e, y])) : keyOf H (.ref b) = keyT e := by
  show (match H b with
    | some (.tup (.int i :: _)) => istr i
    | some (.tup (.str z :: _)) => z
    | _ => "") = _
  rw [h]
  cases e <;> rfl
theorem paired_each {α β : Type} {R : α → β → Prop} : ∀ {l : List α} {m : List β}, Paired R l m → PySem.W.EachIs R l m
  | _, _, .nil => .nil
  | _, _, .cons h t => .cons h (paired_each t)
theorem each_paired {α β : Type} {R : α → β → Prop} : ∀ {l : List α} {m : List β}, PySem.W.EachIs R l m → Paired R l m
  | _, _, .nil => .nil
  | _, _, .cons h t => .cons h (each_paired t)
theorem sorted_paired {H : Hp} {R : V → Key × Val → Prop} {ts : List V} {es : List (Key × Val)} (h : Paired R ts es) (hk : ∀ t e, R t e → keyOf H t = keyT e.1) : Paired R (ts.mergeSort (leK (keyOf H))) (es.mergeSort leE) := by
  refine each_paired (PySem.W.sort_each (paired_each h) fun p hp q hq => ?_)
  have e1 := hk _ _ ((paired_each h).zip p hp)
  have e2 := hk _ _ ((paired_each h).zip q hq)
  unfold leK leE PySem.W.dataLe PySem.W.sortLe
  simp only [e1, e2]
theorem entB_x {K : PySem.W.Frag} {H H' : Hp} {k : Nat} {t : V} {e : Key × Val} (s : LamX.ExtN H H') (h : EntB K H k t e) : EntB K H' k t e := by
  obtain ⟨b, y, e1, h1, h2⟩ := h
  exact ⟨b, y, e1, s _ _ h1 (fun _ z => nomatch z), VAt.x s h2⟩
theorem strEq {a b : Str} : decide (V.str a = V.str b) = (a == b) := by
  by_cases h : a = b
  · subst h; simp
  · rw [decide_eq_false fun z => h (V.str.inj z)]
    exact (beq_eq_false_iff_ne.mpr h).symm
theorem bad_snoc {o : Opt} {l : List (Key × Val)} {e : Key × Val} : bad o (l ++ [e]) = (bad o l || (seen o e && (isI e.1 && o.nk == "refuse"))) := by
  unfold bad
  rw [List.any_append]
  simp
theorem kept_snoc {o : Opt} {l : List (Key × Val)} {e : Key × Val} : kept o (l ++ [e]) = kept o l ++ (if (seen o e && (!isI e.1 || o.nk == "text")) = true then [e] else []) := by
  unfold kept
  rw [List.filter_append]
  congr 1
  simp only [List.filter_cons, List.filter_nil]
theorem bad_of {o : Opt} {l : List (Key × Val)} {e : Key × Val} (h : e ∈ l) (b : (seen o e && (isI e.1 && o.nk == "refuse")) = true) : bad o l = true := List.any_eq_true.mpr ⟨e, h, b⟩
theorem int_key {y : Key} : isInt (keyV y) = isI y := by cases y <;> rfl
theorem str_key {y : Key} : isT "str" (keyV y) = !isI y := by cases y <;> rfl
theorem ok_Writer_kept_entries (T : Tx w K mg) (hTB : LamX.TabB base mg (He.codeOf K keD) (keT K)) (k : Nat) : Gd P w K base mg (CX P w) 6 (He.fAd K d_Writer_kept_entries.at_) ["self", "table", "path"] [] (spKept K k) := by
  have G_is_integer := ok_is_integer (P := P) (w := w) (base := base) T
  have G_key_text := ok_key_text (P := P) (w := w) (base := base) T
  have G_Unwritable_init := ok_Unwritable_init (P := P) (w := w) (base := base) T
  refine mkGdXC (T.f_Writer_kept_entries) sc_Writer_kept_entries (fun vs H Q E h => ?_) (fun _ _ _ _ _ _ us hl => match us, hl with | [_, _, _], _ => rfl) (fun c hc A outer s H vs Q E hr h => ?_)
  · obtain ⟨p, x, pth, xs, o, es, G, rfl, _⟩ := h
    rfl
  · have hu := hu_of hr
    subst hc
    have tk : Takes _ (fun c d _ H => E c d H) := takes_of (X := cxOf (CX P w) P w K mg base N_Writer_kept_entries d_Writer_kept_entries.qual (defScope s_Writer_kept_entries) (He.fAd K d_Writer_kept_entries.at_) (.ref (He.codeOf K keD)) A outer s H E) rfl rfl rfl rfl
    have hcode : (cxOf (CX P w) P w K mg base N_Writer_kept_entries d_Writer_kept_entries.qual (defScope s_Writer_kept_entries) (He.fAd K d_Writer_kept_entries.at_) (.ref (He.codeOf K keD)) A outer s H E).env.code = .ref (He.codeOf K keD) := rfl
    have hmT : (keT K, lamQ) ∈ TT K := List.mem_singleton.mpr rfl
    have hu1 : ∀ p ∈ TT K, p.1 = keT K → p.2 = lamQ := fun p hp _ => by rw [List.mem_singleton.mp hp]
    obtain ⟨p, x, pth, xs, o, es, G, rfl, hW, hG, hv, okes, hP, hxs, hT, qE, q⟩ := h
    obtain ⟨h4, hnd, hok⟩ := okes
    obtain ⟨dw, hW⟩ := hW
    obtain ⟨j, tp, dx, d, od, kvs, ej, rfl, hp, hd, hpr⟩ := at_tab hv
    cases ej
    have hp := hG _ _ hp fun _ z => nomatch z
    have hd := hG _ _ hd fun _ z => nomatch z
    have hlen := Paired.length hpr
    refine ⟨_, (pss_cons (ps_set (i := 3) sc_Writer_kept_entries.nd rfl (Or.inl rfl) (pe_lst pa_nil))
      (pss_cons (ps_for (passes_of rfl) rfl (pi_items (pe_fld (pv 1) rfl)) (pg_tup rfl (pgs_cons (pg_name (i := 4) sc_Writer_kept_entries.nd rfl (Or.inl rfl)) (pgs_cons (pg_name (i := 5) sc_Writer_kept_entries.nd rfl (Or.inl rfl)) pgs_nil)))
      (pss_cons (ps_if (PW.pt (pw_and (pt_cmpR op_isN (pv 5) pe_non (nomark _)) (pw_and1 (pt_cmpR op_eq (pe_fld (pv 0) rfl) pe_str (nomark _))))) (pss_one ps_continue) pss_nil)
      (pss_cons (ps_if (PW.pt (pw_and (pt_val (pe_callG G_is_integer T.g_is_integer (hr.mono (by first | decide | omega)) pass0 (pa_cons (pv 4) pa_nil))) (pw_and1 (pt_cmpR op_eq (pe_fld (pv 0) rfl) pe_str (nomark _))))) (pss_one (ps_raise rfl tk (pmk_G T.ex' G_Unwritable_init T.g_Unwritable (hr.mono (by first | decide | omega)) pass0 (pa_cons pe_str (pa_cons (pe_op op_catA (pv 2) (pe_tup (pa_cons (pv 4) pa_nil))) pa_nil))))) pss_nil)
      (pss_one (ps_if (PW.pt (pw_or (pt_val (pe_callB call_isi (by rfl) T.n_isinstance (by decide +kernel) (pa_cons (pv 4) (pa_cons (pe_bltn (v := .ty "str") (u := .type "str") (by rfl) T.n_str (by decide +kernel) rfl) pa_nil)))) (pw_or1 (pt_cmpR op_eq (pe_fld (pv 0) rfl) pe_str (nomark _))))) (pss_one (ps_expr (pe_bm PySem.F.plainAttrs_list PySem.F.slot_list_append PySem.F.type_list_append mt_append (pv 3) (pa_cons (pe_tup (pa_cons (pv 4) (pa_cons (pv 5) pa_nil))) pa_nil)))) pss_nil)))))
      (pss_cons (ps_if (pt_cmpR op_eq (pe_fld (pv 0) rfl) pe_str (nomark _)) (pss_one (ps_ret (pe_sortLam (N := ["entry"]) (a := "entry") rfl (by rfl) T.n_sorted (pa_cons (pv 3) pa_nil) hTB hcode hmT hu1 (hr.mono (by first | decide | omega)) ⟨rfl, rfl, rfl, by decide +kernel, rfl, by decide +kernel, by decide +kernel⟩ rfl (fun _ _ _ _ _ => rfl) (fun _ _ _ _ _ _ _ hr2 => (pe_callG G_key_text T.g_key_text hr2 pass0 (pa_cons (pe_ix (r := rIxT K) ix_tup (pv 0) pe_int (fun _ _ => rfl)) pa_nil)))))) pss_nil)
      (pss_one (ps_ret (pv 3)))))), ?_⟩
    refine ⟨Nat.zero_le _, fun L hL => ⟨_, rfl, tp, _, _, _, _, rfl, (Same.nu hL) _ _ hp, T.cl_Table, T.a_Table_held, rfl, d, od, kvs, rfl, (Same.nu hL) _ _ hd, for_it walk_items
      (fun i σ H' => (∃ u v, σ = [some (.ref p), some (.ref tp), some (.ref pth), some (.ref L), u, v]) ∧ Same H H' ∧ bad o (es.take i) = false ∧ ∃ ts, H' L = some (.lst ts) ∧ ts.length ≤ i ∧ Paired (EntC K G H' k) ts (kept o (es.take i))) ?_ ?_ ?_ ?_⟩⟩
    · exact ⟨⟨_, _, rfl⟩, Same.nu hL, by rw [List.take_zero]; rfl, [], upd_same, Nat.le_refl _, by rw [List.take_zero]; exact .nil⟩
    · rintro i σ H' _ ⟨_, s1, _⟩
      exact s1 _ _ hd
    · rintro i y σ H1 H2 hi ⟨⟨u, v, rfl⟩, s1, hb, ts, hts, htl, hpt⟩ ⟨t, x1, x2, rfl, ht, rfl, e1, e2⟩
      dsimp only at e1 e2
      cases ekv : kvs[i]? with
      | none => rw [ekv] at e1; cases e1
      | some kv =>
      rw [ekv] at e1 e2
      cases e1
      cases e2
      obtain ⟨e, he, hk, hy⟩ := Paired.at hpr ekv
      obtain ⟨ky, kx⟩ := kv
      dsimp only at hk hy
      subst hk
      dsimp only
      have hTs := (Same.nu (o := .tup [kV e.1, kx]) ht)
      have s2 := s1.trans hTs
      have hW2 := s2 _ _ hW
      have hL2 := hTs _ _ hts
      have em : e ∈ es := List.mem_of_getElem? he
      have hpt2 : Paired (EntC K G (upd H1 t (.tup [kV e.1, kx])) k) ts (kept o (es.take i)) := Paired.mapP hpt fun _ _ ⟨b, y, e1, h1, h2⟩ => ⟨b, y, e1, hTs _ _ h1, h2⟩
      have hy2 : VAt (CT K) (upd H1 t (.tup [kV e.1, kx])) k kx e.2 := VAt.same s2 (VAt.x hG hy)
      rw [take_snoc he]
      generalize hH2 : upd H1 t (.tup [kV e.1, kx]) = H2 at hTs s2 hW2 hL2 hpt2 hy2
      have ht2 : H2 t = some (.tup [kV e.1, kx]) := by rw [← hH2]; exact upd_same
      have go : ∀ (Z : Prop), Z → Z := fun _ z => z
      refine ⟨t, _, rfl, SqT.of ht2, rfl, _, _, rfl, _, _, rfl, rfl, ?_⟩
      obtain ⟨t2, y2, k2⟩ := isi T "str" (H := H2) (G := H2) (Same.refl H2) (key_at e.1)
      -- the end of a turn
      have third : seen o e = true → (isI e.1 && o.nk == "refuse") = false → tIfS (tOr (tB (tCB (rIsi K) (tCons (tVar 4) (tCons (tC (V.ty "str")) tNil)))) (tTest (tOp rEq (tFld K (tVar 0) "number_keys") (tC (V.str "text"))))) (tDrop (tBM K "list" rAppend (tVar 3) (tCons (tTup (tCons (tVar 4) (tCons (tVar 5) tNil))) tNil))) tNext
          { nx := fun σ H' => (∃ u v, σ = [some (.ref p), some (.ref tp), some (.ref pth), some (.ref L), u, v]) ∧ Same H H' ∧ bad o (es.take i ++ [e]) = false ∧ ∃ ts, H' L = some (.lst ts) ∧ ts.length ≤ i + 1 ∧ Paired (EntC K G H' k) ts (kept o (es.take i ++ [e])), rt := fun _ _ => False }
          [some (.ref p), some (.ref tp), some (.ref pth), some (.ref L), some (kV e.1), some kx] H2 := fun hs hr => by
        have hb2 : bad o (es.take i ++ [e]) = false := by rw [bad_snoc, hb, hs, hr]; rfl
        have app : (!isI e.1 || o.nk == "text") = true → tDrop (tBM K "list" rAppend (tVar 3) (tCons (tTup (tCons (tVar 4) (tCons (tVar 5) tNil))) tNil))
            { nx := fun σ H' => (∃ u v, σ = [some (.ref p), some (.ref tp), some (.ref pth), some (.ref L), u, v]) ∧ Same H H' ∧ bad o (es.take i ++ [e]) = false ∧ ∃ ts, H' L = some (.lst ts) ∧ ts.length ≤ i + 1 ∧ Paired (EntC K G H' k) ts (kept o (es.take i ++ [e])), rt := fun _ _ => False }
            [some (.ref p), some (.ref tp), some (.ref pth), some (.ref L), some (kV e.1), some kx] H2 := fun hk2 => by
          refine ⟨_, rfl, .inl ⟨rfl, _, SqL.of hL2⟩, _, rfl, _, rfl, (by show 2 ≤ sizeLine; decide), fun q2 hq2 => ⟨L, _, _, rfl, rfl, Same.nu hq2 _ _ hL2, small1000 (by omega), ⟨_, _, rfl⟩, Same.mk'' (s2.trans (Same.nu hq2)) hL, hb2, _, upd_same, by rw [List.length_append, List.length_singleton]; omega, ?_⟩⟩
          rw [kept_snoc, hs, hk2]
          have sx : ∀ b o', b ≠ L → H2 b = some o' → (upd (upd H2 q2 (.tup [kV e.1, kx])) L (.lst (ts ++ [.ref q2]))) b = some o' := fun b o' n hb => by
            rw [upd_ne n]
            exact Same.nu hq2 _ _ hb
          refine Paired.snoc (Paired.mapP hpt2 fun t e ⟨b, y, e1, h1, h2⟩ => ⟨b, y, e1, sx b _ (ne_of h1 hL2 (by intro z; cases z)) h1, h2⟩) ⟨q2, kx, rfl, ?_, hy⟩
          rw [upd_ne (ne_of_none hL2 hq2).symm, upd_same]
        refine ⟨_, rfl, kV e.1, _, t2, _, _, rfl, .ty _, y2, k2, _, rfl, ?_⟩
        rw [str_key]
        cases hi : isI e.1 with
        | false => exact iteT (iteT (app (by rw [hi]; rfl)))
        | true =>
          refine iteF ⟨_, rfl, p, _, _, _, _, rfl, hW2, T.cl_Writer, T.a_Writer_number_keys, rfl, rfl, _, rfl, ?_⟩
          rw [strEq]
          cases hn : (o.nk == "text") with
          | true => exact iteT (app (by rw [hn, Bool.or_true]))
          | false => exact iteF ⟨⟨_, _, rfl⟩, s2, hb2, ts, hL2, by omega, by rw [kept_snoc, hi, hn]; simpa using hpt2⟩
      have second : seen o e = true → tSeq (tIfS (tAnd (tB (tCall (spIsInt K) [] E0 (tCons (tVar 4) tNil))) (tTest (tOp rEq (tFld K (tVar 0) "number_keys") (tC (V.str "refuse"))))) (fun x σ H_1 => tMkO (He.ga K "Unwritable") (spErr K ["reason", "path"]) []
          (tCons (tC (V.str "key")) (tCons (tOp (rCatA K) (tVar 2) (tTup (tCons (tVar 4) tNil))) tNil)) σ H_1 fun cls d H' => E cls d H') tNext) (tIfS (tOr (tB (tCB (rIsi K) (tCons (tVar 4) (tCons (tC (V.ty "str")) tNil)))) (tTest (tOp rEq (tFld K (tVar 0) "number_keys") (tC (V.str "text"))))) (tDrop (tBM K "list" rAppend (tVar 3) (tCons (tTup (tCons (tVar 4) (tCons (tVar 5) tNil))) tNil))) tNext)
          { nx := fun σ H' => (∃ u v, σ = [some (.ref p), some (.ref tp), some (.ref pth), some (.ref L), u, v]) ∧ Same H H' ∧ bad o (es.take i ++ [e]) = false ∧ ∃ ts, H' L = some (.lst ts) ∧ ts.length ≤ i + 1 ∧ Paired (EntC K G H' k) ts (kept o (es.take i ++ [e])), rt := fun _ _ => False }
          [some (.ref p), some (.ref tp), some (.ref pth), some (.ref L), some (kV e.1), some kx] H2 := fun hs => by
        refine ⟨_, rfl, kV e.1, _, H2, 0, rfl, Same.refl H2, key_at e.1, _, rfl, ?_⟩
        rw [int_key]
        cases hi : isI e.1 with
        | false => exact iteF (third hs (by rw [hi]; rfl))
        | true =>
          refine iteT ⟨_, rfl, p, _, _, _, _, rfl, hW2, T.cl_Writer, T.a_Writer_number_keys, rfl, rfl, _, rfl, ?_⟩
          rw [strEq]
          cases hn : (o.nk == "refuse") with
          | false => exact iteF (third hs (by rw [hn, Bool.and_false]))
          | true =>
            have hbad : bad o es = true := bad_of em (by rw [hs, hi, hn]; rfl)
            have fin : ∀ {Hh : Hp} {pp : V}, Same H Hh → _ := fun {Hh pp} sh => rais_U T (H := Hh) (r := .str "key") (pth := pp) (E := E) fun d H' s3 => qE hbad d H' (Xt.same hT (sh.trans s3))
            refine iteT ⟨_, rfl, _, rfl, (by show 1 ≤ sizeLine; decide), fun q2 hq2 => ?_⟩
            have s3 := s2.trans (Same.nu (o := .tup [kV e.1]) hq2)
            exact ⟨pth, q2, xs, [kV e.1], rfl, rfl, sqT_x (LamX.ExtN.of s3) hP, SqT.of upd_same, (show xs.length + 1 ≤ sizeLine from Nat.le_of_lt (small1000 (n := xs.length + 1) (by omega))), fun _ => fin s3, fun _ z => (nomatch z), fun _ _ q3 hq3 => fin (s3.trans (Same.nu hq3))⟩
      -- the first test
      refine ⟨_, rfl, rfl, _, rfl, ?_⟩
      rw [at_non hy2]
      cases hN : isN e.2 with
      | false => exact iteF (second (by unfold Rz.seen; rw [hN]; rfl))
      | true =>
        refine iteT ⟨_, rfl, p, _, _, _, _, rfl, hW2, T.cl_Writer, T.a_Writer_nulls, rfl, rfl, _, rfl, ?_⟩
        rw [strEq]
        cases hn : (o.nl == "skip") with
        | false => exact iteF (second (by unfold Rz.seen; rw [hn, Bool.and_false]; rfl))
        | true =>
          have hs : seen o e = false := by unfold Rz.seen; rw [hN, hn]; rfl
          exact iteT ⟨⟨_, _, rfl⟩, s2, by rw [bad_snoc, hb, hs]; rfl, ts, hL2, by omega, by rw [kept_snoc, hs]; simpa using hpt2⟩
    · rintro σ H' ⟨⟨u, v, rfl⟩, s1, hb, ts, hts, htl, hpt⟩
      rw [List.take_of_length_le (by omega)] at hpt hb
      have q := q hb
      have ets : ts.length = (kept o es).length := Paired.length hpt
      have hpb := hpt
      refine ⟨_, rfl, p, _, _, _, _, rfl, s1 _ _ hW, T.cl_Writer, T.a_Writer_order, rfl, rfl, _, rfl, ?_⟩
      rw [strEq]
      cases hn : (o.od == "rising") with
      | false =>
        have e1 : ordE o (kept o es) = kept o es := by unfold ordE; rw [if_neg (by simpa using hn)]
        exact iteF ⟨_, rfl, q H' L ts (Xt.same hT s1) (fun b u e _ => (ne_of_none e hL).symm) hts (by rw [e1]; exact hpb)⟩
      | true =>
        have e1 : ordE o (kept o es) = (kept o es).mergeSort leE := by unfold ordE; rw [if_pos (by simpa using hn)]
        refine iteT ⟨_, rfl, L, ts, keyOf H', rfl, SqL.of hts, hT.ext s1, fun H2 eN T2 => ⟨SqL.of (eN _ _ hts fun _ z => nomatch z), fun y hy => ?_, fun D hD => ?_⟩⟩
        · obtain ⟨j, hj⟩ := List.mem_iff_getElem?.mp hy
          obtain ⟨e, he, b, y0, rfl, h1, h2⟩ := Paired.at hpb hj
          have hm : e ∈ es := (List.mem_filter.mp (List.mem_of_getElem? he)).1
          exact ⟨_, rfl, b, _, _, _, rfl, rfl, SqT.of (eN _ _ h1 fun _ z => nomatch z), at_of (j := 0) rfl rfl, e.1, rfl, (hok e hm).1, by rw [keyOf_at h1], rfl⟩
        · refine q _ D _ (Xt.trans ⟨LamX.ExtN.of s1, hT.ext s1⟩ (Xt.of ⟨eN, T2⟩ (Same.nu hD))) (fun b u e n => (ne_of_none (eN _ _ (s1 _ _ e) n) hD).symm) upd_same ?_
          rw [e1]
          exact Paired.mapP (sorted_paired hpb fun t e ⟨b, y, e1, h1, h2⟩ => by rw [e1]; exact keyOf_at h1) fun t e ⟨b, y, e1, h1, h2⟩ => ⟨b, y, e1, (eN.trans (LamX.ExtN.of (Same.nu hD))) _ _ h1 (fun _ z => nomatch z), h2⟩
end
end Kt
set_option Elab.async false
set_option linter.all false
set_option maxRecDepth 100000
set_option maxHeartbeats 4000000
namespace Kt
open PySem PySem.Spec PyProof.Rows L2 Rz
section
variable {P : Program} {w : World} {K : PySem.W.Frag} {mg : Str → Option Value} {base : Heap}
/-- a raw value without parts that is rendered as z -/
def RF (v : V) (z : Str) : Prop := (v = .non ∧ z = "null") ∨ (∃ b : Bool, v = .bl b ∧ z = (if b then "true" else "false")) ∨ (∃ i : Int, v = .int i ∧ i.natAbs < 10 ^ 21 ∧ z = istr i) ∨ ∃ x : Str, v = .str x ∧ x.length ≤ 60 ∧ z = rstr x
/-- a raw value, at most k deep, that is rendered as z -/
def RAt (H : Hp) : Nat → V → Str → Prop
  | 0, v, z => RF v z
  | k + 1, v, z => RF v z ∨ (∃ t l xs zs, v = .ref t ∧ H t = some (.tup [.str "row", .ref l]) ∧ H l = some (.lst xs) ∧ zs.length ≤ 4 ∧ (∀ y ∈ zs, y.length ≤ capT k) ∧ Paired (RAt H k) xs zs ∧ z = "[" ++ Txt.join "," zs ++ "]") ∨
      ∃ t l xs zs, v = .ref t ∧ H t = some (.tup [.str "table", .ref l]) ∧ H l = some (.lst xs) ∧ zs.length ≤ 4 ∧
        Paired (fun p y => ∃ q n x u, p = .ref q ∧ H q = some (.tup [.str n, x]) ∧ n.length ≤ 60 ∧ RAt H k x u ∧ u.length ≤ capT k ∧ y = rstr n ++ ":" ++ u) xs zs ∧ z = "{" ++ Txt.join "," zs ++ "}"
def PairR (H : Hp) (k : Nat) (p : V) (y : Str) : Prop := ∃ q n x u, p = .ref q ∧ H q = some (.tup [.str n, x]) ∧ n.length ≤ 60 ∧ RAt H k x u ∧ u.length ≤ capT k ∧ y = rstr n ++ ":" ++ u
theorem RAt.x {H H' : Hp} (s : LamX.ExtN H H') : ∀ {k : Nat} {v : V} {z : Str}, RAt H k v z → RAt H' k v z
  | 0, _, _, h => h
  | k + 1, _, _, h => by
    rcases h with h | ⟨t, l, xs, zs, e, h1, h2, h3, h4, h5, h6⟩ | ⟨t, l, xs, zs, e, h1, h2, h3, h4, h5⟩
    · exact .inl h
    · exact .inr (.inl ⟨t, l, xs, zs, e, s _ _ h1 (fun _ z => nomatch z), s _ _ h2 (fun _ z => nomatch z), h3, h4, Paired.mapP h5 fun _ _ q => RAt.x s q, h6⟩)
    · exact .inr (.inr ⟨t, l, xs, zs, e, s _ _ h1 (fun _ z => nomatch z), s _ _ h2 (fun _ z => nomatch z), h3, Paired.mapP h4 fun p y ⟨q, n, x, u, e, g1, g2, g3, g4⟩ => ⟨q, n, x, u, e, s _ _ g1 (fun _ z => nomatch z), g2, RAt.x s g3, g4⟩, h5⟩)
theorem PairR.x {H H' : Hp} (s : LamX.ExtN H H') {k : Nat} {p : V} {y : Str} (h : PairR H k p y) : PairR H' k p y := by
  obtain ⟨q, n, x, u, e, g1, g2, g3, g4⟩ := h
  exact ⟨q, n, x, u, e, s _ _ g1 (fun _ z => nomatch z), g2, RAt.x s g3, g4⟩
/-- all that is known but the tables, and but for what is in ps, stands -/
def Xs (ps : List Addr) (H H' : Hp) : Prop := ∀ b o, b ∉ ps → H b = some o → (∀ q, o ≠ .tbl q) → H' b = some o
theorem Xs.of {ps : List Addr} {H H' : Hp} (s : LamX.ExtN H H') : Xs ps H H' := fun b o _ h n => s b o h n
theorem Xs.same {ps : List Addr} {H H' : Hp} (s : Same H H') : Xs ps H H' := fun b o _ h _ => s b o h
theorem Xs.trans {ps : List Addr} {H H1 H2 : Hp} (a : Xs ps H H1) (b : Xs ps H1 H2) : Xs ps H H2 := fun c o n h z => b c o n (a c o n h z) z
theorem Xs.up {ps : List Addr} {p : Addr} {H : Hp} {o : HO} (h : p ∈ ps) : Xs ps H (upd H p o) := fun b u n e _ => by rw [upd_ne fun z => n (by rw [z]; exact h)]; exact e
theorem cut_xs {H H' : Hp} {ps : List Addr} (s : Xs ps H H') : LamX.ExtN (cut H ps) (cut H' ps) := fun b o h n => by
  unfold cut at h
  split at h
  · cases h
  · rename_i m
    exact cut_at m (s b o m h n)
theorem cut_up {H : Hp} {ps : List Addr} {p : Addr} {o : HO} (h : p ∈ ps) : cut (upd H p o) ps = cut H ps := by
  funext b
  unfold cut
  by_cases m : b ∈ ps
  · rw [if_pos m, if_pos m]
  · rw [if_neg m, if_neg m, upd_ne fun z => m (by rw [z]; exact h)]
def HasX (H : Hp) (ps : List Addr) : Prop := ∀ b ∈ ps, ∃ o, H b = some o ∧ ∀ q, o ≠ .tbl q
theorem HasX.new {H : Hp} {ps : List Addr} {q : Addr} (h : HasX H ps) (n : H q = none) : q ∉ ps := fun z => by
  obtain ⟨o, e, _⟩ := h q z
  rw [n] at e
  cases e
theorem HasX.x {H H' : Hp} {ps : List Addr} (h : HasX H ps) (s : LamX.ExtN H H') : HasX H' ps := fun b hb => by
  obtain ⟨o, e, n⟩ := h b hb
  exact ⟨o, s _ _ e n, n⟩
def spRaw (K : PySem.W.Frag) (k : Nat) : Sp := fun vs H Q E => ∃ (p : Addr) (x : V) (pth : Addr) (xs : List V) (o : Opt) (d : Val) (G : Hp) (ps : List Addr), vs = [.ref p, x, .ref pth] ∧ WAt K H p o ∧ LamX.ExtN G H ∧ VAt (CT K) G k x d ∧ Ok k d ∧
  SqT K H pth xs ∧ xs.length + k ≤ 100 ∧ LamX.Tabs (TT K) H ∧ HasX H ps ∧ (txt o k d = none → Ref K H E) ∧ ∀ z, txt o k d = some z → ∀ H' v, Xt K H H' → RAt (cut H' ps) k v z → Q v H'
def spPairs (K : PySem.W.Frag) (k : Nat) : Sp := fun vs H Q E => ∃ (p : Addr) (x : V) (pth : Addr) (xs : List V) (o : Opt) (es : List (Key × Val)) (G : Hp) (ps : List Addr), vs = [.ref p, x, .ref pth] ∧ WAt K H p o ∧ LamX.ExtN G H ∧ VAt (CT K) G (k + 1) x (.tab es) ∧ okE k es ∧
  SqT K H pth xs ∧ xs.length + k + 1 ≤ 100 ∧ LamX.Tabs (TT K) H ∧ HasX H ps ∧ ((bad o es = true ∨ dup o (ordE o (kept o es)) = true ∨ none ∈ (ordE o (kept o es)).map (pairT (txt o k))) → Ref K H E) ∧
  ∀ zs, (ordE o (kept o es)).map (pairT (txt o k)) = zs.map some → dup o (ordE o (kept o es)) = false → ∀ H' L ys, bad o es = false → Xt K H H' → H L = none → H' L = some (.lst ys) → Paired (PairR (cut H' (L :: ps)) k) ys zs → Q (.ref L) H'
theorem dup_at {o : Opt} {l : List (Key × Val)} {i : Nat} {e : Key × Val} (hd : (o.dk == "refuse") = true) (he : l[i]? = some e) (hm : keyT e.1 ∈ (l.take i).map fun e => keyT e.1) : dup o l = true := by
  unfold dup
  rw [hd, Bool.true_and, Bool.not_eq_true', decide_eq_false_iff_not]
  intro hn
  obtain ⟨j, hj⟩ := List.mem_iff_getElem?.mp hm
  rw [List.getElem?_map, List.getElem?_take] at hj
  have hi := lt_of_at he
  by_cases hji : j < i
  · rw [if_pos hji] at hj
    have e1 : l[j]? = some l[j] := List.getElem?_eq_getElem (by omega)
    rw [e1] at hj
    have e2 : l[i] = e := by
      rw [List.getElem?_eq_getElem hi] at he
      exact Option.some.inj he
    have e3 : keyT (l[j]'(by omega)).1 = keyT e.1 := by simpa using hj
    have := List.pairwise_iff_getElem.mp hn j i (by simp; omega) (by simpa using hi) hji
    simp [e2, e3] at this
  · rw [if_neg hji] at hj
    simp at hj
theorem heapAt {o : Obj} (hf : o.isFreed = false) : ∀ c : Addr, ∃ h : Heap, h.objs.size = c + 1 ∧ h.get? c = some o
  | 0 => by
    have e : (({} : Heap)).objs.size = 0 := rfl
    refine ⟨({} : Heap).push o, by rw [Heap.size_push, e], ?_⟩
    have q := Heap.get?_push_size ({} : Heap) hf
    rw [e] at q
    exact q
  | c + 1 => by
    obtain ⟨h, e, _⟩ := heapAt hf c
    refine ⟨h.push o, by rw [Heap.size_push, e], ?_⟩
    have q := Heap.get?_push_size h hf
    rw [e] at q
    exact q
theorem codeO_set {P : Program} {w : World} {c : Addr} {q : Str} {S : Key → Bool} {n : Nat} : LamX.CodeO c q ≠ SetK P w c S n := fun z => by
  unfold LamX.CodeO SetK at z
  have e := HO.ext.inj z
  obtain ⟨h, _, hg⟩ := heapAt (o := { cls := .none, data := .fields #[.none, .str q 0] }) rfl c
  have e2 := congrFun e h
  have : h.SetOf (mixKind P w) c S n := by
    rw [← e2]
    exact ⟨_, _, 0, hg, rfl, rfl⟩
  obtain ⟨o, es, ep, t, ho, _, hd, _⟩ := this
  rw [hg] at ho
  cases ho
  cases hd
theorem tabs_but {T : List (Addr × Str)} {H H' : Hp} {S : Addr} {u0 : HO} (t : LamX.Tabs T H) (h : H S = some u0) (n1 : ∀ q, u0 ≠ .tbl q) (n2 : ∀ q, LamX.CodeO S q ≠ u0) (k : ∀ c u, c ≠ S → H c = some u → H' c = some u) : LamX.Tabs T H' := fun r hr => by
  obtain ⟨q1, q2, q3, q4⟩ := t r hr
  refine ⟨q1, k _ _ (ne_of q2 h fun z => n1 _ z.symm) q2, q3, fun a b c => ?_⟩
  obtain ⟨c1, c2, c3⟩ := q4 a b c
  exact ⟨c1, c2, k _ _ (fun z => by rw [z, h] at c3; exact n2 _ (Option.some.inj c3).symm) c3⟩
/-- the loop of raw_pairs -/
def InvP (P : Program) (w : World) (K : PySem.W.Frag) (o : Opt) (k : Nat) (p : Addr) (x : V) (pth L S : Addr) (ps : List Addr) (le : List (Key × Val)) (H3 : Hp) (i : Nat) (σ : L2.St) (H' : Hp) : Prop :=
  (∃ u v y, σ = [some (.ref p), some x, some (.ref pth), some (.ref L), some (.ref S), u, v, y]) ∧ Xs [L, S] H3 H' ∧ LamX.Tabs (TT K) H' ∧ ∃ ys zs Sf n, H' L = some (.lst ys) ∧ H' S = some (SetK P w S Sf n) ∧ n ≤ i ∧ ys.length = i ∧
        (∀ nm, Sf (.inr nm) = decide (nm ∈ (le.take i).map fun e => keyT e.1)) ∧ Paired (PairR (cut H' (L :: S :: ps)) k) ys zs ∧ (le.take i).map (pairT (txt o k)) = zs.map some ∧ ((o.dk == "refuse") = true → ((le.take i).map fun e => keyT e.1).Nodup)
end
end Kt
set_option Elab.async false
set_option linter.all false
set_option maxRecDepth 100000
set_option maxHeartbeats 4000000
namespace Kt
open PySem PySem.Spec PyProof.Rows L2 Rz
section
variable {P : Program} {w : World} {K : PySem.W.Frag} {mg : Str → Option Value} {base : Heap}
theorem ok_Writer_raw_pairs (T : Tx w K mg) (hTB : LamX.TabB base mg (He.codeOf K keD) (keT K)) (k lev : Nat) (hlev : 6 ≤ lev) (G_Writer_raw_at : Gd P w K base mg (CX P w) lev (He.fAd K d_Writer_raw_at.at_) ["self", "value", "path"] [] (spRaw K k)) :
    Gd P w K base mg (CX P w) (lev + 1) (He.fAd K d_Writer_raw_pairs.at_) ["self", "table", "path"] [] (spPairs K k) := by
  have G_key_text := ok_key_text (P := P) (w := w) (base := base) T
  have G_Unwritable_init := ok_Unwritable_init (P := P) (w := w) (base := base) T
  have G_Writer_kept_entries := ok_Writer_kept_entries (P := P) (w := w) (base := base) T hTB k
  refine mkGdX (T.f_Writer_raw_pairs) sc_Writer_raw_pairs (fun vs H Q E h => ?_) (fun _ _ _ _ _ _ us hl => match us, hl with | [_, _, _], _ => rfl) (fun cdv A outer s H vs Q E hr h => ?_)
  · obtain ⟨p, x, pth, xs, o, es, G, ps, rfl, _⟩ := h
    rfl
  · have hu := hu_of hr
    have tk : Takes _ (fun c d _ H => E c d H) := takes_of (X := cxOf (CX P w) P w K mg base N_Writer_raw_pairs d_Writer_raw_pairs.qual (defScope s_Writer_raw_pairs) (He.fAd K d_Writer_raw_pairs.at_) cdv A outer s H E) rfl rfl rfl rfl
    have px := passes_call (E := E) tk fun _ _ _ _ h => h
    obtain ⟨p, x, pth, xs, o, es, G, ps, rfl, hW, hG, hv, okes, hP, hxs, hT, hps, qE, q⟩ := h
    obtain ⟨dw, hW⟩ := hW
    have hok := okes.2.2
    refine ⟨_, (pss_cons (ps_set (i := 3) sc_Writer_raw_pairs.nd rfl (Or.inl rfl) (pe_lst pa_nil))
      (pss_cons (ps_set (i := 4) sc_Writer_raw_pairs.nd rfl (Or.inl rfl) (pe_callTy0 cr_set0K (by rfl) T.n_set (by decide +kernel)))
      (pss_cons (ps_for (passes_of rfl) rfl (pi_list (pe_methG (pv 0) T.cl_Writer T.m_Writer_kept_entries G_Writer_kept_entries (hr.mono (by first | decide | omega)) px (pa_cons (pv 1) (pa_cons (pv 2) pa_nil)))) (pg_tup rfl (pgs_cons (pg_name (i := 5) sc_Writer_raw_pairs.nd rfl (Or.inl rfl)) (pgs_cons (pg_name (i := 6) sc_Writer_raw_pairs.nd rfl (Or.inl rfl)) pgs_nil)))
      (pss_cons (ps_set (i := 7) sc_Writer_raw_pairs.nd rfl (Or.inl rfl) (pe_callG G_key_text T.g_key_text (hr.mono (by first | decide | omega)) pass0 (pa_cons (pv 5) pa_nil)))
      (pss_cons (ps_if (PW.pt (pw_and (pt_cmpR or_sinK (pv 7) (pv 4) (by rfl)) (pw_and1 (pt_cmpR op_eq (pe_fld (pv 0) rfl) pe_str (nomark _))))) (pss_one (ps_raise rfl tk (pmk_G T.ex' G_Unwritable_init T.g_Unwritable (hr.mono (by first | decide | omega)) pass0 (pa_cons pe_str (pa_cons (pe_op op_catA (pv 2) (pe_tup (pa_cons (pv 5) pa_nil))) pa_nil))))) pss_nil)
      (pss_cons (ps_expr (pe_saddK (pv 4) (pa_cons (pv 7) pa_nil)))
      (pss_one (ps_expr (pe_bm PySem.F.plainAttrs_list PySem.F.slot_list_append PySem.F.type_list_append mt_append (pv 3) (pa_cons (pe_tup (pa_cons (pv 7) (pa_cons (pe_methG (pv 0) T.cl_Writer T.m_Writer_raw_at G_Writer_raw_at (hr.mono (by first | decide | omega)) px (pa_cons (pv 6) (pa_cons (pe_op op_catA (pv 2) (pe_tup (pa_cons (pv 5) pa_nil))) pa_nil))) pa_nil))) pa_nil))))))))
      (pss_one (ps_ret (pv 3)))))), ?_⟩
    refine ⟨Nat.zero_le _, fun L hL => ⟨rfl, fun S hS => ?_⟩⟩
    have nLS : L ≠ S := fun z => by rw [← z, upd_same] at hS; cases hS
    have hS0 : H S = none := by
      cases e : H S with
      | none => rfl
      | some u => rw [Same.nu hL _ _ e] at hS; cases hS
    generalize hH2 : upd (upd H L (HO.lst [])) S (SetK _ _ S (fun _ => false) 0) = H2
    have s2 : Same H H2 := by rw [← hH2]; exact (Same.nu hL).trans (Same.nu hS)
    have hL2 : H2 L = some (.lst []) := by rw [← hH2, upd_ne nLS]; exact upd_same
    have hS2 : H2 S = some (SetK P w S (fun _ => false) 0) := by rw [← hH2]; exact upd_same
    have up2 : ∀ {H'}, Xt K H2 H' → Xt K H H' := fun x => ⟨(LamX.ExtN.of s2).trans x.1, x.2⟩
    refine ⟨_, rfl, p, dw, _, rfl, s2 _ _ hW, rfl, _, rfl, _, rfl, p, x, pth, xs, o, es, G, rfl, ⟨dw, s2 _ _ hW⟩, hG.trans (LamX.ExtN.of s2), hv, okes, sqT_x (LamX.ExtN.of s2) hP, by omega, hT.ext s2, fun hb d H' x => qE (.inl hb) d H' (up2 x), fun hb H3 l ts X3 hln hl hpt => ?_⟩
    have hlen := Paired.length hpt
    have hl4 : (ordE o (kept o es)).length ≤ 4 := Nat.le_trans kept_len okes.1
    have hL3 := X3.1 _ _ hL2 fun _ z => nomatch z
    have hS3 : H3 S = some (SetK P w S (fun _ => false) 0) := X3.1 _ _ hS2 fun _ z => by unfold SetK at z; cases z
    have hW3 := X3.1 _ _ (s2 _ _ hW) fun _ z => nomatch z
    have hP3 := sqT_x ((LamX.ExtN.of s2).trans X3.1) hP
    generalize hle : ordE o (kept o es) = le at hpt hlen hl4
    rw [hle] at qE q
    have nlL : l ≠ L := hln L _ hL2 fun _ z => nomatch z
    have nlS : l ≠ S := hln S _ hS2 fun _ z => by unfold SetK at z; cases z
    have nS : ∀ {Sf n q}, SetK P w S Sf n ≠ .tbl q := fun z => by unfold SetK at z; cases z
    refine ⟨l, rfl, ⟨_, SqL.of hl⟩, for_list (xs := ts)
      (InvP P w K o k p x pth L S ps le H3) ?_ ?_ ?_ ?_⟩
    · refine ⟨⟨_, _, _, rfl⟩, Xs.same (Same.refl _), X3.2, [], [], _, 0, hL3, hS3, Nat.le_refl _, rfl, fun nm => by simp, .nil, by rw [List.take_zero]; rfl, fun _ => by rw [List.take_zero]; exact List.nodup_nil⟩
    · rintro i σ H' _ ⟨_, x1, _⟩
      exact SqL.of (x1 l _ (by simp [nlL, nlS]) hl fun _ z => nomatch z)
    · rintro i t σ H' ht ⟨⟨u, v, y0, rfl⟩, x1, T1, ys, zs, Sf, n, hLi, hSi, hn, hyl, hSf, hpr, hmap, hnd⟩
      obtain ⟨e, he, b, y, rfl, hb3, hy⟩ := Paired.at hpt ht
      have hm : e ∈ es := by rw [← hle] at he; exact kept_mem (List.mem_of_getElem? he)
      obtain ⟨ok1, ok2⟩ := hok e hm
      have nb : b ∉ [L, S] := by
        simp only [List.mem_cons, List.not_mem_nil, or_false, not_or]
        exact ⟨ne_of hb3 hL3 (by intro z; cases z), ne_of hb3 hS3 (by intro z; unfold SetK at z; cases z)⟩
      have hbi := x1 b _ nb hb3 fun _ z => nomatch z
      have npL : p ∉ [L, S] := by
        simp only [List.mem_cons, List.not_mem_nil, or_false, not_or]
        exact ⟨ne_of hW3 hL3 (by intro z; cases z), ne_of hW3 hS3 (by intro z; unfold SetK at z; cases z)⟩
      have hWi := x1 p _ npL hW3 fun _ z => nomatch z
      have hi4 : i < 4 := by have := lt_of_at he; omega
      have xG : LamX.ExtN G H' := fun c u e1 n => by
        have e2 := hG c u e1 n
        refine x1 c u ?_ (X3.1 c u (s2 c u e2) n) n
        simp only [List.mem_cons, List.not_mem_nil, or_false, not_or]
        exact ⟨ne_of_none e2 hL, ne_of_none e2 hS0⟩
      have xH : LamX.ExtN H H' := fun c u e2 n => by
        refine x1 c u ?_ (X3.1 c u (s2 c u e2) n) n
        simp only [List.mem_cons, List.not_mem_nil, or_false, not_or]
        exact ⟨ne_of_none e2 hL, ne_of_none e2 hS0⟩
      have hPi := sqT_x xH hP
      refine ⟨b, _, rfl, SqT.of hbi, rfl, _, _, rfl, _, _, rfl, rfl, ?_⟩
      refine ⟨_, rfl, e.1, rfl, ok1, ?_⟩
      have turn : ∀ {Hs : Hp} {D : Ends}, D.nx = InvP P w K o k p x pth L S ps le H3 (i + 1) → Hs S = some (SetK P w S (fun j => Sf j || decide (j = .inr (keyT e.1))) (if Sf (.inr (keyT e.1)) = true then n else n + 1)) → (∀ c u, c ≠ S → H' c = some u → Hs c = some u) → cut Hs (L :: S :: ps) = cut H' (L :: S :: ps) → Xs [L, S] H' Hs →
          ((o.dk == "refuse") = true → keyT e.1 ∉ (le.take i).map fun e => keyT e.1) →
          tDrop (tBM K "list" rAppend (tVar 3) (tCons (tTup (tCons (tVar 7) (tCons (tMeth (He.ga K "Writer") "raw_at" (spRaw K k) [] E (tVar 0) (tCons (tVar 6) (tCons (tOp (rCatA K) (tVar 2) (tTup (tCons (tVar 5) tNil))) tNil))) tNil))) tNil)) D
            [some (.ref p), some x, some (.ref pth), some (.ref L), some (.ref S), some (kV e.1), some y, some (.str (keyT e.1))] Hs := by
        intro Hs D eD hSs sS cS xS hnew
        have hLs : Hs L = some (.lst ys) := sS _ _ nLS hLi
        have xHs : LamX.ExtN H Hs := fun c u e2 n => sS c u (ne_of_none e2 hS0) (xH c u e2 n)
        have xGs : LamX.ExtN G Hs := fun c u e2 n => sS c u (fun z => by have := hG c u e2 n; rw [z, hS0] at this; cases this) (xG c u e2 n)
        have TS : LamX.Tabs (TT K) Hs := tabs_but T1 hSi (fun q z => nS z) (fun q => codeO_set) sS
        have hWs : Hs p = some (.ins (CW K) dw (optF o)) := sS _ _ (ne_of hWi hSi (fun z => by unfold SetK at z; cases z)) hWi
        have call : ∀ (pp : Addr) (xs' : List V) (Hq : Hp) (Q' : VK), Same Hs Hq → SqT K Hq pp xs' → xs'.length ≤ xs.length + 1 → (∀ z, txt o k e.2 = some z → ∀ H4 v, Xt K Hs H4 → RAt (cut H4 (L :: S :: ps)) k v z → Q' v H4) → spRaw K k [.ref p, y, .ref pp] Hq Q' E := fun pp xs' Hq Q' sq hq hl q' =>
          ⟨p, y, pp, xs', o, e.2, G, L :: S :: ps, rfl, ⟨dw, sq _ _ hWs⟩, xGs.trans (LamX.ExtN.of sq), hy, ok2, hq, by omega, TS.ext sq, fun c hc => by
            rcases List.mem_cons.mp hc with z | hc
            · rw [z]; exact ⟨_, sq _ _ hLs, fun _ z => nomatch z⟩
            · rcases List.mem_cons.mp hc with z | hc
              · rw [z]; exact ⟨_, sq _ _ hSs, fun _ z => nS z⟩
              · obtain ⟨u, h1, h2⟩ := hps c hc
                exact ⟨u, sq _ _ (xHs c u h1 h2), h2⟩, fun hno d H4 X4 => qE (.inr (.inr (List.mem_map.mpr ⟨e, List.mem_of_getElem? he, by unfold pairT; rw [hno]; rfl⟩))) d H4 ⟨xHs.trans ((LamX.ExtN.of sq).trans X4.1), X4.2⟩, fun z ez H4 v X4 hv => q' z ez H4 v ⟨(LamX.ExtN.of sq).trans X4.1, X4.2⟩ hv⟩
        have fin : ∀ z, txt o k e.2 = some z → ∀ H4 v, Xt K Hs H4 → RAt (cut H4 (L :: S :: ps)) k v z → (2 ≤ sizeLine ∧ ∀ q3, H4 q3 = none → rAppend (.ref L) [.ref q3] (upd H4 q3 (.tup [.str (keyT e.1), v])) fun _ H5 => D.nx [some (.ref p), some x, some (.ref pth), some (.ref L), some (.ref S), some (kV e.1), some y, some (.str (keyT e.1))] H5) := by
          intro z ez H4 v X4 hv
          refine ⟨by decide, fun q3 hq3 => ?_⟩
          have hL4 : H4 L = some (.lst ys) := X4.1 _ _ hLs fun _ z => nomatch z
          have hS4 := X4.1 _ _ hSs fun _ z => nS z
          have nq3 : q3 ∉ L :: S :: ps := HasX.new (fun c hc => by
            rcases List.mem_cons.mp hc with z | hc
            · rw [z]; exact ⟨_, hL4, fun _ z => nomatch z⟩
            · rcases List.mem_cons.mp hc with z | hc
              · rw [z]; exact ⟨_, hS4, fun _ z => nS z⟩
              · obtain ⟨u, h1, h2⟩ := hps c hc
                exact ⟨u, X4.1 _ _ (xHs c u h1 h2) h2, h2⟩) hq3
          have nu3 := Same.nu (o := .tup [.str (keyT e.1), v]) hq3
          refine ⟨L, ys, _, rfl, rfl, nu3 _ _ hL4, small1000 (by omega), ?_⟩
          rw [eD]
          have cc : LamX.ExtN (cut H4 (L :: S :: ps)) (cut (upd (upd H4 q3 (.tup [.str (keyT e.1), v])) L (.lst (ys ++ [.ref q3]))) (L :: S :: ps)) := by
            rw [cut_up (by simp)]
            exact cut_xs (Xs.same nu3)
          have cA : LamX.ExtN (cut H' (L :: S :: ps)) (cut (upd (upd H4 q3 (.tup [.str (keyT e.1), v])) L (.lst (ys ++ [.ref q3]))) (L :: S :: ps)) := by
            refine LamX.ExtN.trans ?_ cc
            rw [← cS]
            exact cut_xs (Xs.of X4.1)
          refine ⟨⟨_, _, _, rfl⟩, ((((x1.trans xS).trans (Xs.of X4.1)).trans (Xs.same nu3)).trans (Xs.up (by simp))), tabs_but (X4.2.ext nu3) (nu3 _ _ hL4) (fun _ z => nomatch z) (fun q z => nomatch z) (fun c u n e => by rw [upd_ne n]; exact e),
            ys ++ [.ref q3], zs ++ [rstr (keyT e.1) ++ ":" ++ z], _, _, upd_same, (by rw [upd_ne nLS.symm]; exact nu3 _ _ hS4), ?_, (by rw [List.length_append, hyl]; rfl), fun nm => ?_, Paired.snoc (Paired.mapP hpr fun _ _ q => PairR.x cA q) ⟨q3, keyT e.1, v, z, rfl, ?_, keyT_len ok1, RAt.x cc hv, txt_len ok2 ez, rfl⟩, ?_, fun hd => ?_⟩
          · split <;> omega
          · rw [take_snoc he, List.map_append, key_rr, hSf, ← Bool.decide_or]
            exact decide_eq_decide.mpr (by simp)
          · rw [cut_up (by simp)]
            exact cut_at nq3 upd_same
          · rw [take_snoc he, List.map_append, hmap, List.map_append]
            simp only [List.map_cons, List.map_nil]
            unfold pairT
            rw [ez]
            rfl
          · rw [take_snoc he, List.map_append]
            exact List.nodup_append.mpr ⟨hnd hd, by simp, fun a ha b hb z => hnew hd (by simp only [List.map_cons, List.map_nil, List.mem_singleton] at hb; rw [← hb, ← z]; exact ha)⟩
        have hPs := sqT_x xHs hP
        refine ⟨_, rfl, .inl ⟨rfl, _, SqL.of hLs⟩, _, rfl, _, rfl, p, dw, _, rfl, hWs, rfl, _, rfl, _, rfl, _, rfl, (by show 1 ≤ sizeLine; decide), fun q2 hq2 => ?_⟩
        have nu := Same.nu (o := .tup [kV e.1]) hq2
        exact ⟨pth, q2, xs, [kV e.1], rfl, rfl, sqT_x (LamX.ExtN.of nu) hPs, SqT.of upd_same, (show xs.length + 1 ≤ sizeLine from Nat.le_of_lt (small1000 (n := xs.length + 1) (by omega))),
          fun _ => call q2 [kV e.1] _ _ nu (SqT.of upd_same) (by simp) fin,
          fun _ z => (nomatch z),
          fun _ _ q3 hq3 => call q3 (xs ++ [kV e.1]) _ _ (nu.trans (Same.nu hq3)) (SqT.of upd_same) (by simp) fin⟩
      -- name in seen
      refine ⟨_, rfl, _, rfl, .inr (keyT e.1), S, Sf, n, rfl, rfl, hSi, _, rfl, ?_⟩
      have refused : ∀ {Hh : Hp} {pp : V} {r : Str}, LamX.ExtN H Hh → LamX.Tabs (TT K) Hh → Ref K H E → _ := fun {Hh pp r} sh Th hr => rais_U T (H := Hh) (r := .str r) (pth := pp) (E := E) fun d H'' s3 => hr d H'' ⟨sh.trans (LamX.ExtN.of s3), Th.ext s3⟩
      cases hz : (Sf (.inr (keyT e.1)) && (o.dk == "refuse")) with
      | true =>
        obtain ⟨z1, z2⟩ := Bool.and_eq_true_iff.mp hz
        have hd : dup o le = true := dup_at z2 he (by rw [hSf] at z1; exact of_decide_eq_true z1)
        refine ite2 (fun _ => ⟨_, rfl, p, _, _, _, _, rfl, hWi, T.cl_Writer, T.a_Writer_double_keys, rfl, rfl, _, rfl, ?_⟩) (fun z => absurd z (by rw [z1]; simp))
        rw [strEq, z2]
        refine iteT ⟨_, rfl, _, rfl, (by show 1 ≤ sizeLine; decide), fun q2 hq2 => ?_⟩
        have nu := Same.nu (o := .tup [kV e.1]) hq2
        exact ⟨pth, q2, xs, [kV e.1], rfl, rfl, sqT_x (LamX.ExtN.of nu) hPi, SqT.of upd_same, (show xs.length + 1 ≤ sizeLine from Nat.le_of_lt (small1000 (n := xs.length + 1) (by omega))), fun _ => refused (xH.trans (LamX.ExtN.of nu)) (T1.ext nu) (qE (.inr (.inl hd))),
          fun _ z => (nomatch z), fun _ _ q3 hq3 => refused (xH.trans (LamX.ExtN.of (nu.trans (Same.nu hq3)))) (T1.ext (nu.trans (Same.nu hq3))) (qE (.inr (.inl hd)))⟩
      | false =>
        have hnew : (o.dk == "refuse") = true → keyT e.1 ∉ (le.take i).map fun e => keyT e.1 := fun z m => by
          rw [z, Bool.and_true, hSf] at hz
          exact absurd m (of_decide_eq_false hz)
        refine ite2 (fun z1 => ⟨_, rfl, p, _, _, _, _, rfl, hWi, T.cl_Writer, T.a_Writer_double_keys, rfl, rfl, _, rfl, ?_⟩) (fun _ => iteF ?_)
        · rw [strEq]
          have z1 : Sf (.inr (keyT e.1)) = true := z1
          have z2 : (o.dk == "refuse") = false := by
            rw [z1, Bool.true_and] at hz
            exact hz
          rw [z2]
          refine iteF ?_
          refine ⟨_, rfl, ⟨S, Sf, n, rfl, hSi⟩, _, rfl, S, .inr (keyT e.1), Sf, n, rfl, rfl, hSi, (by show n + 1 < 4096; omega), ?_⟩
          generalize hHs : upd H' S (SetK _ _ S _ _) = Hs
          have hSs : Hs S = some (SetK P w S (fun j => Sf j || decide (j = .inr (keyT e.1))) (if Sf (.inr (keyT e.1)) = true then n else n + 1)) := by rw [← hHs]; exact upd_same
          have sS : ∀ c u, c ≠ S → H' c = some u → Hs c = some u := fun c u n e1 => by rw [← hHs, upd_ne n]; exact e1
          have cS : cut Hs (L :: S :: ps) = cut H' (L :: S :: ps) := by rw [← hHs]; exact cut_up (by simp)
          exact turn rfl hSs sS cS (by rw [← hHs]; exact Xs.up (by simp)) hnew
        · refine ⟨_, rfl, ⟨S, Sf, n, rfl, hSi⟩, _, rfl, S, .inr (keyT e.1), Sf, n, rfl, rfl, hSi, (by show n + 1 < 4096; omega), ?_⟩
          generalize hHs : upd H' S (SetK _ _ S _ _) = Hs
          have hSs : Hs S = some (SetK P w S (fun j => Sf j || decide (j = .inr (keyT e.1))) (if Sf (.inr (keyT e.1)) = true then n else n + 1)) := by rw [← hHs]; exact upd_same
          have sS : ∀ c u, c ≠ S → H' c = some u → Hs c = some u := fun c u n e1 => by rw [← hHs, upd_ne n]; exact e1
          have cS : cut Hs (L :: S :: ps) = cut H' (L :: S :: ps) := by rw [← hHs]; exact cut_up (by simp)
          exact turn rfl hSs sS cS (by rw [← hHs]; exact Xs.up (by simp)) hnew
    · rintro σ H' ⟨⟨u, v, y0, rfl⟩, x1, T1, ys, zs, Sf, n, hLi, hSi, hn, hyl, hSf, hpr, hmap, hnd⟩
      rw [List.take_of_length_le (by omega)] at hmap hnd
      have xH : LamX.ExtN H H' := fun c u e2 n => by
        refine x1 c u ?_ (X3.1 c u (s2 c u e2) n) n
        simp only [List.mem_cons, List.not_mem_nil, or_false, not_or]
        exact ⟨ne_of_none e2 hL, ne_of_none e2 hS0⟩
      refine ⟨_, rfl, q zs hmap ?_ H' L ys hb ⟨xH, T1⟩ hL hLi (Paired.mapP hpr fun _ _ q => PairR.x (LamX.ExtN.of (cut_mono (by intro b; simp only [List.mem_cons]; rintro (h | h); exact .inl h; exact .inr (.inr h)))) q)⟩
      unfold dup
      cases hd : (o.dk == "refuse") with
      | false => rfl
      | true => rw [decide_eq_true (hnd hd)]; rfl
end
end Kt
set_option Elab.async false
set_option linter.all false
set_option maxRecDepth 100000
set_option maxHeartbeats 4000000
namespace Kt
open PySem PySem.Spec PyProof.Rows L2 Rz
section
variable {P : Program} {w : World} {K : PySem.W.Frag} {mg : Str → Option Value} {base : Heap}
theorem recGdN {P : Program} {w : World} {K : PySem.W.Frag} {mg : Str → Option Value} {base : Heap} {f : Addr} {ps : List Str} {CY : CXT} {sp : Nat → Sp} (lev : Nat → Nat) (zero : ∀ l, Gd P w K base mg CY l f ps [] fun _ _ _ _ => False) (step : ∀ k, Gd P w K base mg CY (lev k) f ps [] (prv sp k) → Gd P w K base mg CY (lev (k + 1)) f ps [] (sp k)) :
    ∀ k, Gd P w K base mg CY (lev (k + 1)) f ps [] (sp k)
  | 0 => step 0 (zero _)
  | k + 1 => step (k + 1) (recGdN lev zero step k)
theorem at_flat {C : Addr} {G : Hp} {k : Nat} {x : V} {d : Val} (h : VAt C G k x d) (n1 : ∀ t l, d ≠ .seq t l) (n2 : ∀ es, d ≠ .tab es) : flat d = some x := by
  cases k with
  | zero => exact h
  | succ k =>
    rcases h with h | ⟨t', l', a, xs, e, _⟩ | ⟨es', p, dx, dd, od, kvs, e, _⟩
    · exact h
    · exact absurd e (n1 _ _)
    · exact absurd e (n2 _)
theorem txt_leaf {o : Opt} {k : Nat} {d : Val} (n1 : ∀ t l, d ≠ .seq t l) (n2 : ∀ es, d ≠ .tab es) : txt o k d = txtF o d := by
  cases k with
  | zero => rfl
  | succ k =>
    cases d with
    | seq t l => exact absurd rfl (n1 _ _)
    | tab es => exact absurd rfl (n2 _)
    | _ => rfl
theorem ok_leaf {k : Nat} {d : Val} (h : Ok k d) (n1 : ∀ t l, d ≠ .seq t l) (n2 : ∀ es, d ≠ .tab es) : okF d := by
  cases k with
  | zero => exact h
  | succ k =>
    rcases h with h | ⟨t', l', e, _⟩ | ⟨es', e, _⟩
    · exact h
    · exact absurd e (n1 _ _)
    · exact absurd e (n2 _)
theorem RAt.leaf {H : Hp} {k : Nat} {v : V} {z : Str} (h : RF v z) : RAt H k v z := by
  cases k with
  | zero => exact h
  | succ k => exact .inl h
theorem st_raw_at (T : Tx w K mg) (hTB : LamX.TabB base mg (He.codeOf K keD) (keT K)) (k : Nat) (G_Writer_raw_at : Gd P w K base mg (CX P w) (2 * k + 6) (He.fAd K d_Writer_raw_at.at_) ["self", "value", "path"] [] (prv (spRaw K) k)) :
    Gd P w K base mg (CX P w) (2 * (k + 1) + 6) (He.fAd K d_Writer_raw_at.at_) ["self", "value", "path"] [] (spRaw K k) := by
  have G_Unwritable_init := ok_Unwritable_init (P := P) (w := w) (base := base) T
  have G_is_integer := ok_is_integer (P := P) (w := w) (base := base) T
  have G_Writer_raw_pairs : Gd P w K base mg (CX P w) (2 * k + 7) (He.fAd K d_Writer_raw_pairs.at_) ["self", "table", "path"] [] (prv (spPairs K) k) := by
    cases k with
    | zero => exact mkGdXF (T.f_Writer_raw_pairs) sc_Writer_raw_pairs (fun _ _ _ _ _ _ us hl => match us, hl with | [_, _, _], _ => rfl) _
    | succ k => exact ok_Writer_raw_pairs T hTB k _ (by omega) G_Writer_raw_at
  refine mkGdX (T.f_Writer_raw_at) sc_Writer_raw_at (fun vs H Q E h => ?_) (fun _ _ _ _ _ _ us hl => match us, hl with | [_, _, _], _ => rfl) (fun cdv A outer s H vs Q E hr h => ?_)
  · obtain ⟨p, x, pth, xs, o, d, G, ps, rfl, _⟩ := h
    rfl
  · have hu := hu_of hr
    have tk : Takes _ (fun c d _ H => E c d H) := takes_of (X := cxOf (CX P w) P w K mg base N_Writer_raw_at d_Writer_raw_at.qual (defScope s_Writer_raw_at) (He.fAd K d_Writer_raw_at.at_) cdv A outer s H E) rfl rfl rfl rfl
    have px := passes_call (E := E) tk fun _ _ _ _ h => h
    obtain ⟨p, x, pth, xs, o, d, G, ps, rfl, hW, hG, hv0, ok, hP, hxs, hT, hps, qE, q⟩ := h
    obtain ⟨dw, hW⟩ := hW
    have hv := VAt.x hG hv0
    refine ⟨_, (pss_cons (ps_if (pt_val (pe_callB call_isi (by rfl) T.n_isinstance (by decide +kernel) (pa_cons (pv 1) (pa_cons (pe_glob (v := .ref (He.ga K "Table")) rfl T.g_Table rfl) pa_nil)))) (pss_one (ps_ret (pe_tup (pa_cons pe_str (pa_cons (pe_methG (pv 0) T.cl_Writer T.m_Writer_raw_pairs G_Writer_raw_pairs (hr.mono (by first | decide | omega)) px (pa_cons (pv 1) (pa_cons (pv 2) pa_nil))) pa_nil))))) pss_nil)
      (pss_cons (ps_if (PW.pt (pw_and (pt_val (pe_callB call_isi (by rfl) T.n_isinstance (by decide +kernel) (pa_cons (pv 1) (pa_cons (pe_bltn (v := .ty "tuple") (u := .type "tuple") (by rfl) T.n_tuple (by decide +kernel) rfl) pa_nil)))) (pw_and1 (pt_cmpR op_eq (pe_fld (pv 0) rfl) pe_str (nomark _))))) (pss_one (ps_raise rfl tk (pmk_G T.ex' G_Unwritable_init T.g_Unwritable (hr.mono (by first | decide | omega)) pass0 (pa_cons pe_str (pa_cons (pv 2) pa_nil))))) pss_nil)
      (pss_cons (ps_if (pt_val (pe_callB call_isiT (by rfl) T.n_isinstance (by decide +kernel) (pa_cons (pv 1) (pa_cons (pe_tup (pa_cons (pe_bltn (v := .ty "list") (u := .type "list") (by rfl) T.n_list (by decide +kernel) rfl) (pa_cons (pe_bltn (v := .ty "tuple") (u := .type "tuple") (by rfl) T.n_tuple (by decide +kernel) rfl) pa_nil))) pa_nil)))) (pss_one (ps_ret (pe_tup (pa_cons pe_str (pa_cons (pe_lcx (own := [("index", 3), ("item", 4)]) (g := gTup K 2 (gCons (gName 3) (gCons (gName 4) gNil))) (tt := tYes) rfl rfl tk rfl sc_Writer_raw_at.nd (pi_enumB (by rfl) T.n_enumerate (pa_cons (pv 1) pa_nil)) (blkOk_by (own := [("index", 3), ("item", 4)]) (N := N_Writer_raw_at) (sc := defScope s_Writer_raw_at) (by decide +kernel)) (fun _ _ _ _ _ _ => (pg_tup rfl (pgs_cons (pg_name (i := 3) sc_Writer_raw_at.nd rfl (Or.inl rfl)) (pgs_cons (pg_name (i := 4) sc_Writer_raw_at.nd rfl (Or.inl rfl)) pgs_nil)))) (fun _ _ _ _ _ _ => pts_nil) (fun _ _ _ _ _ _ px => (pe_methG (pv 0) T.cl_Writer T.m_Writer_raw_at G_Writer_raw_at (hr.mono (by first | decide | omega)) px (pa_cons (pv 4) (pa_cons (pe_op (r := rCatA K) op_catA (pv 2) (pe_tup (pa_cons (pv 3) pa_nil))) pa_nil))))) pa_nil))))) pss_nil)
      (pss_cons (ps_if (PW.pt (pw_and (pt_val (pe_callG G_is_integer T.g_is_integer (hr.mono (by first | decide | omega)) pass0 (pa_cons (pv 1) pa_nil))) (pw_and (pt_cmpR op_gt (pe_callB call_len_str (by rfl) T.n_len PySem.boot_len (pa_cons (pe_callTy call_str_int (by rfl) T.n_str (by decide +kernel) (pa_cons (pe_callB call_abs (by rfl) T.n_abs (by decide +kernel) (pa_cons (pv 1) pa_nil)) pa_nil)) pa_nil)) (ClX.pe_cval (pe_glob (v := .ref (He.ga K "Writer")) rfl T.g_Writer rfl)) (nomark _)) (pw_and1 (pt_cmpR op_ne (pe_fld (pv 0) rfl) pe_str (nomark _)))))) (pss_cons (ps_if (pt_cmpR op_eq (pe_fld (pv 0) rfl) pe_str (nomark _)) (pss_one (ps_raise rfl tk (pmk_G T.ex' G_Unwritable_init T.g_Unwritable (hr.mono (by first | decide | omega)) pass0 (pa_cons pe_str (pa_cons (pv 2) pa_nil))))) pss_nil)
      (pss_one (ps_ret (pe_callTy call_str_int (by rfl) T.n_str (by decide +kernel) (pa_cons (pv 1) pa_nil))))) pss_nil)
      (pss_one (ps_ret (pv 1))))))), ?_⟩
    obtain ⟨t1, y1, k1⟩ := isiC T (Same.refl H) hv
    obtain ⟨t2, y2, k2⟩ := isi T "tuple" (Same.refl H) hv
    obtain ⟨t3, y3, k3⟩ := isiLT T (Same.refl H) hv
    have refused : ∀ {Hh : Hp} {pp : V} {r : Str}, Same H Hh → Ref K H E → _ := fun {Hh pp r} sh hr => rais_U T (H := Hh) (r := .str r) (pth := pp) (E := E) fun d H'' s3 => hr d H'' ⟨LamX.ExtN.of (sh.trans s3), hT.ext (sh.trans s3)⟩
    refine ⟨_, rfl, x, _, t1, _, _, rfl, .own _, y1, k1, _, rfl, ?_⟩
    cases d with
    | tab es =>
      obtain ⟨j, a, dx, dd, od, kvs, rfl, rfl, _⟩ := at_tab hv
      obtain ⟨h4, hnd, hok⟩ := ok_tab ok
      have okes : okE j es := ⟨h4, hnd, hok⟩
      refine iteT ⟨_, rfl, p, dw, _, rfl, hW, rfl, _, rfl, _, rfl, p, _, pth, xs, o, es, G, ps, rfl, ⟨dw, hW⟩, hG, hv0, okes, hP, by omega, hT, hps, fun hb => qE ?_, fun zs hmap hdup H' L ys hbad X hL hLi hpr => ⟨(by show 2 ≤ sizeLine; decide), fun t ht => ?_⟩⟩
      · show (if bad o es then none else if dup o (ordE o (kept o es)) then none else (allS ((ordE o (kept o es)).map (pairT (txt o j)))).map fun zs => "{" ++ Txt.join "," zs ++ "}") = none
        split
        · rfl
        · split
          · rfl
          · rcases hb with h | h | h
            · contradiction
            · contradiction
            · rw [allS_none.mpr h]; rfl
      · have nu := Same.nu (o := .tup [.str "table", .ref L]) ht
        have nt : t ∉ ps := (hps.x X.1).new ht
        have nL : L ∉ ps := hps.new hL
        refine q ("{" ++ Txt.join "," zs ++ "}") ?_ _ _ (X.of nu) (.inr (.inr ⟨t, L, ys, zs, rfl, cut_at nt upd_same, cut_at nL (nu _ _ hLi), ?_, Paired.mapP hpr fun _ _ q => PairR.x (LamX.ExtN.of fun b u e => ?_) q, rfl⟩))
        · show (if bad o es then none else if dup o (ordE o (kept o es)) then none else (allS ((ordE o (kept o es)).map (pairT (txt o j)))).map fun zs => "{" ++ Txt.join "," zs ++ "}") = _
          rw [if_neg (by rw [hbad]; simp), if_neg (by rw [hdup]; simp), allS_some.mpr hmap]
          rfl
        · have e1 := congrArg List.length hmap
          rw [List.length_map, List.length_map] at e1
          rw [← e1]
          exact Nat.le_trans kept_len h4
        · exact cut_put ht _ _ (cut_mono (fun b hb => List.mem_cons_of_mem _ hb) _ _ e)
    | seq t l =>
      obtain ⟨j, a, vs, rfl, rfl, ha, hx⟩ := at_list hv
      obtain ⟨_, a', vs', e1, e2, ha', hx0⟩ := at_list hv0
      obtain ⟨h4, hok⟩ := ok_list ok
      have hS := sqB_of (K := K) ha
      rw [show (tyS (Val.seq t l) == "Table") = false by cases t <;> rfl]
      refine iteF ⟨_, rfl, _, _, t2, _, _, rfl, .ty _, y2, k2, _, rfl, ?_⟩
      have etx : txt o (j + 1) (.seq t l) = if !t && o.tp == "refuse" then none else (allS (l.map (txt o j))).map fun zs => "[" ++ Txt.join "," zs ++ "]" := rfl
      have hln := Paired.length hx
      cases t with
      | true =>
        have hno : (!true && o.tp == "refuse") = false := rfl
        refine iteF ⟨_, rfl, (by show 2 ≤ sizeLine; decide), fun q1 hq1 => ?_⟩
        have nu := Same.nu (o := .tup [.ty "list", .ty "tuple"]) hq1
        obtain ⟨t3, y3, k3⟩ := isiLT T nu hv
        refine ⟨_, q1, _, t3, _, _, rfl, upd_same, .cons (.ty _) (.cons (.ty _) .nil), y3, k3, _, rfl, iteT ?_⟩
        have hS1 : SqB K true (upd H q1 (.tup [.ty "list", .ty "tuple"])) a vs := sqB_of (nu _ _ ha)
        have nT : ∀ q, sqO true vs ≠ .tbl q := fun _ z => by cases z
        have hW1 := nu _ _ hW
        refine ⟨_, rfl, true, a, vs, rfl, hS1, fun D hD => lc_enumB (fun i H' => Xs [D] (upd H q1 (.tup [.ty "list", .ty "tuple"])) H' ∧ LamX.Tabs (TT K) H' ∧ ∃ ys zs, H' D = some (.lst ys) ∧ Paired (RAt (cut H' (D :: ps)) j) ys zs ∧ (l.take i).map (txt o j) = zs.map some)
          ⟨Xs.same (Same.nu hD), hT.ext (nu.trans (Same.nu hD)), [], [], upd_same, .nil, by rw [List.take_zero]; rfl⟩ (fun i H' _ ⟨x1, _⟩ => sqB_of (x1 a _ (by simp [ne_of_none (nu _ _ ha) hD]) (nu _ _ ha) nT)) ?_ ?_⟩
        · rintro i y U H' hy ⟨x1, T1, ys, zs, hd, hpr, hmap⟩ hU
          obtain ⟨e, he, hye⟩ := Paired.at hx hy
          have hi4 : i < 4 := by have := lt_of_at he; omega
          have l1 := Paired.length hpr
          have l2 := congrArg List.length hmap
          rw [List.length_map, List.length_map, List.length_take] at l2
          have xH : LamX.ExtN H H' := fun c u e2 n => x1 c u (by simp [ne_of_none (nu _ _ e2) hD]) (nu _ _ e2) n
          have nuU := Same.nu (o := .tup [.int (i : Nat), y]) hU
          have xU : LamX.ExtN H (upd H' U (.tup [.int (i : Nat), y])) := xH.trans (LamX.ExtN.of nuU)
          have fin : ∀ z, txt o j e = some z → ∀ H4 v, Xt K (upd H' U (.tup [.int (i : Nat), y])) H4 → RAt (cut H4 (D :: ps)) j v z → ∃ acc, H4 D = some (.lst acc) ∧ acc.length < sizeLine ∧ (Xs [D] (upd H q1 (.tup [.ty "list", .ty "tuple"])) (upd H4 D (.lst (acc ++ [v]))) ∧ LamX.Tabs (TT K) (upd H4 D (.lst (acc ++ [v]))) ∧ ∃ ys zs, (upd H4 D (.lst (acc ++ [v]))) D = some (.lst ys) ∧ Paired (RAt (cut (upd H4 D (.lst (acc ++ [v]))) (D :: ps)) j) ys zs ∧ (l.take (i + 1)).map (txt o j) = zs.map some) := by
            intro z ez H4 v X4 hv4
            have hD4 : H4 D = some (.lst ys) := X4.1 _ _ (nuU _ _ hd) fun _ z => nomatch z
            refine ⟨ys, hD4, small1000 (by omega), ((x1.trans (Xs.same nuU)).trans (Xs.of X4.1)).trans (Xs.up (by simp)), tabs_but X4.2 hD4 (fun _ z => nomatch z) (fun q z => nomatch z) (fun c u n e => by rw [upd_ne n]; exact e), ys ++ [v], zs ++ [z], upd_same, ?_, ?_⟩
            · rw [cut_up (by simp)]
              exact Paired.snoc (Paired.mapP hpr fun _ _ q => RAt.x (cut_xs ((Xs.same nuU).trans (Xs.of X4.1))) q) hv4
            · rw [take_snoc he, List.map_append, hmap, List.map_append]
              simp only [List.map_cons, List.map_nil]
              rw [ez]
          have call : ∀ (pp : Addr) (xs' : List V) (Hq : Hp) (Q' : VK), Same (upd H' U (.tup [.int (i : Nat), y])) Hq → SqT K Hq pp xs' → xs'.length ≤ xs.length + 1 → (∀ z, txt o j e = some z → ∀ H4 v, Xt K (upd H' U (.tup [.int (i : Nat), y])) H4 → RAt (cut H4 (D :: ps)) j v z → Q' v H4) → spRaw K j [.ref p, y, .ref pp] Hq Q' E := fun pp xs' Hq Q' sq hq hl q' =>
            ⟨p, y, pp, xs', o, e, H, D :: ps, rfl, ⟨dw, sq _ _ (xU _ _ hW fun _ z => nomatch z)⟩, xU.trans (LamX.ExtN.of sq), hye, hok e (List.mem_of_getElem? he), hq, by omega, (T1.ext nuU).ext sq, fun c hc => by
              rcases List.mem_cons.mp hc with z | hc
              · rw [z]; exact ⟨_, sq _ _ (nuU _ _ hd), fun _ z => nomatch z⟩
              · obtain ⟨u, h1, h2⟩ := hps c hc
                exact ⟨u, sq _ _ (xU c u h1 h2), h2⟩, fun hn d H4 X4 => qE (by rw [etx, hno, allS_none.mpr (List.mem_map.mpr ⟨e, List.mem_of_getElem? he, hn⟩)]; rfl) d H4 ⟨(xU.trans (LamX.ExtN.of sq)).trans X4.1, X4.2⟩, fun z ez H4 v X4 hv => q' z ez H4 v ⟨(LamX.ExtN.of sq).trans X4.1, X4.2⟩ hv⟩
          have hPs := sqT_x xU hP
          refine ⟨U, _, rfl, SqT.of upd_same, rfl, _, _, rfl, _, _, rfl, rfl, rfl, _, rfl, p, dw, _, rfl, xU _ _ hW (fun _ z => nomatch z), rfl, _, rfl, _, rfl, _, rfl, (by show 1 ≤ sizeLine; decide), fun q2 hq2 => ?_⟩
          have nu2 := Same.nu (o := .tup [.int (i : Nat)]) hq2
          exact ⟨pth, q2, xs, [.int (i : Nat)], rfl, rfl, sqT_x (LamX.ExtN.of nu2) hPs, SqT.of upd_same, (show xs.length + 1 ≤ sizeLine from Nat.le_of_lt (small1000 (n := xs.length + 1) (by omega))),
            fun _ => call q2 [.int (i : Nat)] _ _ nu2 (SqT.of upd_same) (by simp) fin,
            fun _ z => (nomatch z),
            fun _ _ q3 hq3 => call q3 (xs ++ [.int (i : Nat)]) _ _ (nu2.trans (Same.nu hq3)) (SqT.of upd_same) (by simp) fin⟩
        · rintro H' ⟨x1, T1, ys, zs, hd, hpr, hmap⟩
          rw [List.take_of_length_le (by omega)] at hmap
          refine ⟨(by show 2 ≤ sizeLine; decide), fun t ht => ?_⟩
          have xH : LamX.ExtN H H' := fun c u e2 n => x1 c u (by simp [ne_of_none (nu _ _ e2) hD]) (nu _ _ e2) n
          have nuT := Same.nu (o := .tup [.str "row", .ref D]) ht
          have nt : t ∉ ps := (hps.x xH).new ht
          have nD : D ∉ ps := (hps.x (LamX.ExtN.of nu)).new hD
          have e1 := congrArg List.length hmap
          rw [List.length_map, List.length_map] at e1
          refine q ("[" ++ Txt.join "," zs ++ "]") (by rw [etx, hno, allS_some.mpr hmap]; rfl) _ _ ⟨xH.trans (LamX.ExtN.of nuT), T1.ext nuT⟩ (.inr (.inl ⟨t, D, ys, zs, rfl, cut_at nt upd_same, cut_at nD (nuT _ _ hd), by omega, ?_, Paired.mapP hpr fun _ _ q => RAt.x (LamX.ExtN.of fun b u e => cut_put ht _ _ (cut_mono (fun b hb => List.mem_cons_of_mem _ hb) _ _ e)) q, rfl⟩))
          intro z hz
          have m1 : some z ∈ l.map (txt o j) := by rw [hmap]; exact List.mem_map.mpr ⟨z, hz, rfl⟩
          obtain ⟨e, he, ez⟩ := List.mem_map.mp m1
          exact txt_len (hok e he) ez

      | false =>
        refine iteT ⟨_, rfl, p, _, _, _, _, rfl, hW, T.cl_Writer, T.a_Writer_tuples, rfl, rfl, _, rfl, ?_⟩
        rw [strEq]
        cases ht : (o.tp == "refuse") with
        | true => exact iteT ⟨_, rfl, refused (Same.refl H) (qE (by rw [etx, ht]; rfl))⟩
        | false =>
          have hno : (!false && o.tp == "refuse") = false := ht
          refine iteF ⟨_, rfl, (by show 2 ≤ sizeLine; decide), fun q1 hq1 => ?_⟩
          have nu := Same.nu (o := .tup [.ty "list", .ty "tuple"]) hq1
          obtain ⟨t3, y3, k3⟩ := isiLT T nu hv
          refine ⟨_, q1, _, t3, _, _, rfl, upd_same, .cons (.ty _) (.cons (.ty _) .nil), y3, k3, _, rfl, iteT ?_⟩
          have hS1 : SqB K false (upd H q1 (.tup [.ty "list", .ty "tuple"])) a vs := sqB_of (nu _ _ ha)
          have nT : ∀ q, sqO false vs ≠ .tbl q := fun _ z => by cases z
          have hW1 := nu _ _ hW
          refine ⟨_, rfl, false, a, vs, rfl, hS1, fun D hD => lc_enumB (fun i H' => Xs [D] (upd H q1 (.tup [.ty "list", .ty "tuple"])) H' ∧ LamX.Tabs (TT K) H' ∧ ∃ ys zs, H' D = some (.lst ys) ∧ Paired (RAt (cut H' (D :: ps)) j) ys zs ∧ (l.take i).map (txt o j) = zs.map some)
            ⟨Xs.same (Same.nu hD), hT.ext (nu.trans (Same.nu hD)), [], [], upd_same, .nil, by rw [List.take_zero]; rfl⟩ (fun i H' _ ⟨x1, _⟩ => sqB_of (x1 a _ (by simp [ne_of_none (nu _ _ ha) hD]) (nu _ _ ha) nT)) ?_ ?_⟩
          · rintro i y U H' hy ⟨x1, T1, ys, zs, hd, hpr, hmap⟩ hU
            obtain ⟨e, he, hye⟩ := Paired.at hx hy
            have hi4 : i < 4 := by have := lt_of_at he; omega
            have l1 := Paired.length hpr
            have l2 := congrArg List.length hmap
            rw [List.length_map, List.length_map, List.length_take] at l2
            have xH : LamX.ExtN H H' := fun c u e2 n => x1 c u (by simp [ne_of_none (nu _ _ e2) hD]) (nu _ _ e2) n
            have nuU := Same.nu (o := .tup [.int (i : Nat), y]) hU
            have xU : LamX.ExtN H (upd H' U (.tup [.int (i : Nat), y])) := xH.trans (LamX.ExtN.of nuU)
            have fin : ∀ z, txt o j e = some z → ∀ H4 v, Xt K (upd H' U (.tup [.int (i : Nat), y])) H4 → RAt (cut H4 (D :: ps)) j v z → ∃ acc, H4 D = some (.lst acc) ∧ acc.length < sizeLine ∧ (Xs [D] (upd H q1 (.tup [.ty "list", .ty "tuple"])) (upd H4 D (.lst (acc ++ [v]))) ∧ LamX.Tabs (TT K) (upd H4 D (.lst (acc ++ [v]))) ∧ ∃ ys zs, (upd H4 D (.lst (acc ++ [v]))) D = some (.lst ys) ∧ Paired (RAt (cut (upd H4 D (.lst (acc ++ [v]))) (D :: ps)) j) ys zs ∧ (l.take (i + 1)).map (txt o j) = zs.map some) := by
              intro z ez H4 v X4 hv4
              have hD4 : H4 D = some (.lst ys) := X4.1 _ _ (nuU _ _ hd) fun _ z => nomatch z
              refine ⟨ys, hD4, small1000 (by omega), ((x1.trans (Xs.same nuU)).trans (Xs.of X4.1)).trans (Xs.up (by simp)), tabs_but X4.2 hD4 (fun _ z => nomatch z) (fun q z => nomatch z) (fun c u n e => by rw [upd_ne n]; exact e), ys ++ [v], zs ++ [z], upd_same, ?_, ?_⟩
              · rw [cut_up (by simp)]
                exact Paired.snoc (Paired.mapP hpr fun _ _ q => RAt.x (cut_xs ((Xs.same nuU).trans (Xs.of X4.1))) q) hv4
              · rw [take_snoc he, List.map_append, hmap, List.map_append]
                simp only [List.map_cons, List.map_nil]
                rw [ez]
            have call : ∀ (pp : Addr) (xs' : List V) (Hq : Hp) (Q' : VK), Same (upd H' U (.tup [.int (i : Nat), y])) Hq → SqT K Hq pp xs' → xs'.length ≤ xs.length + 1 → (∀ z, txt o j e = some z → ∀ H4 v, Xt K (upd H' U (.tup [.int (i : Nat), y])) H4 → RAt (cut H4 (D :: ps)) j v z → Q' v H4) → spRaw K j [.ref p, y, .ref pp] Hq Q' E := fun pp xs' Hq Q' sq hq hl q' =>
              ⟨p, y, pp, xs', o, e, H, D :: ps, rfl, ⟨dw, sq _ _ (xU _ _ hW fun _ z => nomatch z)⟩, xU.trans (LamX.ExtN.of sq), hye, hok e (List.mem_of_getElem? he), hq, by omega, (T1.ext nuU).ext sq, fun c hc => by
                rcases List.mem_cons.mp hc with z | hc
                · rw [z]; exact ⟨_, sq _ _ (nuU _ _ hd), fun _ z => nomatch z⟩
                · obtain ⟨u, h1, h2⟩ := hps c hc
                  exact ⟨u, sq _ _ (xU c u h1 h2), h2⟩, fun hn d H4 X4 => qE (by rw [etx, hno, allS_none.mpr (List.mem_map.mpr ⟨e, List.mem_of_getElem? he, hn⟩)]; rfl) d H4 ⟨(xU.trans (LamX.ExtN.of sq)).trans X4.1, X4.2⟩, fun z ez H4 v X4 hv => q' z ez H4 v ⟨(LamX.ExtN.of sq).trans X4.1, X4.2⟩ hv⟩
            have hPs := sqT_x xU hP
            refine ⟨U, _, rfl, SqT.of upd_same, rfl, _, _, rfl, _, _, rfl, rfl, rfl, _, rfl, p, dw, _, rfl, xU _ _ hW (fun _ z => nomatch z), rfl, _, rfl, _, rfl, _, rfl, (by show 1 ≤ sizeLine; decide), fun q2 hq2 => ?_⟩
            have nu2 := Same.nu (o := .tup [.int (i : Nat)]) hq2
            exact ⟨pth, q2, xs, [.int (i : Nat)], rfl, rfl, sqT_x (LamX.ExtN.of nu2) hPs, SqT.of upd_same, (show xs.length + 1 ≤ sizeLine from Nat.le_of_lt (small1000 (n := xs.length + 1) (by omega))),
              fun _ => call q2 [.int (i : Nat)] _ _ nu2 (SqT.of upd_same) (by simp) fin,
              fun _ z => (nomatch z),
              fun _ _ q3 hq3 => call q3 (xs ++ [.int (i : Nat)]) _ _ (nu2.trans (Same.nu hq3)) (SqT.of upd_same) (by simp) fin⟩
          · rintro H' ⟨x1, T1, ys, zs, hd, hpr, hmap⟩
            rw [List.take_of_length_le (by omega)] at hmap
            refine ⟨(by show 2 ≤ sizeLine; decide), fun t ht => ?_⟩
            have xH : LamX.ExtN H H' := fun c u e2 n => x1 c u (by simp [ne_of_none (nu _ _ e2) hD]) (nu _ _ e2) n
            have nuT := Same.nu (o := .tup [.str "row", .ref D]) ht
            have nt : t ∉ ps := (hps.x xH).new ht
            have nD : D ∉ ps := (hps.x (LamX.ExtN.of nu)).new hD
            have e1 := congrArg List.length hmap
            rw [List.length_map, List.length_map] at e1
            refine q ("[" ++ Txt.join "," zs ++ "]") (by rw [etx, hno, allS_some.mpr hmap]; rfl) _ _ ⟨xH.trans (LamX.ExtN.of nuT), T1.ext nuT⟩ (.inr (.inl ⟨t, D, ys, zs, rfl, cut_at nt upd_same, cut_at nD (nuT _ _ hd), by omega, ?_, Paired.mapP hpr fun _ _ q => RAt.x (LamX.ExtN.of fun b u e => cut_put ht _ _ (cut_mono (fun b hb => List.mem_cons_of_mem _ hb) _ _ e)) q, rfl⟩))
            intro z hz
            have m1 : some z ∈ l.map (txt o j) := by rw [hmap]; exact List.mem_map.mpr ⟨z, hz, rfl⟩
            obtain ⟨e, he, ez⟩ := List.mem_map.mp m1
            exact txt_len (hok e he) ez

    | int i =>
      refine iteF ⟨_, rfl, x, _, t2, _, _, rfl, .ty _, y2, k2, _, rfl, iteF ?_⟩
      refine ⟨_, rfl, (by show 2 ≤ sizeLine; decide), fun q1 hq1 => ?_⟩
      have nu := Same.nu (o := .tup [.ty "list", .ty "tuple"]) hq1
      obtain ⟨t3, y3, k3⟩ := isiLT T nu hv
      have ex : x = .int i := (Option.some.inj (at_flat hv (fun _ _ z => nomatch z) (fun _ z => nomatch z))).symm
      have et : txt o k (.int i) = txtF o (.int i) := txt_leaf (fun _ _ z => nomatch z) (fun _ z => nomatch z)
      have eo : i.natAbs < 10 ^ 21 := ok_leaf ok (fun _ _ z => nomatch z) (fun _ z => nomatch z)
      refine ⟨x, q1, _, t3, _, _, rfl, upd_same, .cons (.ty _) (.cons (.ty _) .nil), y3, k3, _, rfl, iteF ⟨_, rfl, x, _, H, k, rfl, nu, hv, _, rfl, iteT ?_⟩⟩
      subst ex
      have hW1 := nu _ _ hW
      have plain : txtF o (.int i) = some (istr i) → Q (.int i) (upd H q1 (.tup [.ty "list", .ty "tuple"])) := fun e => q (istr i) (et.trans e) _ _ (Xt.same hT nu) (.leaf (.inr (.inr (.inl ⟨i, rfl, eo, rfl⟩))))
      obtain ⟨dg1, dgu, dg2⟩ := T.dig
      refine ⟨_, rfl, i, rfl, _, rfl, log_of (by split <;> omega), _, rfl, ?_, _, _, _, _, rfl, dg1, dg2, _, _, rfl, rfl, ?_⟩
      · refine Nat.le_trans (istr_len (i := if i < 0 then -i else i) (by split <;> omega)) (by decide)
      refine ⟨_, rfl, ?_⟩
      refine ite2 (fun hl => ?_) (fun hl => ⟨_, rfl, plain ?_⟩)
      · have hl : longI i = true := hl
        refine ⟨_, rfl, p, _, _, _, _, rfl, hW1, T.cl_Writer, T.a_Writer_long_numbers, rfl, rfl, _, rfl, ?_⟩
        rw [strEq]
        cases hk : (o.ln == "keep") with
        | true =>
          refine iteF ⟨_, rfl, plain ?_⟩
          show (if longI i && !(o.ln == "keep") then (if o.ln = "refuse" then none else some (rstr (istr i))) else some (istr i)) = some (istr i)
          rw [hk, Bool.not_true, Bool.and_false]
          rfl
        | false =>
          have e0 : txtF o (.int i) = if o.ln = "refuse" then none else some (rstr (istr i)) := by
            show (if longI i && !(o.ln == "keep") then (if o.ln = "refuse" then none else some (rstr (istr i))) else some (istr i)) = _
            rw [hk, hl]
            rfl
          refine iteT ⟨_, rfl, p, _, _, _, _, rfl, hW1, T.cl_Writer, T.a_Writer_long_numbers, rfl, rfl, _, rfl, ?_⟩
          rw [strEq]
          cases hr2 : (o.ln == "refuse") with
          | true => exact iteT ⟨_, rfl, refused nu (qE (et.trans (by rw [e0, if_pos (eq_of_beq hr2)])))⟩
          | false =>
            refine iteF ⟨_, rfl, i, rfl, log_of eo, q (rstr (istr i)) (et.trans (by rw [e0, if_neg (fun z => by rw [z] at hr2; simp at hr2)])) _ _ (Xt.same hT nu) (.leaf (.inr (.inr (.inr ⟨istr i, rfl, Nat.le_trans (istr_len eo) (by decide), rfl⟩))))⟩
      · have hl : longI i = false := Bool.eq_false_iff.mpr hl
        show (if longI i && !(o.ln == "keep") then (if o.ln = "refuse" then none else some (rstr (istr i))) else some (istr i)) = some (istr i)
        rw [hl]
        rfl
    | non =>
      refine iteF ⟨_, rfl, x, _, t2, _, _, rfl, .ty _, y2, k2, _, rfl, iteF ?_⟩
      refine ⟨_, rfl, (by show 2 ≤ sizeLine; decide), fun q1 hq1 => ?_⟩
      have nu := Same.nu (o := .tup [.ty "list", .ty "tuple"]) hq1
      obtain ⟨t3, y3, k3⟩ := isiLT T nu hv
      have ex := Option.some.inj (at_flat hv (fun _ _ z => nomatch z) (fun _ z => nomatch z))
      have eo := ok_leaf ok (fun _ _ z => nomatch z) (fun _ z => nomatch z)
      refine ⟨x, q1, _, t3, _, _, rfl, upd_same, .cons (.ty _) (.cons (.ty _) .nil), y3, k3, _, rfl, iteF ⟨_, rfl, x, _, H, k, rfl, nu, hv, _, rfl, iteF ⟨_, rfl, q _ (txt_leaf (fun _ _ z => nomatch z) (fun _ z => nomatch z)) _ _ (Xt.same hT nu) (.leaf ?_)⟩⟩⟩
      subst ex
      exact .inl ⟨rfl, rfl⟩
    | bl b =>
      refine iteF ⟨_, rfl, x, _, t2, _, _, rfl, .ty _, y2, k2, _, rfl, iteF ?_⟩
      refine ⟨_, rfl, (by show 2 ≤ sizeLine; decide), fun q1 hq1 => ?_⟩
      have nu := Same.nu (o := .tup [.ty "list", .ty "tuple"]) hq1
      obtain ⟨t3, y3, k3⟩ := isiLT T nu hv
      have ex := Option.some.inj (at_flat hv (fun _ _ z => nomatch z) (fun _ z => nomatch z))
      have eo := ok_leaf ok (fun _ _ z => nomatch z) (fun _ z => nomatch z)
      refine ⟨x, q1, _, t3, _, _, rfl, upd_same, .cons (.ty _) (.cons (.ty _) .nil), y3, k3, _, rfl, iteF ⟨_, rfl, x, _, H, k, rfl, nu, hv, _, rfl, iteF ⟨_, rfl, q _ (txt_leaf (fun _ _ z => nomatch z) (fun _ z => nomatch z)) _ _ (Xt.same hT nu) (.leaf ?_)⟩⟩⟩
      subst ex
      exact .inr (.inl ⟨b, rfl, by cases b <;> rfl⟩)
    | str z =>
      refine iteF ⟨_, rfl, x, _, t2, _, _, rfl, .ty _, y2, k2, _, rfl, iteF ?_⟩
      refine ⟨_, rfl, (by show 2 ≤ sizeLine; decide), fun q1 hq1 => ?_⟩
      have nu := Same.nu (o := .tup [.ty "list", .ty "tuple"]) hq1
      obtain ⟨t3, y3, k3⟩ := isiLT T nu hv
      have ex := Option.some.inj (at_flat hv (fun _ _ z => nomatch z) (fun _ z => nomatch z))
      have eo := ok_leaf ok (fun _ _ z => nomatch z) (fun _ z => nomatch z)
      refine ⟨x, q1, _, t3, _, _, rfl, upd_same, .cons (.ty _) (.cons (.ty _) .nil), y3, k3, _, rfl, iteF ⟨_, rfl, x, _, H, k, rfl, nu, hv, _, rfl, iteF ⟨_, rfl, q _ (txt_leaf (fun _ _ z => nomatch z) (fun _ z => nomatch z)) _ _ (Xt.same hT nu) (.leaf ?_)⟩⟩⟩
      subst ex
      exact .inr (.inr (.inr ⟨z, rfl, eo, rfl⟩))
theorem ok_Writer_raw_at (T : Tx w K mg) (hTB : LamX.TabB base mg (He.codeOf K keD) (keT K)) : ∀ k, Gd P w K base mg (CX P w) (2 * (k + 1) + 6) (He.fAd K d_Writer_raw_at.at_) ["self", "value", "path"] [] (spRaw K k) :=
  recGdN (fun k => 2 * k + 6) (fun l => mkGdXF (T.f_Writer_raw_at) sc_Writer_raw_at (fun _ _ _ _ _ _ us hl => match us, hl with | [_, _, _], _ => rfl) l) (fun k G => st_raw_at T hTB k G)
end
end Kt
set_option Elab.async false
set_option linter.all false
set_option maxRecDepth 100000
set_option maxHeartbeats 4000000
namespace Kt
open PySem PySem.Spec PyProof.Rows L2 Rz
section
variable {P : Program} {w : World} {K : PySem.W.Frag} {mg : Str → Option Value} {base : Heap}
theorem pe_strT {X : Cx} {op : Operator} {r : R2} {y : Str} {j : Nat} {c pos : Pos} {f : Expr} {tf : TE} (ho : OpR X (binaryOp op) r) (hb : L2.PET X f tf) : PE X (.BinOp (.Constant (.str y) j c) op f pos) (tOp r (tC (.str y)) tf) := by
  refine ⟨fun pins s σ H Q I h => wpAny_BinOp (Calls.Constant_str ?_)⟩
  exact thn (hb pins _ σ H _ (by show 1 ≤ s.toks + 1; omega) (I.tok _) h) fun u s2 ⟨y2, H2, I2, r2, q2⟩ => ho pins s2 σ H2 (.str y) y2 _ u Q I2 ⟨_, rfl⟩ r2 q2
def spRS : Sp := fun vs H Q _ => ∃ x : Str, vs = [.str x] ∧ x.length ≤ 60 ∧ Q (.str (rstr x)) H
theorem ok_render_string (T : Tx w K mg) : Gd P w K base mg CX0 1 (He.fAd K d_render_string.at_) ["text"] [] spRS := by
  refine mkGd (T.f_render_string) sc_render_string (fun vs H Q E h => ?_) (fun _ _ _ _ _ _ us hl => match us, hl with | [_], _ => rfl) (fun cdv A outer s H vs Q E hr h => ?_)
  · obtain ⟨x, rfl, _⟩ := h
    rfl
  · have hu := hu_of hr
    obtain ⟨x, rfl, hx, q⟩ := h
    refine ⟨_, (pss_one (ps_ret (pe_op op_add_str (pe_strT op_add_str (CwR.pet_replT (CwR.pet_replC (pv 0)))) pe_str))), ?_⟩
    have a := TK.replace_len x "\\" "\\\\"
    have b := TK.replace_len (Txt.replace x "\\" "\\\\") "\"" "\\\""
    have l1 : (("\\\\" : String) : Str).length = 2 := by decide +kernel
    have l2 : (("\\\"" : String) : Str).length = 2 := by decide +kernel
    have l3 : (("\"" : String) : Str).length = 1 := by decide +kernel
    rw [l1] at a
    rw [l2] at b
    refine ⟨_, rfl, x, rfl, ?_, _, rfl, ?_, _, _, rfl, rfl, ?_, _, _, rfl, rfl, ?_, q⟩
    · rw [l1]; omega
    · rw [l2]; omega
    · rw [l3]; exact Nat.le_of_lt (small1000 (by omega))
    · rw [strLen_append, l3]; exact Nat.le_of_lt (small1000 (by omega))
end
end Kt
set_option Elab.async false
set_option linter.all false
set_option maxRecDepth 100000
set_option maxHeartbeats 4000000
namespace Kt
open PySem PySem.Spec PyProof.Rows L2 Rz
section
variable {P : Program} {w : World} {K : PySem.W.Frag} {mg : Str → Option Value} {base : Heap}
theorem op_isB {X : Cx} : OpR X (compareOp .Is) (fun x y H Q => ∃ b : Bool, y = .bl b ∧ Q (.bl (decide (x = .bl b))) H) := by
  intro pins s σ H x y v u Q I rx ry h
  obtain ⟨b, rfl, q⟩ := h
  cases (show u = Value.bool b from ry)
  show wpAny _ _ ((isSame v (Value.bool b)) >>= fun z => pure (Value.bool z)) _ _ s
  refine wpAny_bind ?_
  have go : ∀ {c : Bool}, plainIs v (.bool b) = true → (v == Value.bool b) = c → decide (x = V.bl b) = c → wpAny (model X.prog X.w) X.A (isSame v (Value.bool b)) (fun z s2 => wpAny (model X.prog X.w) X.A (pure (Value.bool z)) (EP X pins σ Q) X.xe s2) X.xe s := fun h1 h2 h3 =>
    wpAny_isSame_plain h1 (by rw [h2]; exact wpAny_pure (fin_bl I q h3))
  cases x with
  | ref a => cases rx; exact go rfl rfl rfl
  | non => cases rx; exact go rfl rfl rfl
  | bl a => cases (show v = Value.bool a from rx); cases a <;> cases b <;> exact go rfl rfl rfl
  | int i => obtain ⟨t, rfl⟩ := rx; exact go rfl rfl rfl
  | str x => obtain ⟨t, rfl⟩ := rx; exact go rfl rfl rfl
  | byt x => obtain ⟨t, rfl⟩ := rx; exact go rfl rfl rfl
  | flt x => obtain ⟨t, rfl⟩ := rx; exact go rfl rfl rfl
  | ty n => cases rx; exact go rfl rfl rfl
theorem Paired.atR {α β : Type} {F : α → β → Prop} : ∀ {l : List α} {m : List β} {i : Nat} {b : β}, Paired F l m → m[i]? = some b → ∃ a, l[i]? = some a ∧ F a b
  | _, _, _, _, .nil, h => by simp at h
  | _, _, 0, _, .cons q _, h => by simp at h; subst h; exact ⟨_, rfl, q⟩
  | _, _, i + 1, _, .cons _ r, h => by
    obtain ⟨a, h1, h2⟩ := Paired.atR r (by simpa using h)
    exact ⟨a, by simpa using h1, h2⟩
theorem RAt.len {H : Hp} {v : V} : ∀ {k : Nat} {z : Str}, RAt H k v z → z.length ≤ capT k := by
  have rf : ∀ {z : Str}, RF v z → z.length ≤ 1000 := by
    rintro z (⟨_, rfl⟩ | ⟨b, _, rfl⟩ | ⟨i, _, hi, rfl⟩ | ⟨x, _, hx, rfl⟩)
    · decide +kernel
    · cases b <;> decide +kernel
    · exact Nat.le_trans (istr_len hi) (by decide)
    · exact rstr_len hx
  intro k z h
  cases k with
  | zero => exact rf h
  | succ k =>
    rcases h with h | ⟨t, l, xs, zs, e, h1, h2, h3, h4, h5, rfl⟩ | ⟨t, l, xs, zs, e, h1, h2, h3, h4, rfl⟩
    · exact Nat.le_trans (rf h) (capT_ge _)
    · exact wrap_len (by decide +kernel) (by decide +kernel) h3 fun y hy => Nat.le_trans (h4 y hy) (by omega)
    · exact wrap_len (by decide +kernel) (by decide +kernel) h3 fun y hy => by
        obtain ⟨i, hi⟩ := List.mem_iff_getElem?.mp hy
        obtain ⟨x, hx, q, n, x2, u, e1, g1, g2, g3, g4, rfl⟩ := Kt.Paired.atR h4 hi
        have := rstr_len g2
        rw [strLen_append, strLen_append]
        have l3 : ((":" : String) : Str).length = 1 := by decide +kernel
        omega
theorem capT_le {j : Nat} (h : j ≤ 5) : capT j ≤ 2729000 := by
  have : j = 0 ∨ j = 1 ∨ j = 2 ∨ j = 3 ∨ j = 4 ∨ j = 5 := by omega
  rcases this with rfl | rfl | rfl | rfl | rfl | rfl <;> decide
theorem sum_le {zs : List Str} {B : Nat} : (∀ z ∈ zs, z.length ≤ B) → (zs.map (·.length)).sum ≤ zs.length * B := by
  induction zs with
  | nil => intro _; simp
  | cons z r ih =>
    intro h
    have h1 := h z (by simp)
    have h2 := ih fun y hy => h y (by simp [hy])
    rw [List.map_cons, List.sum_cons, List.length_cons, Nat.succ_mul]
    omega
def spRender (k : Nat) : Sp := fun vs H Q _ => ∃ v z, vs = [v] ∧ RAt H k v z ∧ ∀ H', Same H H' → Q (.str z) H'
theorem st_render (T : Tx w K mg) (k : Nat) (hk : k ≤ 5) (G_render : Gd P w K base mg CX0 (k + 2) (He.fAd K d_render.at_) ["raw"] [] (prv spRender k)) : Gd P w K base mg CX0 (k + 3) (He.fAd K d_render.at_) ["raw"] [] (spRender k) := by
  have G_render_string := ok_render_string (P := P) (w := w) (base := base) T
  refine mkGd (T.f_render) sc_render (fun vs H Q E h => ?_) (fun _ _ _ _ _ _ us hl => match us, hl with | [_], _ => rfl) (fun cdv A outer s H vs Q E hr h => ?_)
  · obtain ⟨v, z, rfl, _⟩ := h
    rfl
  · have hu := hu_of hr
    obtain ⟨v, z, rfl, h, q⟩ := h
    refine ⟨_, (pss_cons (ps_if (pt_cmpR op_isN (pv 0) pe_non (nomark _)) (pss_one (ps_ret pe_str)) pss_nil)
      (pss_cons (ps_if (pt_cmpR op_isB (pv 0) pe_bl (nomark _)) (pss_one (ps_ret pe_str)) pss_nil)
      (pss_cons (ps_if (pt_cmpR op_isB (pv 0) pe_bl (nomark _)) (pss_one (ps_ret pe_str)) pss_nil)
      (pss_cons (ps_if (pt_val (pe_callB call_isi (by rfl) T.n_isinstance (by decide +kernel) (pa_cons (pv 0) (pa_cons (pe_bltn (v := .ty "str") (u := .type "str") (by rfl) T.n_str (by decide +kernel) rfl) pa_nil)))) (pss_one (ps_ret (pe_callG G_render_string T.g_render_string (hr.mono (by first | decide | omega)) pass0 (pa_cons (pv 0) pa_nil)))) pss_nil)
      (pss_cons (ps_if (pt_val (pe_callB call_isi (by rfl) T.n_isinstance (by decide +kernel) (pa_cons (pv 0) (pa_cons (pe_bltn (v := .ty "int") (u := .type "int") (by rfl) T.n_int (by decide +kernel) rfl) pa_nil)))) (pss_one (ps_ret (pe_callTy call_str_int (by rfl) T.n_str (by decide +kernel) (pa_cons (pv 0) pa_nil)))) pss_nil)
      (pss_cons (ps_asg (pv 0) (pg_tup rfl (pgs_cons (pg_name (i := 1) sc_render.nd rfl (Or.inl rfl)) (pgs_cons (pg_name (i := 2) sc_render.nd rfl (Or.inl rfl)) pgs_nil))))
      (pss_cons (ps_if (pt_cmpR op_eq (pv 1) pe_str (nomark _)) (pss_one (ps_ret (pe_op op_add_str (pe_op op_add_str pe_str (pe_join pe_str (pe_lc (own := [("item", 3)]) (g := gName 3) (tt := tYes) rfl sc_render.nd (pi_list (pv 2)) (blkOk_by (own := [("item", 3)]) (N := N_render) (sc := defScope s_render) (by decide +kernel)) (fun _ _ _ _ _ => (pg_name (i := 3) sc_render.nd rfl (Or.inl rfl))) (fun _ _ _ _ _ => pts_nil) (fun _ _ _ _ _ => (pe_callG G_render T.g_render (hr.mono (by first | decide | omega)) pass0 (pa_cons (pv 3) pa_nil)))))) pe_str))) pss_nil)
      (pss_one (ps_ret (pe_op op_add_str (pe_op op_add_str pe_str (pe_join pe_str (pe_lc (own := [("name", 4), ("item", 3)]) (g := gTup K 2 (gCons (gName 4) (gCons (gName 3) gNil))) (tt := tYes) rfl sc_render.nd (pi_list (pv 2)) (blkOk_by (own := [("name", 4), ("item", 3)]) (N := N_render) (sc := defScope s_render) (by decide +kernel)) (fun _ _ _ _ _ => (pg_tup rfl (pgs_cons (pg_name (i := 4) sc_render.nd rfl (Or.inl rfl)) (pgs_cons (pg_name (i := 3) sc_render.nd rfl (Or.inl rfl)) pgs_nil)))) (fun _ _ _ _ _ => pts_nil) (fun _ _ _ _ _ => (pe_op op_add_str (pe_op op_add_str (pe_callG G_render_string T.g_render_string (hr.mono (by first | decide | omega)) pass0 (pa_cons (pv 4) pa_nil)) pe_str) (pe_callG G_render T.g_render (hr.mono (by first | decide | omega)) pass0 (pa_cons (pv 3) pa_nil))))))) pe_str)))))))))), ?_⟩
    have hc : RF v z ∨ ∃ j, k = j + 1 ∧ ((∃ t l xs zs, v = .ref t ∧ H t = some (.tup [.str "row", .ref l]) ∧ H l = some (.lst xs) ∧ zs.length ≤ 4 ∧ (∀ y ∈ zs, y.length ≤ capT j) ∧ Paired (RAt H j) xs zs ∧ z = "[" ++ Txt.join "," zs ++ "]") ∨
        ∃ t l xs zs, v = .ref t ∧ H t = some (.tup [.str "table", .ref l]) ∧ H l = some (.lst xs) ∧ zs.length ≤ 4 ∧ Paired (PairR H j) xs zs ∧ z = "{" ++ Txt.join "," zs ++ "}") := by
      cases k with
      | zero => exact .inl h
      | succ k =>
        rcases h with h | h | h
        · exact .inl h
        · exact .inr ⟨k, rfl, .inl h⟩
        · exact .inr ⟨k, rfl, .inr h⟩
    rcases hc with (⟨rfl, rfl⟩ | ⟨b, rfl, rfl⟩ | ⟨i, rfl, hi, rfl⟩ | ⟨x, rfl, hx, rfl⟩) | ⟨j, rfl, ⟨t, l, xs, zs, rfl, h1, h2, h3, h4, h5, rfl⟩ | ⟨t, l, xs, zs, rfl, h1, h2, h3, h4, rfl⟩⟩
    · exact ⟨_, rfl, rfl, _, rfl, iteT (q H (Same.refl H))⟩
    · refine ⟨_, rfl, rfl, _, rfl, iteF ⟨_, rfl, true, rfl, _, rfl, ?_⟩⟩
      cases b with
      | true => exact iteT (q H (Same.refl H))
      | false => exact iteF ⟨_, rfl, false, rfl, _, rfl, iteT (q H (Same.refl H))⟩
    · obtain ⟨t1, y1, k1⟩ := isi T "str" (k := 0) (d := .int i) (Same.refl H) (x := .int i) rfl
      obtain ⟨t2, y2, k2⟩ := isi T "int" (k := 0) (d := .int i) (Same.refl H) (x := .int i) rfl
      exact ⟨_, rfl, rfl, _, rfl, iteF ⟨_, rfl, true, rfl, _, rfl, iteF ⟨_, rfl, false, rfl, _, rfl, iteF ⟨_, rfl, _, _, t1, _, _, rfl, .ty _, y1, k1, _, rfl, iteF ⟨_, rfl, _, _, t2, _, _, rfl, .ty _, y2, k2, _, rfl, iteT ⟨_, rfl, i, rfl, log_of hi, q H (Same.refl H)⟩⟩⟩⟩⟩⟩
    · obtain ⟨t1, y1, k1⟩ := isi T "str" (k := 0) (d := .str x) (Same.refl H) (x := .str x) rfl
      exact ⟨_, rfl, rfl, _, rfl, iteF ⟨_, rfl, true, rfl, _, rfl, iteF ⟨_, rfl, false, rfl, _, rfl, iteF ⟨_, rfl, _, _, t1, _, _, rfl, .ty _, y1, k1, _, rfl, iteT ⟨_, rfl, x, rfl, hx, q H (Same.refl H)⟩⟩⟩⟩⟩
    · obtain ⟨t1, y1, k1⟩ : ∃ t1, TyX K H (.ref t) t1 ∧ PySem.W.kitOne K t1 (.type "str") = some false := ⟨_, .base (.tup h1), kits (a := "tuple") (b := "str") (by decide) (by decide)⟩
      obtain ⟨t2, y2, k2⟩ : ∃ t1, TyX K H (.ref t) t1 ∧ PySem.W.kitOne K t1 (.type "int") = some false := ⟨_, .base (.tup h1), kits (a := "tuple") (b := "int") (by decide) (by decide)⟩
      refine ⟨_, rfl, rfl, _, rfl, iteF ⟨_, rfl, true, rfl, _, rfl, iteF ⟨_, rfl, false, rfl, _, rfl, iteF ⟨_, rfl, _, _, t1, _, _, rfl, .ty _, y1, k1, _, rfl, iteF ⟨_, rfl, _, _, t2, _, _, rfl, .ty _, y2, k2, _, rfl, iteF ?_⟩⟩⟩⟩⟩
      refine ⟨_, rfl, t, _, rfl, SqT.of h1, rfl, _, _, rfl, _, _, rfl, rfl, _, rfl, rfl, _, rfl, iteT ?_⟩
      have hb : ∀ y ∈ zs, y.length ≤ capT j + 1001 := fun y hy => Nat.le_trans (h4 y hy) (by omega)
      have hc := capT_le (j := j) (by omega)
      have hc2 := capT_le (j := j + 1) (by omega)
      have hw := wrap_len (a := "[") (b := "]") (by decide +kernel) (by decide +kernel) h3 hb
      have hl2 := Paired.length h5
      have l1 : (("[" : String) : Str).length = 1 := by decide +kernel
      have l2 : (("]" : String) : Str).length = 1 := by decide +kernel
      have hs := sum_le hb
      have hm : zs.length * (capT j + 1001) ≤ 4 * (capT j + 1001) := Nat.mul_le_mul_right _ h3
      refine ⟨⟨_, rfl⟩, _, rfl, l, rfl, ⟨_, SqL.of h2⟩, fun D hD => lc_list (xs := xs) (fun i H' => Same H H' ∧ H' D = some (.lst ((zs.take i).map V.str))) ⟨Same.nu hD, upd_same⟩ (fun i H' _ h => SqL.of (h.1 _ _ h2)) ?_ ?_⟩
      · rintro i x H' hx ⟨s1, hd⟩
        obtain ⟨y, hy, hxy⟩ := Paired.at h5 hx
        have hi4 : i < 4 := by have := lt_of_at hy; omega
        have hsm : ((zs.take i).map V.str).length < sizeLine := small1000 (by rw [List.length_map, List.length_take]; omega)
        have fin : ∀ H2, Same H' H2 → Same H (upd H2 D (.lst ((zs.take i).map V.str ++ [.str y]))) ∧ (upd H2 D (.lst ((zs.take i).map V.str ++ [.str y]))) D = some (.lst ((zs.take (i + 1)).map V.str)) := fun H2 s2 =>
          ⟨Same.mk'' (s1.trans s2) hD, by rw [upd_same, take_snoc hy, List.map_append]; rfl⟩
        exact ⟨rfl, _, rfl, x, y, rfl, RAt.x (LamX.ExtN.of s1) hxy, fun H2 s2 => ⟨_, s2 _ _ hd, hsm, fin H2 s2⟩⟩
      · rintro H' ⟨s1, hd⟩
        rw [List.take_of_length_le (by omega)] at hd
        rw [strLen_append, strLen_append, l1, l2] at hw
        refine ⟨_, D, zs, rfl, rfl, .inl (SqL.of hd), ?_, _, _, rfl, rfl, ?_, _, _, rfl, rfl, ?_, q H' s1⟩
        · show _ + zs.length * 1 ≤ _
          omega
        · rw [l1]
          show _ ≤ 16777216
          omega
        · rw [strLen_append, l1, l2]
          show _ ≤ 16777216
          omega
    · obtain ⟨t1, y1, k1⟩ : ∃ t1, TyX K H (.ref t) t1 ∧ PySem.W.kitOne K t1 (.type "str") = some false := ⟨_, .base (.tup h1), kits (a := "tuple") (b := "str") (by decide) (by decide)⟩
      obtain ⟨t2, y2, k2⟩ : ∃ t1, TyX K H (.ref t) t1 ∧ PySem.W.kitOne K t1 (.type "int") = some false := ⟨_, .base (.tup h1), kits (a := "tuple") (b := "int") (by decide) (by decide)⟩
      refine ⟨_, rfl, rfl, _, rfl, iteF ⟨_, rfl, true, rfl, _, rfl, iteF ⟨_, rfl, false, rfl, _, rfl, iteF ⟨_, rfl, _, _, t1, _, _, rfl, .ty _, y1, k1, _, rfl, iteF ⟨_, rfl, _, _, t2, _, _, rfl, .ty _, y2, k2, _, rfl, iteF ?_⟩⟩⟩⟩⟩
      refine ⟨_, rfl, t, _, rfl, SqT.of h1, rfl, _, _, rfl, _, _, rfl, rfl, _, rfl, rfl, _, rfl, iteF ?_⟩
      have hb : ∀ y ∈ zs, y.length ≤ capT j + 1001 := fun y hy => by
        obtain ⟨i, hi⟩ := List.mem_iff_getElem?.mp hy
        obtain ⟨x, hx, q, n, x2, u, e1, g1, g2, g3, g4, rfl⟩ := Kt.Paired.atR h4 hi
        have := rstr_len g2
        rw [strLen_append, strLen_append]
        have l3 : ((":" : String) : Str).length = 1 := by decide +kernel
        omega
      have hc := capT_le (j := j) (by omega)
      have hc2 := capT_le (j := j + 1) (by omega)
      have hw := wrap_len (a := "{") (b := "}") (by decide +kernel) (by decide +kernel) h3 hb
      have hl2 := Paired.length h4
      have l1 : (("{" : String) : Str).length = 1 := by decide +kernel
      have l2 : (("}" : String) : Str).length = 1 := by decide +kernel
      have hs := sum_le hb
      have hm : zs.length * (capT j + 1001) ≤ 4 * (capT j + 1001) := Nat.mul_le_mul_right _ h3
      refine ⟨⟨_, rfl⟩, _, rfl, l, rfl, ⟨_, SqL.of h2⟩, fun D hD => lc_list (xs := xs) (fun i H' => Same H H' ∧ H' D = some (.lst ((zs.take i).map V.str))) ⟨Same.nu hD, upd_same⟩ (fun i H' _ h => SqL.of (h.1 _ _ h2)) ?_ ?_⟩
      · rintro i x H' hx ⟨s1, hd⟩
        obtain ⟨y, hy, hxy⟩ := Paired.at h4 hx
        have hi4 : i < 4 := by have := lt_of_at hy; omega
        have hsm : ((zs.take i).map V.str).length < sizeLine := small1000 (by rw [List.length_map, List.length_take]; omega)
        have fin : ∀ H2, Same H' H2 → Same H (upd H2 D (.lst ((zs.take i).map V.str ++ [.str y]))) ∧ (upd H2 D (.lst ((zs.take i).map V.str ++ [.str y]))) D = some (.lst ((zs.take (i + 1)).map V.str)) := fun H2 s2 =>
          ⟨Same.mk'' (s1.trans s2) hD, by rw [upd_same, take_snoc hy, List.map_append]; rfl⟩
        obtain ⟨p, n, x2, u, rfl, g1, g2, g3, g4, rfl⟩ := hxy
        have l3 : ((":" : String) : Str).length = 1 := by decide +kernel
        have rl := rstr_len g2
        refine ⟨p, _, rfl, SqT.of (s1 _ _ g1), rfl, _, _, rfl, _, _, rfl, rfl, rfl, _, rfl, n, rfl, g2, _, _, rfl, rfl, ?_, _, rfl, x2, u, rfl, RAt.x (LamX.ExtN.of s1) g3, fun H2 s2 => ⟨_, _, rfl, rfl, ?_, _, s2 _ _ hd, hsm, fin H2 s2⟩⟩
        · rw [l3]; show _ ≤ 16777216; omega
        · rw [strLen_append, l3]; show _ ≤ 16777216; omega
      · rintro H' ⟨s1, hd⟩
        rw [List.take_of_length_le (by omega)] at hd
        rw [strLen_append, strLen_append, l1, l2] at hw
        refine ⟨_, D, zs, rfl, rfl, .inl (SqL.of hd), ?_, _, _, rfl, rfl, ?_, _, _, rfl, rfl, ?_, q H' s1⟩
        · show _ + zs.length * 1 ≤ _
          omega
        · rw [l1]
          show _ ≤ 16777216
          omega
        · rw [strLen_append, l1, l2]
          show _ ≤ 16777216
          omega
theorem ok_render (T : Tx w K mg) (k : Nat) (hk : k ≤ 5) : Gd P w K base mg CX0 (k + 3) (He.fAd K d_render.at_) ["raw"] [] (spRender k) := by
  induction k with
  | zero => exact st_render T 0 hk (mkGdF (T.f_render) sc_render (fun _ _ _ _ _ _ us hl => match us, hl with | [_], _ => rfl) _)
  | succ k ih => exact st_render T (k + 1) hk (ih (by omega))
end
end Kt
set_option Elab.async false
set_option linter.all false
set_option maxRecDepth 100000
set_option maxHeartbeats 4000000
namespace Kt
open PySem PySem.Spec PyProof.Rows L2 Rz
section
variable {P : Program} {w : World} {K : PySem.W.Frag} {mg : Str → Option Value} {base : Heap}
def spWrite (K : PySem.W.Frag) (k : Nat) : Sp := fun vs H Q E => ∃ (p : Addr) (x : V) (o : Opt) (d : Val), vs = [.ref p, x] ∧ WAt K H p o ∧ VAt (CT K) H k x d ∧ Ok k d ∧ LamX.Tabs (TT K) H ∧ (txt o k d = none → Ref K H E) ∧ ∀ z, txt o k d = some z → ∀ H', Xt K H H' → Q (.str z) H'
theorem ok_Writer_write (T : Tx w K mg) (hTB : LamX.TabB base mg (He.codeOf K keD) (keT K)) (k : Nat) (hk : k ≤ 5) : Gd P w K base mg (CX P w) (2 * (k + 1) + 7) (He.fAd K d_Writer_write.at_) ["self", "value"] [] (spWrite K k) := by
  have G_render := ok_render (P := P) (w := w) (base := base) T k hk
  have G_Writer_raw_at := ok_Writer_raw_at (P := P) (w := w) (base := base) T hTB k
  refine mkGdX (T.f_Writer_write) sc_Writer_write (fun vs H Q E h => ?_) (fun _ _ _ _ _ _ us hl => match us, hl with | [_, _], _ => rfl) (fun cdv A outer s H vs Q E hr h => ?_)
  · obtain ⟨p, x, o, d, rfl, _⟩ := h
    rfl
  · have hu := hu_of hr
    have tk : Takes _ (fun c d _ H => E c d H) := takes_of (X := cxOf (CX P w) P w K mg base N_Writer_write d_Writer_write.qual (defScope s_Writer_write) (He.fAd K d_Writer_write.at_) cdv A outer s H E) rfl rfl rfl rfl
    have px := passes_call (E := E) tk fun _ _ _ _ h => h
    obtain ⟨p, x, o, d, rfl, hW, hv, ok, hT, qE, q⟩ := h
    obtain ⟨dw, hW⟩ := hW
    refine ⟨_, (pss_one (ps_ret (pe_callG G_render T.g_render (hr.mono (by first | decide | omega)) pass0 (pa_cons (pe_methG (pv 0) T.cl_Writer T.m_Writer_raw_at G_Writer_raw_at (hr.mono (by first | decide | omega)) px (pa_cons (pv 1) (pa_cons (pe_tup pa_nil) pa_nil))) pa_nil)))), ?_⟩
    refine ⟨_, rfl, p, dw, _, rfl, hW, rfl, _, rfl, Nat.zero_le _, fun pth hp => ?_⟩
    have nu := Same.nu (o := .tup []) hp
    exact ⟨p, x, pth, [], o, d, H, [], rfl, ⟨dw, nu _ _ hW⟩, LamX.ExtN.of nu, hv, ok, SqT.of upd_same, by simp; omega, hT.ext nu, fun _ h => by simp at h, fun hn d H' X => qE hn d H' ⟨(LamX.ExtN.of nu).trans X.1, X.2⟩, fun z ez H' v X hv' =>
      ⟨v, z, rfl, by rw [cut_nil] at hv'; exact hv', fun H2 s2 => q z ez H2 ⟨((LamX.ExtN.of nu).trans X.1).trans (LamX.ExtN.of s2), X.2.ext s2⟩⟩⟩
end
end Kt
set_option Elab.async false
set_option linter.all false
set_option maxRecDepth 100000
set_option maxHeartbeats 4000000
namespace Kt
open PySem PySem.Spec PyProof.Rows L2 Rz
section
variable {P : Program} {w : World} {K : PySem.W.Frag} {mg : Str → Option Value} {base : Heap}
theorem inV_str {z : Str} {l : List Str} (h : z ∈ l) : inV (.str z) (l.map V.str) = true := by
  unfold inV
  rw [List.any_map]
  exact List.any_eq_true.mpr ⟨z, h, by show eqV (.str z) (.str z) = true; simp [eqV]⟩
theorem flat_strs (l : List Str) : (l.map V.str).all flatV = true := by
  rw [List.all_map]
  exact List.all_eq_true.mpr fun _ _ => rfl
def optL (o : Opt) : List Str := [o.nk, o.tp, o.nl, o.dk, o.od, o.ln]
theorem optL_ok {o : Opt} (h : o.ok) {j : Nat} {z : Str} (e : (optL o)[j]? = some z) : z ∈ (woN.getD j ("", [])).2 := by
  obtain ⟨h1, h2, h3, h4, h5, h6⟩ := h
  match j, e with
  | 0, e => cases e; exact h1
  | 1, e => cases e; exact h2
  | 2, e => cases e; exact h3
  | 3, e => cases e; exact h4
  | 4, e => cases e; exact h5
  | 5, e => cases e; exact h6
  | j + 6, e => simp [optL] at e
def spCheck (K : PySem.W.Frag) : Sp := fun vs H Q _ => ∃ (b : Addr) (o : Opt), vs = [.ref (He.ga K "WRITER_OPTIONS"), .ref b] ∧ SqT K H b ((optL o).map V.str) ∧ o.ok ∧ ∀ H', Same H H' → Q .non H'
theorem ok_check_options (T : Tx w K mg) : Gd P w K base mg CX0 1 (He.fAd K d_check_options.at_) ["options", "given"] [] (spCheck K) := by
  refine mkGd (T.f_check_options) sc_check_options (fun vs H Q E h => ?_) (fun _ _ _ _ _ _ us hl => match us, hl with | [_, _], _ => rfl) (fun cdv A outer s H vs Q E hr h => ?_)
  · obtain ⟨b, o, rfl, _⟩ := h
    rfl
  · have hu := hu_of hr
    obtain ⟨b, o, rfl, hb, ho, q⟩ := h
    refine ⟨_, (pss_one (ps_for PassesOwn.never rfl (RZ.pi_zipA (by rfl) T.n_zip (pa_cons (pv 0) (pa_cons (pv 1) pa_nil))) (pg_tup rfl (pgs_cons (pg_tup rfl (pgs_cons (pg_name (i := 2) sc_check_options.nd rfl (Or.inl rfl)) (pgs_cons (pg_name (i := 3) sc_check_options.nd rfl (Or.inl rfl)) pgs_nil))) (pgs_cons (pg_name (i := 4) sc_check_options.nd rfl (Or.inl rfl)) pgs_nil)))
      (pss_one (ps_if (pt_cmpR op_notIn_seq (pv 4) (pv 3) (by rfl)) (pss_one ps_never) pss_nil)))), ?_⟩
    refine ⟨_, rfl, _, rfl, _, b, _, _, rfl, .inr ⟨T.wo H, hb, RZ.for_zipT (by rfl) (fun i σ H' => (∃ u v y, σ = [some (.ref (He.ga K "WRITER_OPTIONS")), some (.ref b), u, v, y]) ∧ Same H H') ⟨⟨_, _, _, rfl⟩, Same.refl H⟩ (fun i σ H' h => ⟨T.wo H', sqT_x (LamX.ExtN.of h.2) hb⟩) ?_ fun σ H' h => q H' h.2⟩⟩
    rintro i x y U σ H' hx hy ⟨⟨u, v, y0, rfl⟩, s1⟩ hU
    obtain ⟨j, rfl⟩ : ∃ j, j = i := ⟨_, rfl⟩
    have hj : j < 6 := by have := lt_of_at hy; simpa [optL] using this
    have ex : x = .ref (woI K j) := by
      rw [List.getElem?_map, List.getElem?_range hj] at hx
      exact (Option.some.inj hx).symm
    rw [List.getElem?_map] at hy
    cases ez : (optL o)[j]? with
    | none => rw [ez] at hy; cases hy
    | some z =>
    rw [ez] at hy
    cases hy
    subst ex
    have hm := optL_ok ho ez
    have hin : inV (.str z) ((woN.getD j ("", [])).2.map V.str) = true := inV_str hm
    refine ⟨U, _, rfl, SqT.of upd_same, rfl, _, _, rfl, ⟨woI K j, _, rfl, T.wo1 _ j hj, rfl, _, _, rfl, _, _, rfl, rfl, _, _, rfl, rfl, _, rfl, _, rfl, itA K (woI K j) 1, _, rfl, .inr (T.wo2 _ j hj), rfl, flat_strs _, _, rfl, ?_⟩⟩
    rw [hin]
    exact iteF ⟨⟨_, _, _, rfl⟩, s1.trans (Same.nu hU)⟩
end
end Kt
set_option Elab.async false
set_option linter.all false
set_option maxRecDepth 100000
set_option maxHeartbeats 4000000
namespace Kt
open PySem PySem.Spec PyProof.Rows L2 Rz
section
variable {P : Program} {w : World} {K : PySem.W.Frag} {mg : Str → Option Value} {base : Heap}
def wNames : List Str := ["number_keys", "tuples", "nulls", "double_keys", "order", "long_numbers"]
def spWInit (K : PySem.W.Frag) : Sp := fun vs H Q _ => ∃ (a dx : Addr) (o : Opt), vs = V.ref a :: (optL o).map V.str ∧ H a = some (.ins (CW K) dx []) ∧ H dx = some (.own a) ∧ o.ok ∧ ∀ H', Sx [a] H H' → H' a = some (.ins (CW K) dx (optF o)) → Q .non H'
theorem ok_Writer_init (T : Tx w K mg) : ∃ fd mv, FnOk P w K mg base CX0 2 (He.fAd K d_Writer_init.at_) fd ("self" :: wNames) (spWInit K) ∧ KBn K fd ("self" :: wNames) 1 wNames (fun us ws => us ++ mv ++ ws) (fun vs zs => vs ++ [] ++ zs) := by
  have G_check_options := ok_check_options (P := P) (w := w) (base := base) T
  obtain ⟨fd, F⟩ := T.f_Writer_init
  obtain ⟨mv, hk⟩ := F.kbinds0 (ps := "self" :: wNames) 1 wNames [] (fun a b c => a ++ b ++ c) (fun z => by cases z) (fun _ z => nomatch z) (fun r1 r2 r3 => Vals.append (Vals.append r1 r2) r3) (fun D doc pm an cdv ct us mv ws l1 l2 l3 => by
    match us, mv, ws, l1, l2, l3 with
    | [_], [], [_, _, _, _, _, _], _, _, _ => rfl)
  refine ⟨fd, mv, F.ok sc_Writer_init (fun vs H Q E h => ?_) fun cdv A outer s H vs Q E hr h => ?_, hk⟩
  · obtain ⟨a, dx, o, rfl, _⟩ := h
    rfl
  · have hu := hu_of hr
    obtain ⟨a, dx, o, rfl, ha, hd, ho, q⟩ := h
    refine ⟨_, PSs.nox (pss_cons (ps_expr (pe_callG G_check_options T.g_check_options (hr.mono (by first | decide | omega)) pass0 (pa_cons (pe_glob (v := .ref (He.ga K "WRITER_OPTIONS")) rfl T.g_WRITER_OPTIONS rfl) (pa_cons (pe_tup (pa_cons (pv 1) (pa_cons (pv 2) (pa_cons (pv 3) (pa_cons (pv 4) (pa_cons (pv 5) (pa_cons (pv 6) pa_nil))))))) pa_nil))))
      (pss_cons (ps_fld (pv 0) (pv 1) rfl)
      (pss_cons (ps_fld (pv 0) (pv 2) rfl)
      (pss_cons (ps_fld (pv 0) (pv 3) rfl)
      (pss_cons (ps_fld (pv 0) (pv 4) rfl)
      (pss_cons (ps_fld (pv 0) (pv 5) rfl)
      (pss_one (ps_fld (pv 0) (pv 6) rfl)))))))), ?_⟩
    refine ⟨_, rfl, _, rfl, _, rfl, _, rfl, _, rfl, _, rfl, (by show 6 ≤ sizeLine; decide), fun g hg => ?_⟩
    have nu := Same.nu (o := .tup ((optL o).map V.str)) hg
    refine ⟨g, o, rfl, SqT.of upd_same, ho, fun H2 s2 => ?_⟩
    have h0 := s2 _ _ (nu _ _ ha)
    refine ⟨_, rfl, _, rfl, a, _, _, _, rfl, h0, T.cl_Writer, T.a_Writer_number_keys, (by decide), ?_⟩
    refine ⟨_, rfl, _, rfl, a, _, _, _, rfl, upd_same, T.cl_Writer, T.a_Writer_tuples, (by show 1 < 1000; decide), ?_⟩
    refine ⟨_, rfl, _, rfl, a, _, _, _, rfl, upd_same, T.cl_Writer, T.a_Writer_nulls, (by show 2 < 1000; decide), ?_⟩
    refine ⟨_, rfl, _, rfl, a, _, _, _, rfl, upd_same, T.cl_Writer, T.a_Writer_double_keys, (by show 3 < 1000; decide), ?_⟩
    refine ⟨_, rfl, _, rfl, a, _, _, _, rfl, upd_same, T.cl_Writer, T.a_Writer_order, (by show 4 < 1000; decide), ?_⟩
    refine ⟨_, rfl, _, rfl, a, _, _, _, rfl, upd_same, T.cl_Writer, T.a_Writer_long_numbers, (by show 5 < 1000; decide), ?_⟩
    refine q _ (fun b u n e => ?_) upd_same
    have n : b ≠ a := fun z => n (by simp [z])
    rw [upd_ne n, upd_ne n, upd_ne n, upd_ne n, upd_ne n, upd_ne n]
    exact s2 _ _ (nu _ _ e)
end
end Kt
set_option Elab.async false
set_option linter.all false
set_option maxRecDepth 100000
set_option maxHeartbeats 4000000
namespace Kt
open PySem PySem.Spec PyProof.Rows L2 Rz TL
section
variable {P : Program} {w : World} {K : PySem.W.Frag} {mg : Str → Option Value} {base : Heap}
theorem tab_make {K : PySem.W.Frag} {H1 : Hp} {l : Addr} {es : List (Key × Val)} {ts : List V} {ps : List Addr} {Q : Addr → Hp → Prop} {E : XK} (hl : H1 l = some (.lst ts)) (hp : Paired (fun t e => ∃ b y, t = V.ref b ∧ H1 b = some (.tup [kV e.1, y]) ∧ flat e.2 = some y) ts es) (ok : okE 0 es) (hps : Has H1 ps)
    (q : ∀ x H2, H1 x = none → Same H1 H2 → VAt (CT K) (cut H2 ps) 1 (.ref x) (.tab es) → Q x H2) (x dx : Addr) (hx : H1 x = none) (hd : H1 dx = none) (hn : dx ≠ x) :
    spTable K 0 (.ref x :: ([.ref l] ++ [])) (upd (upd H1 dx (.own x)) x (.ins (CT K) dx [])) (fun v H2 => v = .non ∧ Q x H2) E := by
  have s : Same H1 (upd (upd H1 dx (.own x)) x (.ins (CT K) dx [])) := Same.mk'' (Same.nu hd) hx
  refine ⟨x, l, dx, ts, es, ps, rfl, upd_same, SqL.of (s _ _ hl), hps.sx s, hps.new hx, ?_, ok, fun H2 k hv => ⟨rfl, q x H2 hx (fun b o e => k b o (ne_of_none e hx) (s _ _ e)) hv⟩⟩
  exact Paired.mapP hp fun t e ⟨b, y, h1, h2, h3⟩ => ⟨b, y, h1, s _ _ h2, h3⟩
section
variable {H : Hp} {Q : Addr → Hp → Prop} {E : XK} {k k2 : Key} {y y2 : V} {d d2 : Val} {ps : List Addr}
theorem mk1 (hd : flat d = some y) (ok : okE 0 [(k, d)]) (hps : Has H ps) (q : ∀ x H', Same H H' → VAt (CT K) (cut H' ps) 1 (.ref x) (.tab [(k, d)]) → Q x H') :
    [kV k, y].length ≤ sizeLine ∧ ∀ p, H p = none → ([V.ref p].length ≤ sizeLine ∧ ∀ l, (upd H p (.tup [kV k, y])) l = none → ∀ x dx, (upd (upd H p (.tup [kV k, y])) l (.lst [.ref p])) x = none → (upd (upd H p (.tup [kV k, y])) l (.lst [.ref p])) dx = none → dx ≠ x →
      spTable K 0 (.ref x :: ([.ref l] ++ [])) (upd (upd (upd (upd H p (.tup [kV k, y])) l (.lst [.ref p])) dx (.own x)) x (.ins (CT K) dx [])) (fun v H2 => v = .non ∧ Q x H2) E) := by
  refine ⟨(by show 2 ≤ sizeLine; decide), fun p hp => ⟨(by show 1 ≤ sizeLine; decide), fun l hl => ?_⟩⟩
  exact tab_make (es := [(k, d)]) upd_same (.cons ⟨p, y, rfl, Same.nu hl _ _ upd_same, hd⟩ .nil) ok ((hps.sx (Same.nu hp)).sx (Same.nu hl)) fun x H2 _ s v => q x H2 (((Same.nu hp).trans (Same.nu hl)).trans s) v
theorem mk2 (hd : flat d = some y) (hd2 : flat d2 = some y2) (ok : okE 0 [(k, d), (k2, d2)]) (hps : Has H ps) (q : ∀ x H', Same H H' → VAt (CT K) (cut H' ps) 1 (.ref x) (.tab [(k, d), (k2, d2)]) → Q x H') :
    [kV k, y].length ≤ sizeLine ∧ ∀ p, H p = none → ([kV k2, y2].length ≤ sizeLine ∧ ∀ p2, (upd H p (.tup [kV k, y])) p2 = none → ([V.ref p, V.ref p2].length ≤ sizeLine ∧ ∀ l, (upd (upd H p (.tup [kV k, y])) p2 (.tup [kV k2, y2])) l = none →
      ∀ x dx, (upd (upd (upd H p (.tup [kV k, y])) p2 (.tup [kV k2, y2])) l (.lst [.ref p, .ref p2])) x = none → (upd (upd (upd H p (.tup [kV k, y])) p2 (.tup [kV k2, y2])) l (.lst [.ref p, .ref p2])) dx = none → dx ≠ x →
      spTable K 0 (.ref x :: ([.ref l] ++ [])) (upd (upd (upd (upd (upd H p (.tup [kV k, y])) p2 (.tup [kV k2, y2])) l (.lst [.ref p, .ref p2])) dx (.own x)) x (.ins (CT K) dx [])) (fun v H2 => v = .non ∧ Q x H2) E)) := by
  refine ⟨(by show 2 ≤ sizeLine; decide), fun p hp => ⟨(by show 2 ≤ sizeLine; decide), fun p2 hp2 => ⟨(by show 2 ≤ sizeLine; decide), fun l hl => ?_⟩⟩⟩
  exact tab_make (es := [(k, d), (k2, d2)]) upd_same (.cons ⟨p, y, rfl, Same.nu hl _ _ (Same.nu hp2 _ _ upd_same), hd⟩ (.cons ⟨p2, y2, rfl, Same.nu hl _ _ upd_same, hd2⟩ .nil)) ok (((hps.sx (Same.nu hp)).sx (Same.nu hp2)).sx (Same.nu hl))
    fun x H2 _ s v => q x H2 ((((Same.nu hp).trans (Same.nu hp2)).trans (Same.nu hl)).trans s) v
end
def spProbes (K : PySem.W.Frag) : Sp := fun vs H Q _ => vs = [] ∧ ∀ H' l xs, Same H H' → H' l = some (.lst xs) → Paired (VAt (CT K) H' 1) xs probesV → Q (.ref l) H'
theorem ok_prI {es : List (Key × Val)} (i : Nat) (h : probesV[i]? = some (Val.tab es)) : okE 0 es := ok_tab (Ok_probe _ (List.mem_of_getElem? h))
theorem ok_probes (T : Tx w K mg) : Gd P w K base mg CX0 4 (He.fAd K d_probes.at_) [] [] (spProbes K) := by
  have G_Table_init := ok_Table_init (P := P) (w := w) (base := base) T 0
  obtain ⟨tLONG, hLONG⟩ := T.LONG
  refine mkGd (T.f_probes) sc_probes (fun vs H Q E h => ?_) (fun _ _ _ _ _ _ us hl => match us, hl with | [], _ => rfl) (fun cdv A outer s H vs Q E hr h => ?_)
  · obtain ⟨rfl, _⟩ := h
    rfl
  · have hu := hu_of hr
    obtain ⟨rfl, q⟩ := h
    refine ⟨_, (pss_cons (ps_par (i := 0) (j := 1) (by rfl) sc_probes.nd rfl rfl (by decide) rfl rfl (pa_cons (pe_makeG T.mk_Table G_Table_init (hr.mono (by first | decide | omega)) T.g_Table pass0 (pa_cons (pe_lst (pa_cons (pe_tup (pa_cons pe_int (pa_cons pe_int pa_nil))) pa_nil)) pa_nil)) (pa_cons (pe_makeG T.mk_Table G_Table_init (hr.mono (by first | decide | omega)) T.g_Table pass0 (pa_cons (pe_lst (pa_cons (pe_tup (pa_cons pe_int (pa_cons pe_non pa_nil))) pa_nil)) pa_nil)) pa_nil)) (by rfl))
      (pss_cons (ps_set (i := 2) sc_probes.nd rfl (Or.inl rfl) (pe_lst (pa_cons (pe_tup pa_nil) (pa_cons (pe_lst pa_nil) (pa_cons (pe_glob (v := .int (10 ^ 15)) rfl hLONG ⟨_, rfl⟩) (pa_cons (pv 0) (pa_cons (pe_makeG T.mk_Table G_Table_init (hr.mono (by first | decide | omega)) T.g_Table pass0 (pa_cons (pe_lst (pa_cons (pe_tup (pa_cons pe_str (pa_cons pe_int pa_nil))) pa_nil)) pa_nil)) (pa_cons (pe_makeG T.mk_Table G_Table_init (hr.mono (by first | decide | omega)) T.g_Table pass0 (pa_cons (pe_lst (pa_cons (pe_tup (pa_cons pe_str (pa_cons pe_non pa_nil))) pa_nil)) pa_nil)) (pa_cons (pv 1) pa_nil)))))))))
      (pss_cons (ps_expr (pe_bm PySem.F.plainAttrs_list PySem.F.slot_list_append PySem.F.type_list_append mt_append (pv 2) (pa_cons (pe_makeG T.mk_Table G_Table_init (hr.mono (by first | decide | omega)) T.g_Table pass0 (pa_cons (pe_lst (pa_cons (pe_tup (pa_cons pe_str (pa_cons pe_int pa_nil))) (pa_cons (pe_tup (pa_cons pe_str (pa_cons pe_int pa_nil))) pa_nil))) pa_nil)) pa_nil)))
      (pss_cons (ps_expr (pe_bm PySem.F.plainAttrs_list PySem.F.slot_list_append PySem.F.type_list_append mt_append (pv 2) (pa_cons (pe_makeG T.mk_Table G_Table_init (hr.mono (by first | decide | omega)) T.g_Table pass0 (pa_cons (pe_lst (pa_cons (pe_tup (pa_cons pe_int (pa_cons pe_int pa_nil))) (pa_cons (pe_tup (pa_cons pe_str (pa_cons pe_int pa_nil))) pa_nil))) pa_nil)) pa_nil)))
      (pss_cons (ps_expr (pe_bm PySem.F.plainAttrs_list PySem.F.slot_list_append PySem.F.type_list_append mt_append (pv 2) (pa_cons (pe_makeG T.mk_Table G_Table_init (hr.mono (by first | decide | omega)) T.g_Table pass0 (pa_cons (pe_lst (pa_cons (pe_tup (pa_cons pe_int (pa_cons pe_int pa_nil))) (pa_cons (pe_tup (pa_cons pe_str (pa_cons pe_non pa_nil))) pa_nil))) pa_nil)) pa_nil)))
      (pss_cons (ps_expr (pe_bm PySem.F.plainAttrs_list PySem.F.slot_list_append PySem.F.type_list_append mt_append (pv 2) (pa_cons (pe_makeG T.mk_Table G_Table_init (hr.mono (by first | decide | omega)) T.g_Table pass0 (pa_cons (pe_lst (pa_cons (pe_tup (pa_cons pe_int (pa_cons pe_non pa_nil))) (pa_cons (pe_tup (pa_cons pe_str (pa_cons pe_int pa_nil))) pa_nil))) pa_nil)) pa_nil)))
      (pss_one (ps_ret (pv 2))))))))), ?_⟩
    have mv : ∀ {ps : List Addr} {Ha Hb : Hp} {v : V} {d : Val}, Same Ha Hb → VAt (CT K) (cut Ha []) 1 v d → VAt (CT K) (cut Hb []) 1 v d := fun s v => VAt.same (cut_sx (Sx.of s)) v
    refine mk1 (k := .inl 5) (d := .int 0) rfl (ok_prI 3 rfl) Has.nil fun z0 A0 s0 v0 => ?_
    refine mk1 (k := .inl 5) (d := .non) rfl (ok_prI 6 rfl) Has.nil fun z1 A1 s1 v1 => ?_
    refine ⟨_, _, rfl, ?_⟩
    refine ⟨Nat.zero_le _, fun t0 ht0 => ⟨Nat.zero_le _, fun t1 ht1 => ⟨_, rfl, ?_⟩⟩⟩
    refine mk1 (k := .inr "5") (d := .int 0) rfl (ok_prI 4 rfl) Has.nil fun z2 A2 s2 v2 => ?_
    refine mk1 (k := .inr "k") (d := .non) rfl (ok_prI 5 rfl) Has.nil fun z3 A3 s3 v3 => ?_
    refine ⟨_, rfl, (by show 7 ≤ sizeLine; decide), fun L hL => ?_⟩
    have c0 : ∀ {Ha : Hp} {v : V} {d : Val}, Same Ha A3 → VAt (CT K) (cut Ha []) 1 v d → ∀ o, VAt (CT K) (cut (upd A3 L o) [L]) 1 v d := fun s v o => VAt.same (by rw [cut_cons]; exact fun b u e => cut_at (fun z => by rw [List.mem_singleton.mp z] at e; rw [s L u (cut_le _ _ e)] at hL; cases hL) (s b u (cut_le _ _ e))) v
    have n1 := (Same.nu (o := HO.lst []) ht1)
    have n0 := (Same.nu (o := HO.tup []) ht0)
    have e0 : (upd (upd A1 t0 (.tup [])) t1 (.lst [])) t0 = some (.tup []) := n1 _ _ upd_same
    have e1 : (upd (upd A1 t0 (.tup [])) t1 (.lst [])) t1 = some (.lst []) := upd_same
    have b0 := n0.trans n1
    have p0 : Paired (VAt (CT K) (cut (upd A3 L (.lst [.ref t0, .ref t1, .int (10 ^ 15), .ref z0, .ref z2, .ref z3, .ref z1])) [L]) 1) [.ref t0, .ref t1, .int (10 ^ 15), .ref z0, .ref z2, .ref z3, .ref z1] (probesV.take 7) := by
      refine .cons ?_ (.cons ?_ (.cons (.inl rfl) (.cons ?_ (.cons ?_ (.cons ?_ (.cons ?_ .nil))))))
      · exact c0 (Ha := upd (upd A1 t0 (.tup [])) t1 (.lst [])) (s2.trans s3) (.inr (.inl ⟨false, [], t0, [], rfl, rfl, by rw [cut_nil]; exact e0, .nil⟩)) _
      · exact c0 (Ha := upd (upd A1 t0 (.tup [])) t1 (.lst [])) (s2.trans s3) (.inr (.inl ⟨true, [], t1, [], rfl, rfl, by rw [cut_nil]; exact e1, .nil⟩)) _
      · exact c0 (((s1.trans b0).trans s2).trans s3) v0 _
      · exact c0 s3 v2 _
      · exact c0 (Same.refl _) v3 _
      · exact c0 ((b0.trans s2).trans s3) v1 _
    have g0 : Same H (upd A3 L (.lst [.ref t0, .ref t1, .int (10 ^ 15), .ref z0, .ref z2, .ref z3, .ref z1])) := Same.mk' ((((s0.trans s1).trans b0).trans s2).trans s3) hL
    have hL0 : (upd A3 L (.lst [.ref t0, .ref t1, .int (10 ^ 15), .ref z0, .ref z2, .ref z3, .ref z1])) L = some (.lst [.ref t0, .ref t1, .int (10 ^ 15), .ref z0, .ref z2, .ref z3, .ref z1]) := upd_same
    have nH : H L = none := by
      cases e : H L with
      | none => rfl
      | some o => rw [((((s0.trans s1).trans b0).trans s2).trans s3) _ _ e] at hL; cases hL
    generalize hB : upd A3 L (.lst [.ref t0, .ref t1, .int (10 ^ 15), .ref z0, .ref z2, .ref z3, .ref z1]) = B0 at p0 g0 hL0 ⊢
    have hasL : ∀ {B : Hp} {xs : List V}, B L = some (.lst xs) → Has B [L] := fun h b hb => by rw [List.mem_singleton.mp hb, h]; simp
    have step : ∀ {B B' : Hp} {xs : List V} {ds : List Val} {d : Val} {z : Addr}, B L = some (.lst xs) → Same H B → Paired (VAt (CT K) (cut B [L]) 1) xs ds → Same B B' → VAt (CT K) (cut B' [L]) 1 (.ref z) d →
        B' L = some (.lst xs) ∧ Same H (upd B' L (.lst (xs ++ [.ref z]))) ∧ Paired (VAt (CT K) (cut (upd B' L (.lst (xs ++ [.ref z]))) [L]) 1) (xs ++ [.ref z]) (ds ++ [d]) := fun h1 h2 h3 h4 h5 =>
      ⟨h4 _ _ h1, Same.mk'' (h2.trans h4) nH, by rw [cut_cons]; exact Paired.snoc (Paired.mapP h3 fun _ _ v => VAt.same (cut_sx (Sx.of h4)) v) h5⟩
    refine ⟨_, rfl, .inl ⟨rfl, _, SqL.of hL0⟩, mk2 (k := .inr "b") (d := .int 0) (k2 := .inr "a") (d2 := .int 0) rfl rfl (ok_prI 7 rfl) (hasL hL0) fun x1 B1 r1 w1 => ?_⟩
    obtain ⟨h1, g1, p1⟩ := step hL0 g0 p0 r1 w1
    refine ⟨L, _, _, rfl, rfl, h1, (by show 7 < sizeLine; decide), ?_⟩
    refine ⟨_, rfl, .inl ⟨rfl, _, SqL.of upd_same⟩, mk2 (k := .inl 5) (d := .int 0) (k2 := .inr "5") (d2 := .int 1) rfl rfl (ok_prI 8 rfl) (hasL upd_same) fun x2 B2 r2 w2 => ?_⟩
    obtain ⟨h2, g2, p2⟩ := step upd_same g1 p1 r2 w2
    refine ⟨L, _, _, rfl, rfl, h2, (by show 8 < sizeLine; decide), ?_⟩
    refine ⟨_, rfl, .inl ⟨rfl, _, SqL.of upd_same⟩, mk2 (k := .inl 5) (d := .int 0) (k2 := .inr "5") (d2 := .non) rfl rfl (ok_prI 9 rfl) (hasL upd_same) fun x3 B3 r3 w3 => ?_⟩
    obtain ⟨h3, g3, p3⟩ := step upd_same g2 p2 r3 w3
    refine ⟨L, _, _, rfl, rfl, h3, (by show 9 < sizeLine; decide), ?_⟩
    refine ⟨_, rfl, .inl ⟨rfl, _, SqL.of upd_same⟩, mk2 (k := .inl 5) (d := .non) (k2 := .inr "5") (d2 := .int 0) rfl rfl (ok_prI 10 rfl) (hasL upd_same) fun x4 B4 r4 w4 => ?_⟩
    obtain ⟨h4, g4, p4⟩ := step upd_same g3 p3 r4 w4
    refine ⟨L, _, _, rfl, rfl, h4, (by show 10 < sizeLine; decide), ?_⟩
    exact ⟨_, rfl, q _ L _ g4 upd_same (Paired.mapP p4 fun _ _ v => VAt.same cut_le v)⟩
end
end Kt
set_option Elab.async false
set_option linter.all false
set_option maxRecDepth 100000
set_option maxHeartbeats 4000000
namespace Kt
open PySem PySem.Spec PyProof.Rows L2 Rz TL
section
variable {P : Program} {w : World} {K : PySem.W.Frag} {mg : Str → Option Value} {base : Heap}
def optV : Option Str → V
  | none => .non
  | some z => .str z
theorem optV_inj {a b : Option Str} : decide (optV a = optV b) = decide (a = b) := by
  cases a <;> cases b <;> simp [optV]
theorem optV_scal {a b : Option Str} : scal (optV a) (optV b) = true := by
  cases a <;> cases b <;> rfl
def spTON (K : PySem.W.Frag) (k : Nat) : Sp := fun vs H Q _ => ∃ (p : Addr) (x : V) (o : Opt) (d : Val), vs = [.ref p, x] ∧ WAt K H p o ∧ VAt (CT K) H k x d ∧ Ok k d ∧ LamX.Tabs (TT K) H ∧ ∀ H', Xt K H H' → Q (optV (txt o k d)) H'
theorem ok_text_or_none (T : Tx w K mg) (hTB : LamX.TabB base mg (He.codeOf K keD) (keT K)) : Gd P w K base mg CX0 12 (He.fAd K d_text_or_none.at_) ["writer", "value"] [] (spTON K 1) := by
  have G_Writer_write := ok_Writer_write (P := P) (w := w) (base := base) T hTB 1 (by decide)
  refine mkGd (T.f_text_or_none) sc_text_or_none (fun vs H Q E h => ?_) (fun _ _ _ _ _ _ us hl => match us, hl with | [_, _], _ => rfl) (fun cdv A outer s H vs Q E hr h => ?_)
  · obtain ⟨p, x, o, d, rfl, _⟩ := h
    rfl
  · have hu := hu_of hr
    obtain ⟨p, x, o, d, rfl, hW, hv, ok, hT, q⟩ := h
    have hW' := hW
    obtain ⟨dw, hW⟩ := hW
    refine ⟨_, (pss_one (ps_try_only rfl rfl ⟨rfl, by decide, .inl T.g_Unwritable⟩ takes0 (fun W pn xe tk _ => (pss_one (ps_ret (pe_methXS (pv 0) T.cl_Writer T.m_Writer_write G_Writer_write (hr.mono (by first | decide | omega)) (fun σ => passAt tk σ) (pa_cons (pv 1) pa_nil))))) (fun a oe cls d pn _ _ => (pss_one (ps_ret pe_non))))), ?_⟩
    refine ⟨_, rfl, p, dw, _, rfl, hW, rfl, _, rfl, p, x, o, d, rfl, hW', hv, ok, hT, fun hn d1 H' X => ⟨true, T.exm, fun _ a ha => ?_, fun z => nomatch z⟩, fun z ez H' X => ?_⟩
    · have e := q H' X
      rw [hn] at e
      exact e
    · have e := q H' X
      rw [ez] at e
      exact e
theorem find_first {α : Type} {f : α → Bool} : ∀ {l : List α} {i : Nat} {a : α}, (∀ x ∈ l.take i, f x = false) → l[i]? = some a → f a = true → l.find? f = some a
  | [], _, _, _, h, _ => by simp at h
  | x :: r, 0, a, _, h, e => by
    simp at h
    subst h
    rw [List.find?_cons, e]
  | x :: r, i + 1, a, n, h, e => by
    have h1 : f x = false := n x (by simp)
    rw [List.find?_cons, h1]
    exact find_first (i := i) (fun y hy => n y (by rw [List.take_succ_cons]; exact List.mem_cons_of_mem _ hy)) (by simpa using h) e
def spPart (K : PySem.W.Frag) : Sp := fun vs H Q _ => ∃ (p p2 : Addr) (o o2 : Opt), vs = [.ref p, .ref p2] ∧ WAt K H p o ∧ WAt K H p2 o2 ∧ LamX.Tabs (TT K) H ∧
  ∀ H' v, Xt K H H' → (foundV o o2 = none → v = .non) → (∀ d, foundV o o2 = some d → VAt (CT K) H' 1 v d) → Q v H'
theorem ok_parting_texts (T : Tx w K mg) (hTB : LamX.TabB base mg (He.codeOf K keD) (keT K)) : Gd P w K base mg CX0 13 (He.fAd K d_parting_texts.at_) ["first", "second"] [] (spPart K) := by
  have G_probes := ok_probes (P := P) (w := w) (base := base) T
  have G_text_or_none := ok_text_or_none (P := P) (w := w) (base := base) T hTB
  refine mkGd (T.f_parting_texts) sc_parting_texts (fun vs H Q E h => ?_) (fun _ _ _ _ _ _ us hl => match us, hl with | [_, _], _ => rfl) (fun cdv A outer s H vs Q E hr h => ?_)
  · obtain ⟨p, p2, o, o2, rfl, _⟩ := h
    rfl
  · have hu := hu_of hr
    obtain ⟨p, p2, o, o2, rfl, hW, hW2, hT, q⟩ := h
    refine ⟨_, (pss_cons (ps_for PassesOwn.never rfl (pi_list (pe_callG0 G_probes T.g_probes (hr.mono (by first | decide | omega)) pass0)) (pg_name (i := 2) sc_parting_texts.nd rfl (Or.inl rfl))
      (pss_one (ps_if (pt_cmpR op_ne (pe_callG G_text_or_none T.g_text_or_none (hr.mono (by first | decide | omega)) pass0 (pa_cons (pv 0) (pa_cons (pv 2) pa_nil))) (pe_callG G_text_or_none T.g_text_or_none (hr.mono (by first | decide | omega)) pass0 (pa_cons (pv 1) (pa_cons (pv 2) pa_nil))) (nomark _)) (pss_one (ps_ret (pv 2))) pss_nil)))
      (pss_one (ps_ret pe_non))), ?_⟩
    refine ⟨rfl, fun H1 l xs s1 hl hp => ⟨l, rfl, ⟨xs, SqL.of hl⟩, for_list (xs := xs) (fun i σ H' => (∃ v, σ = [some (.ref p), some (.ref p2), v]) ∧ Xt K H1 H' ∧ ∀ d ∈ probesV.take i, partB o o2 d = false) ⟨⟨_, rfl⟩, Xt.same (hT.ext s1) (Same.refl _), by rw [List.take_zero]; exact fun _ h => nomatch h⟩ (fun i σ H' _ h => SqL.of (h.2.1.1 _ _ hl fun _ z => nomatch z)) ?_ ?_⟩⟩
    · rintro i x σ H' hx ⟨⟨v, rfl⟩, X, hb⟩
      obtain ⟨d, hd, hv⟩ := Paired.at hp hx
      have okd : Ok 1 d := Ok_probe d (List.mem_of_getElem? hd)
      have X0 : Xt K H H' := Xt.trans (Xt.same hT s1) X
      have hv' := VAt.x X.1 hv
      refine ⟨_, rfl, _, rfl, p, x, o, d, rfl, WAt.x hW X0.1, hv', okd, X0.2, fun H2 X2 => ⟨_, rfl, _, rfl, p2, x, o2, d, rfl, WAt.x hW2 (X0.1.trans X2.1), VAt.x X2.1 hv', okd, X2.2, fun H3 X3 => ⟨optV_scal, _, rfl, ?_⟩⟩⟩
      rw [optV_inj]
      show if partB o o2 d = true then _ else _
      cases hpb : partB o o2 d with
      | true =>
        have ef : foundV o o2 = some d := find_first hb hd hpb
        refine iteT ⟨_, rfl, q H3 x (Xt.trans (Xt.trans X0 X2) X3) (fun z => by rw [ef] at z; cases z) fun d' z => ?_⟩
        rw [ef] at z
        cases z
        exact VAt.x X3.1 (VAt.x X2.1 hv')
      | false =>
        refine iteF ⟨⟨_, rfl⟩, Xt.trans (Xt.trans X X2) X3, fun y hy => ?_⟩
        rw [take_snoc hd] at hy
        rcases List.mem_append.mp hy with z | z
        · exact hb y z
        · rw [List.mem_singleton.mp z]; exact hpb
    · rintro σ H' ⟨⟨v, rfl⟩, X, hb⟩
      have hn : foundV o o2 = none := List.find?_eq_none.mpr fun y hy => by
        rw [Paired.length hp, List.take_length] at hb
        rw [hb y hy]; simp
      exact q H' .non (Xt.trans (Xt.same hT s1) X) (fun _ => rfl) fun d z => by rw [hn] at z; cases z
end
end Kt
set_option Elab.async false
set_option linter.all false
set_option maxRecDepth 100000
set_option maxHeartbeats 4000000
namespace Kt
open PySem PySem.Spec PyProof.Rows L2 Rz TL
section
variable {P : Program} {w : World} {K : PySem.W.Frag} {mg : Str → Option Value} {base : Heap}
/-- at p stands a source of draws, at most n numbers mixed so far -/
def Dr (H : Hp) (p : Addr) (n : Nat) : Prop := ∃ g m c : Int, H p = some (.lst [.int g, .int m, .int c]) ∧ 0 ≤ g ∧ 0 ≤ m ∧ m < 4000000000000000000 ∧ 0 ≤ c ∧ c ≤ (n : Int)
theorem Dr.up {H : Hp} {p : Addr} {n m : Nat} (h : Dr H p n) (e : n ≤ m) : Dr H p m := by
  obtain ⟨g, k, c, h1, h2, h3, h4, h5, h6⟩ := h
  exact ⟨g, k, c, h1, h2, h3, h4, h5, by omega⟩
theorem Dr.same {H H' : Hp} {p : Addr} {n : Nat} (h : Dr H p n) (s : Same H H') : Dr H' p n := by
  obtain ⟨g, k, c, h1, h2⟩ := h
  exact ⟨g, k, c, s _ _ h1, h2⟩
theorem Dr.ne {H : Hp} {p q : Addr} {n : Nat} (h : Dr H p n) (e : H q = none) : q ≠ p := by
  obtain ⟨g, k, c, h1, h2⟩ := h
  exact fun z => by rw [z, h1] at e; cases e
theorem Sx.one {H H' : Hp} {p b : Addr} {o : HO} (s : Sx [p] H H') (h : b ≠ p) (e : H b = some o) : H' b = some o := s b o (by simpa using h) e
theorem Sx.sm {H H1 H' : Hp} {ps : List Addr} (s : Sx ps H H1) (e : Same H1 H') : Sx ps H H' := s.trans (Sx.of e)
def spSource (K : PySem.W.Frag) : Sp := fun vs H Q _ => ∃ (a : Addr) (ns : List Int) (i : Nat), vs = [.ref a, .int (i : Int)] ∧ SqL K H a (ns.map V.int) ∧ i ≤ 63 ∧ ∀ p H', H p = none → Same H H' → Dr H' p 0 → Q (.ref p) H'
theorem ok__law_source (T : Tx w K mg) : Gd P w K base mg CX0 1 (He.fAd K d__law_source.at_) ["_law_script", "_law_place"] [] (spSource K) := by
  refine mkGd (T.f__law_source) sc__law_source (fun vs H Q E h => ?_) (fun _ _ _ _ _ _ us hl => match us, hl with | [_, _], _ => rfl) (fun cdv A outer s H vs Q E hr h => ?_)
  · obtain ⟨a, ns, i, rfl, _⟩ := h
    rfl
  · have hu := hu_of hr
    obtain ⟨a, ns, i, rfl, hS, hi, q⟩ := h
    refine ⟨_, (pss_cons (ps_set (i := 2) sc__law_source.nd rfl (Or.inl rfl) (pe_ifExp (pt_cmpR op_lt (pv 1) (pe_callB call_len_seq (by rfl) T.n_len PySem.boot_len (pa_cons (pv 0) pa_nil)) (nomark _)) (pe_ix (r := rIxL K) ix_list (pv 0) (pv 1) (fun _ _ => rfl)) pe_int))
      (pss_cons (ps_set (i := 3) sc__law_source.nd rfl (Or.inl rfl) (pe_ifExp (pt_cmpR op_ge (pe_callB call_abs (by rfl) T.n_abs (by decide +kernel) (pa_cons (pv 2) pa_nil)) (pe_op op_pow pe_int pe_int) (nomark _)) (pe_callB call_abs (by rfl) T.n_abs (by decide +kernel) (pa_cons (pv 2) pa_nil)) pe_int))
      (pss_one (ps_ret (pe_lst (pa_cons (pv 3) (pa_cons (pe_op op_add (pe_op op_add (pe_op op_mod (pe_callTy call_int1 (by rfl) T.n_int (by decide +kernel) (pa_cons (pv 2) pa_nil)) pe_int) (pe_op op_mul pe_int (pv 1))) pe_int) (pa_cons pe_int pa_nil)))))))), ?_⟩
    refine ⟨_, rfl, _, rfl, a, _, rfl, Or.inl hS, _, _, rfl, rfl, _, rfl, ite2 (fun hlt => ?_) (fun _ => ?_)⟩
    · have hlt : (i : Int) < ((ns.map V.int).length : Int) := of_decide_eq_true hlt
      have hlt' : i < ns.length := by
        rw [List.length_map] at hlt
        omega
      refine ⟨_, rfl, _, rfl, a, _, _, V.int ns[i], rfl, rfl, hS, at_of (j := i) rfl (by simp [hlt']), ?_⟩
      refine ⟨_, rfl, _, rfl, _, _, rfl, rfl, ⟨by decide, by decide, by decide⟩, _, _, rfl, rfl, _, rfl, ite2 (fun _ => ⟨_, rfl, _, rfl, ?_⟩) (fun _ => ?_)⟩
      all_goals
        refine ⟨_, rfl, _, rfl, .inl ⟨_, rfl, _, _, rfl, rfl, (by show (0 : Int) < 2305843009213693907; decide), _, rfl, _, _, rfl, rfl, .inl ⟨by decide, by decide⟩, _, _, rfl, rfl, _, _, rfl, rfl, (by show 3 ≤ sizeLine; decide), fun p hp => ?_⟩⟩
        refine q p _ hp (Same.nu hp) ⟨_, _, 0, upd_same, ?_, ?_, ?_, by omega, by omega⟩
        · first | omega | (split <;> omega)
        · have := Int.emod_nonneg (ns[i]) (show (2305843009213693907 : Int) ≠ 0 by decide)
          omega
        · have := Int.emod_lt_of_pos (ns[i]) (show (0 : Int) < 2305843009213693907 by decide)
          omega
    · refine ⟨_, rfl, _, rfl, _, _, rfl, rfl, ⟨by decide, by decide, by decide⟩, _, _, rfl, rfl, _, rfl, ite2 (fun _ => ⟨_, rfl, _, rfl, ?_⟩) (fun _ => ?_)⟩
      all_goals
        refine ⟨_, rfl, _, rfl, .inl ⟨_, rfl, _, _, rfl, rfl, (by show (0 : Int) < 2305843009213693907; decide), _, rfl, _, _, rfl, rfl, .inl ⟨by decide, by decide⟩, _, _, rfl, rfl, _, _, rfl, rfl, (by show 3 ≤ sizeLine; decide), fun p hp => ?_⟩⟩
        refine q p _ hp (Same.nu hp) ⟨_, _, 0, upd_same, ?_, ?_, ?_, by omega, by omega⟩
        · first | decide | omega
        · have : (0 : Int) % 2305843009213693907 = 0 := by decide
          omega
        · have : (0 : Int) % 2305843009213693907 = 0 := by decide
          omega
def spDraw : Sp := fun vs H Q _ => ∃ (p : Addr) (n : Nat) (m : Int), vs = [.ref p, .int m] ∧ Dr H p n ∧ n < 1000000 ∧ 0 < m ∧ m < 2 ^ 70 ∧ ∀ d H', 0 ≤ d → d < m → Dr H' p (n + 1) → Sx [p] H H' → Q (.int d) H'
theorem ok__law_draw (T : Tx w K mg) : Gd P w K base mg CX0 1 (He.fAd K d__law_draw.at_) ["_law_source_here", "_law_many"] [] spDraw := by
  refine mkGd (T.f__law_draw) sc__law_draw (fun vs H Q E h => ?_) (fun _ _ _ _ _ _ us hl => match us, hl with | [_, _], _ => rfl) (fun cdv A outer s H vs Q E hr h => ?_)
  · obtain ⟨p, n, m, rfl, _⟩ := h
    rfl
  · have hu := hu_of hr
    obtain ⟨p, n, m, rfl, D, hn, hm0, hm1, q⟩ := h
    obtain ⟨g, k, c, hp, hg, hk0, hk1, hc0, hc1⟩ := D
    refine ⟨_, (pss_cons (ps_if (pt_cmpR op_gt (pe_ix (r := rIxL K) ix_list (pv 0) pe_int (fun _ _ => rfl)) pe_int (nomark _)) (pss_cons (ps_set (i := 2) sc__law_draw.nd rfl (Or.inl rfl) (pe_op op_mod (pe_callTy call_int1 (by rfl) T.n_int (by decide +kernel) (pa_cons (pe_ix (r := rIxL K) ix_list (pv 0) pe_int (fun _ _ => rfl)) pa_nil)) (pv 1)))
      (pss_cons (ps_asg (pe_op op_fdivW (pe_ix (r := rIxL K) ix_list (pv 0) pe_int (fun _ _ => rfl)) (pv 1)) (pg_sub (pv 0) pe_int set_list))
      (pss_one (ps_ret (pv 2))))) pss_nil)
      (pss_cons (ps_asg (pe_op op_add (pe_ix (r := rIxL K) ix_list (pv 0) pe_int (fun _ _ => rfl)) pe_int) (pg_sub (pv 0) pe_int set_list))
      (pss_cons (ps_set (i := 3) sc__law_draw.nd rfl (Or.inl rfl) (pe_op op_mod (pe_callTy call_int1 (by rfl) T.n_int (by decide +kernel) (pa_cons (pe_op op_pow (pe_op op_add (pe_ix (r := rIxL K) ix_list (pv 0) pe_int (fun _ _ => rfl)) (pe_op op_mul pe_int (pe_ix (r := rIxL K) ix_list (pv 0) pe_int (fun _ _ => rfl)))) pe_int) pa_nil)) pe_int))
      (pss_cons (ps_set (i := 3) sc__law_draw.nd rfl (Or.inl rfl) (pe_op op_mod (pe_callTy call_int1 (by rfl) T.n_int (by decide +kernel) (pa_cons (pe_op op_pow (pe_op op_add (pv 3) (pe_op op_mul pe_int (pe_ix (r := rIxL K) ix_list (pv 0) pe_int (fun _ _ => rfl)))) pe_int) pa_nil)) pe_int))
      (pss_one (ps_ret (pe_op op_mod (pe_callTy call_int1 (by rfl) T.n_int (by decide +kernel) (pa_cons (pe_op op_fdiv (pv 3) pe_int) pa_nil)) (pv 1)))))))), ?_⟩
    refine ⟨_, rfl, p, _, 0, _, rfl, rfl, SqL.of hp, at_of (j := 0) rfl rfl, _, _, rfl, rfl, _, rfl, ite2 (fun _ => ?_) (fun _ => ?_)⟩
    · refine ⟨_, rfl, p, _, 0, _, rfl, rfl, SqL.of hp, at_of (j := 0) rfl rfl, .inl ⟨_, rfl, _, rfl, _, _, rfl, rfl, hm0, ?_⟩⟩
      refine ⟨_, rfl, p, _, 0, _, rfl, rfl, SqL.of hp, at_of (j := 0) rfl rfl, _, rfl, _, _, rfl, rfl, wide_div (b := 70) hm0 (by omega) (by decide) (by decide), ?_⟩
      refine ⟨_, rfl, p, _, _, 0, rfl, rfl, hp, rfl, ?_⟩
      exact ⟨_, rfl, q _ _ (Int.emod_nonneg _ (by omega)) (Int.emod_lt_of_pos _ hm0) ⟨g / m, k, c, upd_same, Int.ediv_nonneg hg (by omega), hk0, hk1, hc0, by omega⟩ (Sx.up (by simp))⟩
    · refine ⟨_, rfl, p, _, 2, _, rfl, rfl, SqL.of hp, at_of (j := 2) rfl rfl, _, _, rfl, rfl, _, rfl, p, _, _, 2, rfl, rfl, hp, rfl, ?_⟩
      have hp1 : (upd H p (.lst [.int g, .int k, .int (c + 1)])) p = some (.lst [.int g, .int k, .int (c + 1)]) := upd_same
      refine ⟨_, rfl, p, _, 1, _, rfl, rfl, SqL.of hp1, at_of (j := 1) rfl rfl, _, rfl, p, _, 2, _, rfl, rfl, SqL.of hp1, at_of (j := 2) rfl rfl, _, _, rfl, rfl, .inl ⟨by decide, by decide⟩, _, _, rfl, rfl, _, _, rfl, rfl, ⟨by decide, by decide, by omega⟩, .inl ⟨_, rfl, _, _, rfl, rfl, (by show (0 : Int) < 2305843009213693921; decide), ?_⟩⟩
      have b0 := Int.emod_nonneg ((k + 611953 * (c + 1)) ^ (3 : Int).toNat) (show (2305843009213693921 : Int) ≠ 0 by decide)
      have b1 := Int.emod_lt_of_pos ((k + 611953 * (c + 1)) ^ (3 : Int).toNat) (show (0 : Int) < 2305843009213693921 by decide)
      generalize (k + 611953 * (c + 1)) ^ (3 : Int).toNat % 2305843009213693921 = x at b0 b1 ⊢
      refine ⟨_, rfl, _, rfl, p, _, 2, _, rfl, rfl, SqL.of hp1, at_of (j := 2) rfl rfl, _, _, rfl, rfl, .inl ⟨by decide, by decide⟩, _, _, rfl, rfl, _, _, rfl, rfl, ⟨by decide, by decide, by omega⟩, .inl ⟨_, rfl, _, _, rfl, rfl, (by show (0 : Int) < 2305843009213693951; decide), ?_⟩⟩
      refine ⟨_, rfl, _, _, rfl, rfl, ⟨by decide, by decide⟩, .inl ⟨_, rfl, _, rfl, _, _, rfl, rfl, hm0, ?_⟩⟩
      exact q _ _ (Int.emod_nonneg _ (by omega)) (Int.emod_lt_of_pos _ hm0) ⟨g, k, c + 1, upd_same, hg, hk0, hk1, by omega, by omega⟩ (Sx.up (by simp))
def spPick (K : PySem.W.Frag) : Sp := fun vs H Q _ => ∃ (p l : Addr) (n : Nat) (xs : List V), vs = [.ref p, .ref l] ∧ Dr H p n ∧ n < 1000000 ∧ H l = some (.lst xs) ∧ l ≠ p ∧ 0 < xs.length ∧ xs.length ≤ 1000 ∧ ∀ x ∈ xs, ∀ H', Dr H' p (n + 1) → Sx [p] H H' → Q x H'
theorem ok__law_pick (T : Tx w K mg) : Gd P w K base mg CX0 2 (He.fAd K d__law_pick.at_) ["_law_source_here", "_law_some"] [] (spPick K) := by
  have G__law_draw := ok__law_draw (P := P) (w := w) (base := base) T
  refine mkGd (T.f__law_pick) sc__law_pick (fun vs H Q E h => ?_) (fun _ _ _ _ _ _ us hl => match us, hl with | [_, _], _ => rfl) (fun cdv A outer s H vs Q E hr h => ?_)
  · obtain ⟨p, l, n, xs, rfl, _⟩ := h
    rfl
  · have hu := hu_of hr
    obtain ⟨p, l, n, xs, rfl, D, hn, hl, hne, h0, h1, q⟩ := h
    refine ⟨_, (pss_one (ps_ret (pe_ix (r := rIxL K) ix_list (pv 1) (pe_callG G__law_draw T.g__law_draw (hr.mono (by first | decide | omega)) pass0 (pa_cons (pv 0) (pa_cons (pe_callB call_len_seq (by rfl) T.n_len PySem.boot_len (pa_cons (pv 1) pa_nil)) pa_nil))) (fun _ _ => rfl)))), ?_⟩
    refine ⟨_, rfl, _, rfl, _, rfl, l, _, rfl, Or.inl (SqL.of hl), p, n, _, rfl, D, hn, by omega, by omega, fun d H1 d0 d1 D1 s1 => ?_⟩
    have hd : d.toNat < xs.length := by omega
    exact ⟨l, _, d, xs[d.toNat], rfl, rfl, SqL.of (s1.one hne hl), at_of (j := d.toNat) (by omega) (by simp [hd]), q _ (List.getElem_mem hd) H1 D1 s1⟩
/-- a word of letters -/
def WordS (z : Str) : Prop := 1 ≤ (tl z).length ∧ (tl z).length ≤ 4 ∧ ∀ c ∈ tl z, 97 ≤ c ∧ c ≤ 122
def abc : Str := "abcdefghijklmnopqrstuvwxyz"
theorem abc_at : ∀ j, j < 26 → (tl abc)[j]? = some (97 + j) := by decide +kernel
theorem abc_len : abc.length = 26 := by decide +kernel
def spWord : Sp := fun vs H Q _ => ∃ (p : Addr) (n : Nat), vs = [.ref p] ∧ Dr H p n ∧ n < 900000 ∧ ∀ z H', WordS z → Dr H' p (n + 5) → Sx [p] H H' → Q (.str z) H'
theorem ok__law_word (T : Tx w K mg) : Gd P w K base mg CX0 2 (He.fAd K d__law_word.at_) ["_law_source_here"] [] spWord := by
  have G__law_draw := ok__law_draw (P := P) (w := w) (base := base) T
  refine mkGd (T.f__law_word) sc__law_word (fun vs H Q E h => ?_) (fun _ _ _ _ _ _ us hl => match us, hl with | [_], _ => rfl) (fun cdv A outer s H vs Q E hr h => ?_)
  · obtain ⟨p, n, rfl, _⟩ := h
    rfl
  · have hu := hu_of hr
    obtain ⟨p, n, rfl, D, hn, q⟩ := h
    refine ⟨_, (pss_cons (ps_set (i := 1) sc__law_word.nd rfl (Or.inl rfl) pe_str)
      (pss_cons (ps_for PassesOwn.never rfl (pi_range1 rfl T.n_range (pa_cons (pe_op op_add pe_int (pe_callG G__law_draw T.g__law_draw (hr.mono (by first | decide | omega)) pass0 (pa_cons (pv 0) (pa_cons pe_int pa_nil)))) pa_nil)) (pg_name (i := 2) sc__law_word.nd rfl (Or.inl rfl))
      (pss_one (ps_set (i := 1) sc__law_word.nd rfl (Or.inl rfl) (pe_op op_add_str (pv 1) (pe_ix ix_str pe_str (pe_callG G__law_draw T.g__law_draw (hr.mono (by first | decide | omega)) pass0 (pa_cons (pv 0) (pa_cons pe_int pa_nil))) (fun _ _ => rfl))))))
      (pss_one (ps_ret (pv 1))))), ?_⟩
    refine ⟨_, rfl, p, n, 4, rfl, D, by omega, by decide, by decide, fun d H1 d0 d1 D1 s1 => ⟨_, _, rfl, rfl, _, rfl, by omega, by omega, for_range (lo := 0) (n := (1 + d).toNat) (fun i σ H' => (∃ z v, σ = [some (.ref p), some (.str z), v] ∧ (tl z).length = i ∧ ∀ c ∈ tl z, 97 ≤ c ∧ c ≤ 122) ∧ Dr H' p (n + 1 + i) ∧ Sx [p] H H')
      ⟨⟨_, _, rfl, rfl, fun c hc => nomatch hc⟩, D1, s1⟩ ?_ ?_⟩⟩
    · rintro i σ H' hi ⟨⟨z, v, rfl, hz, hc⟩, D2, s2⟩
      refine ⟨_, rfl, _, rfl, p, _, 26, rfl, D2, by omega, by decide, by decide, fun e H2 e0 e1 D3 s3 => ?_⟩
      have he : e.toNat < 26 := by omega
      refine ⟨abc, e, 97 + e.toNat, rfl, rfl, (by rw [abc_len]; decide), ?_, _, _, rfl, rfl, ?_, ?_⟩
      · have : e = ((e.toNat : Nat) : Int) := by omega
        rw [this]
        exact atI_nat (abc_at _ he)
      · show z.length + 1 ≤ sizeLine
        rw [len_tl, hz]
        exact Nat.le_of_lt (small1000 (by omega))
      · refine ⟨⟨_, _, rfl, ?_, fun c h => ?_⟩, D3.up (by omega), s2.trans s3⟩
        · rw [tl_append, List.length_append, hz]
          rfl
        · rw [tl_append] at h
          rcases List.mem_append.mp h with h | h
          · exact hc c h
          · have h : c ∈ [97 + e.toNat] := h
            rw [List.mem_singleton.mp h]
            omega
    · rintro σ H' ⟨⟨z, v, rfl, hz, hc⟩, D2, s2⟩
      exact ⟨_, rfl, q z H' ⟨by omega, by omega, hc⟩ (D2.up (by omega)) s2⟩
end
end Kt
set_option Elab.async false
set_option linter.all false
set_option maxRecDepth 100000
set_option maxHeartbeats 4000000
namespace Kt
open PySem PySem.Spec PyProof.Rows L2 Rz TL
section
variable {P : Program} {w : World} {K : PySem.W.Frag} {mg : Str → Option Value} {base : Heap}
/-- the digits that are looked at -/
def digs (z : Str) : Str := if decide (V.str (cutS z none (some 1)) = V.str "-") = true then cutS z (some 1) none else z
def isNum (z : Str) : Bool := Txt.isdigit (digs z) && (decide (V.str z = V.str "0") || !decide (V.str ⟨#[(tl (digs z)).getD 0 0]⟩ = V.str "0"))
theorem str_ext {x y : Str} (h : tl x = tl y) : x = y := by
  obtain ⟨a⟩ := x
  obtain ⟨b⟩ := y
  have : a = b := Array.toList_inj.mp h
  rw [this]
theorem cut1_tl (z : Str) : tl (cutS z none (some 1)) = (tl z).take 1 := by
  have e1 : HT.sIx z.length 0 none = 0 := rfl
  unfold cutS
  rw [e1]
  show ((z.cps.toList.drop 0).take (HT.sIx z.length z.length (some 1) - 0)) = _
  have hl : z.length = (tl z).length := len_tl z
  have e2 : HT.sIx z.length z.length (some 1) = min 1 z.length := by
    rw [hl]
    unfold HT.sIx
    first
      | rfl
      | (simp; done)
      | (simp; omega)
  rw [e2, hl, List.drop_zero, Nat.sub_zero]
  cases h : tl z with
  | nil => simp [h]
  | cons a r => simp [h]
theorem digs_same {z : Str} (h : (tl z)[0]? ≠ some 45) : digs z = z := by
  unfold digs
  rw [if_neg]
  simp only [decide_eq_true_eq]
  intro e
  have e1 := congrArg tl (V.str.inj e)
  rw [cut1_tl] at e1
  have e2 : tl ("-" : Str) = [45] := by decide +kernel
  rw [e2] at e1
  cases hz : tl z with
  | nil => rw [hz] at e1; simp at e1
  | cons a r =>
    rw [hz] at e1 h
    simp at e1 h
    exact h e1
theorem letter_no : ∀ c, 97 ≤ c → c ≤ 122 → Unicode.isDigit c = false := by
  have : ∀ c ∈ List.range' 97 26, Unicode.isDigit c = false := by decide +kernel
  exact fun c h1 h2 => this c (List.mem_range'.mpr ⟨c - 97, by omega, by omega⟩)
theorem isdigit_no {z : Str} {c : Nat} (h : c ∈ tl z) (hc : Unicode.isDigit c = false) : Txt.isdigit z = false := by
  unfold Txt.isdigit
  rw [Bool.and_eq_false_iff]
  refine .inr ?_
  rw [← Array.all_toList]
  exact List.all_eq_false.mpr ⟨c, h, by rw [hc]; simp⟩
theorem isNum_no {z : Str} (h : (tl z)[0]? ≠ some 45) {c : Nat} (hc : c ∈ tl z) (h1 : 97 ≤ c) (h2 : c ≤ 122) : isNum z = false := by
  unfold isNum
  rw [digs_same h, isdigit_no hc (letter_no c h1 h2)]
  rfl
/-- a string that is no digit key -/
def TKs (z : Str) : Prop := z.length ≤ 5 ∧ isNum z = false ∧ isNum (z ++ "a") = false
theorem tl_a : tl ("a" : Str) = [97] := by decide +kernel
theorem TKs.of {z : Str} (hl : z.length ≤ 5) (h0 : (tl z)[0]? ≠ some 45) {c : Nat} (hc : c ∈ tl z) (h1 : 97 ≤ c) (h2 : c ≤ 122) : TKs z := by
  refine ⟨hl, isNum_no h0 hc h1 h2, isNum_no (c := 97) ?_ ?_ (by decide) (by decide)⟩
  · rw [tl_append, tl_a]
    cases h : tl z with
    | nil => simp
    | cons a r => rw [h] at h0; simpa using h0
  · rw [tl_append, tl_a]
    simp
theorem tk_word {z : Str} (h : WordS z) : TKs z := by
  obtain ⟨h1, h2, h3⟩ := h
  cases e : tl z with
  | nil => rw [e] at h1; simp at h1
  | cons a r =>
    have ha := h3 a (by rw [e]; simp)
    exact TKs.of (by rw [len_tl]; omega) (by rw [e]; simp; omega) (c := a) (by rw [e]; simp) ha.1 ha.2
theorem tk_sword {z : Str} (h : WordS z) : TKs (" " ++ z) := by
  obtain ⟨h1, h2, h3⟩ := h
  have e2 : tl (" " : Str) = [32] := by decide +kernel
  cases e : tl z with
  | nil => rw [e] at h1; simp at h1
  | cons a r =>
    have ha := h3 a (by rw [e]; simp)
    exact TKs.of (by rw [len_tl, tl_append, e2, List.length_append, List.length_singleton]; omega) (by rw [tl_append, e2]; simp) (c := a) (by rw [tl_append, e]; simp) ha.1 ha.2
theorem tk_fix : TKs "" ∧ (∀ j : Nat, j < 3 → TKs ("k" ++ toString (j : Int))) ∧ ∀ j : Nat, j < 10 → TKs ("0" ++ toString (j : Int)) := by
  refine ⟨?_, fun j hj => ?_, fun j hj => ?_⟩
  · exact ⟨by decide +kernel, by decide +kernel, by decide +kernel⟩
  · have hc : j = 0 ∨ j = 1 ∨ j = 2 := by omega
    rcases hc with rfl | rfl | rfl <;> exact ⟨by decide +kernel, by decide +kernel, by decide +kernel⟩
  · have hc : j = 0 ∨ j = 1 ∨ j = 2 ∨ j = 3 ∨ j = 4 ∨ j = 5 ∨ j = 6 ∨ j = 7 ∨ j = 8 ∨ j = 9 := by omega
    rcases hc with rfl | rfl | rfl | rfl | rfl | rfl | rfl | rfl | rfl | rfl <;> exact ⟨by decide +kernel, by decide +kernel, by decide +kernel⟩
theorem small_log {d m : Int} (h0 : 0 ≤ d) (h1 : d < m) (hm : m ≤ 1000000) : d.natAbs.log2 < 1920 := log_of (by omega)
def spTKey : Sp := fun vs H Q _ => ∃ (p : Addr) (n : Nat), vs = [.ref p] ∧ Dr H p n ∧ n < 800000 ∧ ∀ z H', TKs z → Dr H' p (n + 8) → Sx [p] H H' → Q (.str z) H'
theorem ok__law_text_key (T : Tx w K mg) : Gd P w K base mg CX0 3 (He.fAd K d__law_text_key.at_) ["_law_source_here"] [] spTKey := by
  have G__law_draw := ok__law_draw (P := P) (w := w) (base := base) T
  have G__law_word := ok__law_word (P := P) (w := w) (base := base) T
  refine mkGd (T.f__law_text_key) sc__law_text_key (fun vs H Q E h => ?_) (fun _ _ _ _ _ _ us hl => match us, hl with | [_], _ => rfl) (fun cdv A outer s H vs Q E hr h => ?_)
  · obtain ⟨p, n, rfl, _⟩ := h
    rfl
  · have hu := hu_of hr
    obtain ⟨p, n, rfl, D, hn, q⟩ := h
    refine ⟨_, (pss_cons (ps_par (i := 1) (j := 2) (by rfl) sc__law_text_key.nd rfl rfl (by decide) rfl rfl (pa_cons (pe_callG G__law_draw T.g__law_draw (hr.mono (by first | decide | omega)) pass0 (pa_cons (pv 0) (pa_cons pe_int pa_nil))) (pa_cons (pe_callG G__law_word T.g__law_word (hr.mono (by first | decide | omega)) pass0 (pa_cons (pv 0) pa_nil)) pa_nil)) (by rfl))
      (pss_cons (ps_if (pt_cmpR op_lt (pv 1) pe_int (nomark _)) (pss_one (ps_ret (pv 2))) pss_nil)
      (pss_one (ps_ret (pe_ix (r := rIxL K) ix_list (pe_lst (pa_cons pe_str (pa_cons (pe_op op_add_str pe_str (pe_callTy call_str_int (by rfl) T.n_str (by decide +kernel) (pa_cons (pe_callG G__law_draw T.g__law_draw (hr.mono (by first | decide | omega)) pass0 (pa_cons (pv 0) (pa_cons pe_int pa_nil))) pa_nil))) (pa_cons (pe_op op_add_str pe_str (pe_callTy call_str_int (by rfl) T.n_str (by decide +kernel) (pa_cons (pe_callG G__law_draw T.g__law_draw (hr.mono (by first | decide | omega)) pass0 (pa_cons (pv 0) (pa_cons pe_int pa_nil))) pa_nil))) (pa_cons (pe_op op_add_str pe_str (pv 2)) pa_nil))))) (pe_op op_sub (pv 1) pe_int) (fun _ _ => rfl)))))), ?_⟩
    refine ⟨_, rfl, p, n, 8, rfl, D, by omega, by decide, by decide, fun d H1 d0 d1 D1 s1 => ⟨_, rfl, p, n + 1, rfl, D1, by omega, fun z H2 hz D2 s2 => ⟨_, _, rfl, ?_⟩⟩⟩
    refine ⟨_, rfl, _, _, rfl, rfl, _, rfl, ite2 (fun _ => ⟨_, rfl, q z H2 (tk_word hz) (D2.up (by omega)) (s1.trans s2)⟩) (fun h4 => ?_)⟩
    have h4 : ¬ d < 4 := fun y => h4 (decide_eq_true y)
    have hzl : z.length ≤ 4 := by rw [len_tl]; exact hz.2.1
    refine ⟨_, rfl, p, _, 3, rfl, D2, by omega, by decide, by decide, fun e H3 e0 e1 D3 s3 => ⟨_, rfl, small_log e0 e1 (by decide), _, _, rfl, rfl, ?_, ?_⟩⟩
    · obtain ⟨j, rfl⟩ : ∃ j : Nat, e = j := ⟨e.toNat, by omega⟩
      have h := (tk_fix.2.1 j (by omega)).1
      rw [strLen_append] at h
      exact Nat.le_trans h (by decide)
    refine ⟨_, rfl, p, _, 10, rfl, D3, by omega, by decide, by decide, fun f H4 f0 f1 D4 s4 => ⟨_, rfl, small_log f0 f1 (by decide), _, _, rfl, rfl, ?_, ?_⟩⟩
    · obtain ⟨j, rfl⟩ : ∃ j : Nat, f = j := ⟨f.toNat, by omega⟩
      have h := (tk_fix.2.2 j (by omega)).1
      rw [strLen_append] at h
      exact Nat.le_trans h (by decide)
    refine ⟨_, rfl, _, _, rfl, rfl, ?_, (by show 4 ≤ sizeLine; decide), fun l hl => ?_⟩
    · have h := (tk_sword hz).1
      rw [strLen_append] at h
      exact Nat.le_trans h (by decide)
    have sF : Sx [p] H (upd H4 l (.lst [.str "", .str ("k" ++ toString e), .str ("0" ++ toString f), .str (" " ++ z)])) := ((((s1.trans s2).trans s3).trans s4)).mk hl
    have DF : Dr (upd H4 l (.lst [.str "", .str ("k" ++ toString e), .str ("0" ++ toString f), .str (" " ++ z)])) p (n + 8) := (D4.same (Same.nu hl)).up (by omega)
    refine ⟨_, rfl, _, _, rfl, rfl, ?_⟩
    have hc : d = 4 ∨ d = 5 ∨ d = 6 ∨ d = 7 := by omega
    rcases hc with rfl | rfl | rfl | rfl
    · exact ⟨l, _, _, _, rfl, rfl, SqL.of upd_same, at_of (j := 0) rfl rfl, q _ _ tk_fix.1 DF sF⟩
    · obtain ⟨j, rfl⟩ : ∃ j : Nat, e = j := ⟨e.toNat, by omega⟩
      exact ⟨l, _, _, _, rfl, rfl, SqL.of upd_same, at_of (j := 1) rfl rfl, q _ _ (tk_fix.2.1 j (by omega)) DF sF⟩
    · obtain ⟨j, rfl⟩ : ∃ j : Nat, f = j := ⟨f.toNat, by omega⟩
      exact ⟨l, _, _, _, rfl, rfl, SqL.of upd_same, at_of (j := 2) rfl rfl, q _ _ (tk_fix.2.2 j (by omega)) DF sF⟩
    · exact ⟨l, _, _, _, rfl, rfl, SqL.of upd_same, at_of (j := 3) rfl rfl, q _ _ (tk_sword hz) DF sF⟩
def spIsNum : Sp := fun vs H Q _ => ∃ z : Str, vs = [.str z] ∧ z.length ≤ 60 ∧ Q (.bl (isNum z)) H
theorem ok__law_is_number (T : Tx w K mg) : Gd P w K base mg CX0 1 (He.fAd K d__law_is_number.at_) ["_law_text_here"] [] spIsNum := by
  refine mkGd (T.f__law_is_number) sc__law_is_number (fun vs H Q E h => ?_) (fun _ _ _ _ _ _ us hl => match us, hl with | [_], _ => rfl) (fun cdv A outer s H vs Q E hr h => ?_)
  · obtain ⟨z, rfl, _⟩ := h
    rfl
  · have hu := hu_of hr
    obtain ⟨z, rfl, hz, q⟩ := h
    refine ⟨_, (pss_cons (ps_set (i := 1) sc__law_is_number.nd rfl (Or.inl rfl) (pe_ifExp (pt_cmpR op_eq (pe_slice sl_str (pv 0) po_none (po_some pe_int)) pe_str (nomark _)) (pe_slice sl_str (pv 0) (po_some pe_int) po_none) (pv 0)))
      (pss_one (ps_ret (pe_and (pe_m0 PySem.F.slot_str_isdigit PySem.F.type_str_isdigit mt_isdigit (pv 1)) (pe_one (pe_or (pe_cmpR op_eq (pv 0) pe_str (nomark _)) (pe_one (pe_cmpR op_ne (pe_ix ix_str (pv 1) pe_int (fun _ _ => rfl)) pe_str (nomark _))))))))), ?_⟩
    have hzl : z.length ≤ sizeLine := Nat.le_trans hz (by decide)
    have fin : ∀ dz : Str, digs z = dz → dz.length ≤ 60 → (if Txt.isdigit dz = true then (∃ c, (decide (V.str z = V.str "0")) = c ∧ if c = true then Q (.bl true) H else ∃ c0, atI (tl dz) 0 = some c0 ∧ Q (.bl (!decide (V.str ⟨#[c0]⟩ = V.str "0"))) H) else Q (.bl false) H) := fun dz e hl => by
      unfold isNum at q
      rw [e] at q
      cases h1 : Txt.isdigit dz with
      | false => rw [h1] at q; exact iteF q
      | true =>
        rw [h1] at q
        refine iteT ⟨_, rfl, ?_⟩
        cases h2 : decide (V.str z = V.str "0") with
        | true => rw [h2] at q; exact iteT q
        | false =>
          rw [h2] at q
          cases h3 : tl dz with
          | nil =>
            unfold Txt.isdigit at h1
            rw [len_tl, h3] at h1
            simp at h1
          | cons a r =>
            rw [h3] at q
            exact iteF ⟨a, atI_nat (j := 0) rfl, q⟩
    have hd : (digs z).length ≤ 60 := by
      unfold digs
      split
      · exact Nat.le_trans (cutS_length _ _ _) hz
      · exact hz
    refine ⟨_, rfl, _, rfl, z, rfl, hzl, rfl, _, rfl, ite2 (fun h => ⟨_, rfl, _, rfl, z, rfl, hzl, ?_⟩) (fun h => ⟨_, rfl, ?_⟩)⟩
    · have e : digs z = cutS z (some 1) none := if_pos h
      have F := fin _ e (by rw [← e]; exact hd)
      refine ⟨_, rfl, ⟨_, rfl⟩, _, rfl, rfl, trivial, _, rfl, ?_⟩
      split
      · rename_i h1
        rw [if_pos h1] at F
        obtain ⟨c, rfl, F⟩ := F
        refine ⟨_, rfl, rfl, _, rfl, ?_⟩
        split
        · rename_i h2
          rw [if_pos h2] at F
          exact F
        · rename_i h2
          rw [if_neg h2] at F
          obtain ⟨c0, hc, F⟩ := F
          exact ⟨_, rfl, _, 0, c0, rfl, rfl, Nat.le_trans (cutS_length _ _ _) hzl, hc, rfl, F⟩
      · rename_i h1
        rw [if_neg h1] at F
        exact F
    · have e : digs z = z := if_neg h
      have F := fin _ e hz
      refine ⟨_, rfl, ⟨_, rfl⟩, _, rfl, rfl, trivial, _, rfl, ?_⟩
      split
      · rename_i h1
        rw [if_pos h1] at F
        obtain ⟨c, rfl, F⟩ := F
        refine ⟨_, rfl, rfl, _, rfl, ?_⟩
        split
        · rename_i h2
          rw [if_pos h2] at F
          exact F
        · rename_i h2
          rw [if_neg h2] at F
          obtain ⟨c0, hc, F⟩ := F
          exact ⟨_, rfl, _, 0, c0, rfl, rfl, hzl, hc, rfl, F⟩
      · rename_i h1
        rw [if_neg h1] at F
        exact F
end
end Kt
set_option Elab.async false
set_option linter.all false
set_option maxRecDepth 100000
set_option maxHeartbeats 4000000
namespace Kt
open PySem PySem.Spec PyProof.Rows L2 Rz TL
section
variable {P : Program} {w : World} {K : PySem.W.Frag} {mg : Str → Option Value} {base : Heap}
theorem tl_neg {i : Int} (h : i < 0) : tl (istr i) = 45 :: numL i.natAbs := by
  unfold istr
  rw [tl_ofString, PyProof.Rows.toString_neg h, String.toList_append, List.map_append]
  have e : (0 : Int) - i = ((i.natAbs : Nat) : Int) := by omega
  rw [e]
  have e2 := tl_num i.natAbs
  rw [tl_ofString] at e2
  rw [e2]
  rfl
theorem int_istr {i : Int} (h : i.natAbs < 10 ^ 21) : intText? (istr i) = some i := by
  have hl : (numL i.natAbs).length ≤ 21 := numL_len (by decide) h
  by_cases h0 : i < 0
  · have e := tl_neg h0
    have r := intText_neg (x := istr i) (cs := numL i.natAbs) e (numL_digits _) (numL_ne _) (by rw [len_tl, e, List.length_cons]; omega)
    rw [numL_val] at r
    rw [r]
    congr 1
    omega
  · obtain ⟨n, rfl⟩ : ∃ n : Nat, i = n := ⟨i.toNat, by omega⟩
    exact int_num (by simp at hl ⊢; omega)
/-- a key that conditions mention -/
def FKk : Key → Prop
  | .inl i => i.natAbs ≤ 1000000
  | .inr z => z.length ≤ 8 ∧ (isNum z = true → ∃ i : Int, intText? z = some i ∧ i.natAbs ≤ 1000000)
theorem fk_int {i : Int} (h : i.natAbs ≤ 1000000) : FKk (.inr (istr i)) := by
  refine ⟨?_, fun _ => ⟨i, int_istr (by omega), h⟩⟩
  unfold istr
  rw [PySem.ofString_length]
  exact int_text_length_le10 (k := 7) (by decide) (by omega)
theorem fk_tk {z : Str} (h : TKs z) : FKk (.inr z) := ⟨by have := h.1; omega, fun e => by rw [h.2.1] at e; cases e⟩
theorem fk_tka {z : Str} (h : TKs z) : FKk (.inr (z ++ "a")) := ⟨by have := h.1; rw [strLen_append]; show z.length + 1 ≤ 8; omega, fun e => by rw [h.2.2] at e; cases e⟩
/-- a list of such keys -/
def KL (H : Hp) (l : Addr) : Prop := ∃ ks : List Key, H l = some (.lst (ks.map kV)) ∧ 1 ≤ ks.length ∧ ks.length ≤ 2 ∧ ∀ k ∈ ks, FKk k
theorem KL.same {H H' : Hp} {l : Addr} (h : KL H l) (s : Same H H') : KL H' l := by
  obtain ⟨ks, h1, h2⟩ := h
  exact ⟨ks, s _ _ h1, h2⟩
theorem KL.sx {H H' : Hp} {l p : Addr} (h : KL H l) (n : l ≠ p) (s : Sx [p] H H') : KL H' l := by
  obtain ⟨ks, h1, h2⟩ := h
  exact ⟨ks, s.one n h1, h2⟩
theorem KL.mk1 {H : Hp} {l : Addr} {a : Key} (ha : FKk a) : KL (upd H l (.lst [kV a])) l := ⟨[a], upd_same, by show 1 ≤ 1; decide, by show 1 ≤ 2; decide, fun k hk => by rw [List.mem_singleton.mp hk]; exact ha⟩
theorem KL.mk2 {H : Hp} {l : Addr} {a b : Key} (ha : FKk a) (hb : FKk b) : KL (upd H l (.lst [kV a, kV b])) l := ⟨[a, b], upd_same, by show 1 ≤ 2; decide, by show 2 ≤ 2; decide, fun k hk => by
  simp only [List.mem_cons, List.not_mem_nil, or_false] at hk
  rcases hk with rfl | rfl
  · exact ha
  · exact hb⟩
def spFocus : Sp := fun vs H Q _ => ∃ (p : Addr) (n : Nat), vs = [.ref p] ∧ Dr H p n ∧ n < 700000 ∧ ∀ l H', KL H' l → l ≠ p → Dr H' p (n + 10) → Sx [p] H H' → Q (.ref l) H'
theorem ok__law_focus (T : Tx w K mg) : Gd P w K base mg CX0 4 (He.fAd K d__law_focus.at_) ["_law_source_here"] [] spFocus := by
  have G__law_draw := ok__law_draw (P := P) (w := w) (base := base) T
  have G__law_text_key := ok__law_text_key (P := P) (w := w) (base := base) T
  have G__law_pick := ok__law_pick (P := P) (w := w) (base := base) T
  refine mkGd (T.f__law_focus) sc__law_focus (fun vs H Q E h => ?_) (fun _ _ _ _ _ _ us hl => match us, hl with | [_], _ => rfl) (fun cdv A outer s H vs Q E hr h => ?_)
  · obtain ⟨p, n, rfl, _⟩ := h
    rfl
  · have hu := hu_of hr
    obtain ⟨p, n, rfl, D, hn, q⟩ := h
    refine ⟨_, (pss_cons (ps_par (i := 1) (j := 2) (by rfl) sc__law_focus.nd rfl rfl (by decide) rfl rfl (pa_cons (pe_op op_sub (pe_callG G__law_draw T.g__law_draw (hr.mono (by first | decide | omega)) pass0 (pa_cons (pv 0) (pa_cons pe_int pa_nil))) pe_int) (pa_cons (pe_callG G__law_text_key T.g__law_text_key (hr.mono (by first | decide | omega)) pass0 (pa_cons (pv 0) pa_nil)) pa_nil)) (by rfl))
      (pss_cons (ps_set (i := 3) sc__law_focus.nd rfl (Or.inl rfl) (pe_lst (pa_cons (pe_lst (pa_cons (pv 1) (pa_cons (pe_callTy call_str_int (by rfl) T.n_str (by decide +kernel) (pa_cons (pv 1) pa_nil)) pa_nil))) (pa_cons (pe_lst (pa_cons (pv 1) (pa_cons (pe_callTy call_str_int (by rfl) T.n_str (by decide +kernel) (pa_cons (pv 1) pa_nil)) pa_nil))) (pa_cons (pe_lst (pa_cons (pv 1) pa_nil)) (pa_cons (pe_lst (pa_cons (pe_callTy call_str_int (by rfl) T.n_str (by decide +kernel) (pa_cons (pv 1) pa_nil)) pa_nil)) (pa_cons (pe_lst (pa_cons (pv 2) pa_nil)) (pa_cons (pe_lst (pa_cons (pv 2) (pa_cons (pe_op op_add_str (pv 2) pe_str) pa_nil))) pa_nil))))))))
      (pss_one (ps_ret (pe_callG G__law_pick T.g__law_pick (hr.mono (by first | decide | omega)) pass0 (pa_cons (pv 0) (pa_cons (pe_op op_cat (pv 3) (pe_lst (pa_cons (pe_lst (pa_cons (pv 1) pa_nil)) pa_nil))) pa_nil))))))), ?_⟩
    refine ⟨_, rfl, p, n, 2000001, rfl, D, by omega, by decide, by decide, fun d H1 d0 d1 D1 s1 => ⟨_, _, rfl, rfl, _, rfl, p, n + 1, rfl, D1, by omega, fun z H2 hz D2 s2 => ⟨_, _, rfl, ?_⟩⟩⟩
    have bi : (d - 1000000).natAbs ≤ 1000000 := by omega
    have lg : (d - 1000000).natAbs.log2 < 1920 := log_of (by omega)
    have fi : FKk (.inl (d - 1000000)) := bi
    have fs : FKk (.inr (istr (d - 1000000))) := fk_int bi
    have hz2 : z.length + 1 ≤ sizeLine := by have := hz.1; exact Nat.le_of_lt (small1000 (by omega))
    refine ⟨_, rfl, _, rfl, _, rfl, lg, (by show 2 ≤ sizeLine; decide), fun l1 h1 => ?_⟩
    refine ⟨_, rfl, _, rfl, _, rfl, lg, (by show 2 ≤ sizeLine; decide), fun l2 h2 => ?_⟩
    refine ⟨_, rfl, (by show 1 ≤ sizeLine; decide), fun l3 h3 => ?_⟩
    refine ⟨_, rfl, _, rfl, lg, (by show 1 ≤ sizeLine; decide), fun l4 h4 => ?_⟩
    refine ⟨_, rfl, (by show 1 ≤ sizeLine; decide), fun l5 h5 => ?_⟩
    refine ⟨_, rfl, _, rfl, _, _, rfl, rfl, hz2, (by show 2 ≤ sizeLine; decide), fun l6 h6 => ?_⟩
    refine ⟨(by show 6 ≤ sizeLine; decide), fun L hL => ?_⟩
    refine ⟨_, rfl, _, rfl, _, rfl, (by show 1 ≤ sizeLine; decide), fun l7 h7 => ⟨(by show 1 ≤ sizeLine; decide), fun m hm => ⟨L, m, _, _, rfl, rfl, Same.nu hm _ _ (Same.nu h7 _ _ upd_same), upd_same, (by show 6 + 1 ≤ sizeLine; decide), fun c hc => ?_⟩⟩⟩
    have a1 := Same.nu (o := .lst [V.int (d - 1000000), V.str (toString (d - 1000000))]) h1
    have a2 := Same.nu (o := .lst [V.int (d - 1000000), V.str (toString (d - 1000000))]) h2
    have a3 := Same.nu (o := .lst [V.int (d - 1000000)]) h3
    have a4 := Same.nu (o := .lst [V.str (toString (d - 1000000))]) h4
    have a5 := Same.nu (o := .lst [V.str z]) h5
    have a6 := Same.nu (o := .lst [V.str z, V.str (z ++ "a")]) h6
    have a0 := Same.nu (o := .lst [V.ref l1, V.ref l2, V.ref l3, V.ref l4, V.ref l5, V.ref l6]) hL
    have a7 := Same.nu (o := .lst [V.int (d - 1000000)]) h7
    have am := Same.nu (o := .lst [V.ref l7]) hm
    have ac := Same.nu (o := .lst ([V.ref l1, V.ref l2, V.ref l3, V.ref l4, V.ref l5, V.ref l6] ++ [V.ref l7])) hc
    have b7 := am.trans ac
    have b6 := (a0.trans a7).trans b7
    have b5 := a6.trans b6
    have b4 := a5.trans b5
    have b3 := a4.trans b4
    have b2 := a3.trans b3
    have b1 := a2.trans b2
    have b0 := a1.trans b1
    have k1 := (KL.mk2 (H := H2) (l := l1) fi fs).same b1
    have k2 := (KL.mk2 (l := l2) fi fs).same b2
    have k3 := (KL.mk1 (l := l3) fi).same b3
    have k4 := (KL.mk1 (l := l4) fs).same b4
    have k5 := (KL.mk1 (l := l5) (fk_tk hz)).same b5
    have k6 := (KL.mk2 (l := l6) (fk_tk hz) (fk_tka hz)).same b6
    have k7 := (KL.mk1 (l := l7) fi).same b7
    have n1 : l1 ≠ p := D2.ne h1
    have n2 : l2 ≠ p := (D2.same a1).ne h2
    have n3 : l3 ≠ p := ((D2.same a1).same a2).ne h3
    have n4 : l4 ≠ p := (((D2.same a1).same a2).same a3).ne h4
    have n5 : l5 ≠ p := ((((D2.same a1).same a2).same a3).same a4).ne h5
    have n6 : l6 ≠ p := (((((D2.same a1).same a2).same a3).same a4).same a5).ne h6
    have n7 : l7 ≠ p := (((((((D2.same a1).same a2).same a3).same a4).same a5).same a6).same a0).ne h7
    have nc : c ≠ p := (((((((((D2.same a1).same a2).same a3).same a4).same a5).same a6).same a0).same a7).same am).ne hc
    refine ⟨p, c, n + 9, _, rfl, (D2.same b0).up (by omega), by omega, upd_same, nc, (by show 0 < 7; decide), (by show 7 ≤ 1000; decide), fun x hx H' D' s' => ?_⟩
    have fin : ∀ l, KL _ l → l ≠ p → Q (.ref l) H' := fun l k n => q l H' (k.sx n s') n (D'.up (by omega)) (((s1.trans s2).sm b0).trans s')
    simp only [List.cons_append, List.nil_append, List.mem_cons, List.not_mem_nil, or_false] at hx
    rcases hx with rfl | rfl | rfl | rfl | rfl | rfl | rfl
    · exact fin _ k1 n1
    · exact fin _ k2 n2
    · exact fin _ k3 n3
    · exact fin _ k4 n4
    · exact fin _ k5 n5
    · exact fin _ k6 n6
    · exact fin _ k7 n7
/-- a list of keys -/
def TL (H : Hp) (l : Addr) : Prop := ∃ ks : List Key, H l = some (.lst (ks.map kV)) ∧ 1 ≤ ks.length ∧ ks.length ≤ 4 ∧ ∀ k ∈ ks, okK k
theorem TL.sx {H H' : Hp} {l : Addr} {ps : List Addr} (h : TL H l) (n : l ∉ ps) (s : Sx ps H H') : TL H' l := by
  obtain ⟨ks, h1, h2⟩ := h
  exact ⟨ks, s _ _ n h1, h2⟩
theorem fk_ok {k : Key} (h : FKk k) : okK k := by
  cases k with
  | inl i => have h : i.natAbs ≤ 1000000 := h; show i.natAbs < 10 ^ 21; omega
  | inr z => have h := h.1; show z.length ≤ 60; omega
theorem flat_kV (k : Key) : flatV (kV k) = true := by cases k <;> rfl
theorem flats_kV (ks : List Key) : (ks.map kV).all flatV = true := by
  rw [List.all_map]
  exact List.all_eq_true.mpr fun k _ => flat_kV k
theorem eqV_kV {a b : Key} : eqV (kV a) (kV b) = true ↔ a = b := by
  cases a <;> cases b <;> simp [kV, eqV]
theorem inV_kV {a : Key} {ks : List Key} : inV (kV a) (ks.map kV) = true ↔ a ∈ ks := by
  unfold inV
  rw [List.any_map]
  simp only [List.any_eq_true, Function.comp]
  constructor
  · rintro ⟨b, hb, e⟩
    have e : b = a ∨ a = b := by first | exact .inl (eqV_kV.mp e) | exact .inr (eqV_kV.mp e)
    rcases e with e | e
    · rw [← e]; exact hb
    · rw [e]; exact hb
  · intro h
    exact ⟨a, h, eqV_kV.mpr rfl⟩
def spTwins : Sp := fun vs H Q _ => ∃ l : Addr, vs = [.ref l] ∧ KL H l ∧ ∀ t H', TL H' t → H t = none → Same H H' → Q (.ref t) H'
theorem ok__law_twins (T : Tx w K mg) : Gd P w K base mg CX0 2 (He.fAd K d__law_twins.at_) ["_law_keys"] [] spTwins := by
  have G__law_is_number := ok__law_is_number (P := P) (w := w) (base := base) T
  refine mkGd (T.f__law_twins) sc__law_twins (fun vs H Q E h => ?_) (fun _ _ _ _ _ _ us hl => match us, hl with | [_], _ => rfl) (fun cdv A outer s H vs Q E hr h => ?_)
  · obtain ⟨l, rfl, _⟩ := h
    rfl
  · have hu := hu_of hr
    obtain ⟨l, rfl, ⟨ks, hl, hk0, hk2, hks⟩, q⟩ := h
    refine ⟨_, (pss_cons (ps_set (i := 1) sc__law_twins.nd rfl (Or.inr rfl) (pe_lst pa_nil))
      (pss_cons (ps_for PassesOwn.never rfl (pi_list (pv 0)) (pg_name (i := 2) sc__law_twins.nd rfl (Or.inl rfl))
      (pss_cons (ps_set (i := 3) sc__law_twins.nd rfl (Or.inl rfl) (pe_lst (pa_cons (pv 2) pa_nil)))
      (C8.pss_cut (ps_if (pt_not (pt_val (pe_callB call_isi (by rfl) T.n_isinstance (by decide +kernel) (pa_cons (pv 2) (pa_cons (pe_bltn (v := .ty "str") (u := .type "str") (by rfl) T.n_str (by decide +kernel) rfl) pa_nil))))) (pss_one (ps_set (i := 3) sc__law_twins.nd rfl (Or.inl rfl) (pe_lst (pa_cons (pv 2) (pa_cons (pe_callTy call_str_int (by rfl) T.n_str (by decide +kernel) (pa_cons (pv 2) pa_nil)) pa_nil))))) (pss_one (ps_if (pt_val (pe_callG G__law_is_number T.g__law_is_number (hr.mono (by first | decide | omega)) pass0 (pa_cons (pv 2) pa_nil))) (pss_one (ps_set (i := 3) sc__law_twins.nd rfl (Or.inl rfl) (pe_lst (pa_cons (pe_callTy call_int_str (by rfl) T.n_int (by decide +kernel) (pa_cons (pv 2) pa_nil)) (pa_cons (pv 2) pa_nil))))) pss_nil)))
      (pss_one (ps_set (i := 1) sc__law_twins.nd rfl (Or.inr rfl) (pe_op op_cat (pv 1) (pe_lc (own := [("_law_one", 4)]) (g := gName 4) rfl sc__law_twins.nd (pi_list (pv 3)) (blkOk_by (own := [("_law_one", 4)]) (N := N__law_twins) (sc := defScope s__law_twins) (by decide +kernel)) (fun _ _ _ _ _ => (pg_name (i := 4) sc__law_twins.nd rfl (Or.inl rfl))) (fun _ _ _ _ _ => pts_one (pt_cmpR (r := rIn K true) op_notIn_seq (pv 4) (pv 1) (by rfl))) (fun _ _ _ _ _ => (pv 4)))))))))
      (pss_one (ps_ret (pv 1))))), ?_⟩
    refine ⟨Nat.zero_le _, fun f0 hf0 => ⟨_, rfl, l, rfl, ⟨_, SqL.of (Same.nu hf0 _ _ hl)⟩, for_list (xs := ks.map kV)
      (fun i σ H' => (∃ f u v, σ = [some (.ref l), some (.ref f), u, v, none] ∧ ∃ ys : List Key, H' f = some (.lst (ys.map kV)) ∧ H f = none ∧ ys.length ≤ 2 * i ∧ (0 < i → 1 ≤ ys.length) ∧ ∀ k ∈ ys, okK k) ∧ Same H H')
      ⟨⟨f0, _, _, rfl, [], upd_same, hf0, by simp, fun z => absurd z (by decide), fun _ h => nomatch h⟩, Same.nu hf0⟩ (fun i σ H' _ h => SqL.of (h.2 _ _ hl)) ?_ ?_⟩⟩
    · rintro i x σ H' hx ⟨⟨f, u, v, rfl, ys, hf, hfn, hy1, hy2, hy3⟩, sH⟩
      rw [List.getElem?_map] at hx
      cases ek : ks[i]? with
      | none => rw [ek] at hx; cases hx
      | some k =>
      rw [ek] at hx
      cases hx
      have hi : i < ks.length := lt_of_at ek
      have fk := hks k (List.mem_of_getElem? ek)
      refine ⟨_, rfl, (by show 1 ≤ sizeLine; decide), fun b0 hb0 => ?_⟩
      refine ⟨fun σ' H2 => ∃ (b : Addr) (zs : List Key), σ' = [some (.ref l), some (.ref f), some (kV k), some (.ref b), none] ∧ Same H' H2 ∧ H2 b = some (.lst (zs.map kV)) ∧ 1 ≤ zs.length ∧ zs.length ≤ 2 ∧ ∀ k ∈ zs, okK k, ?_, ?_⟩
      · obtain ⟨t1, y1, k1⟩ := isi T "str" (G := upd H' b0 (.lst [kV k])) (Same.refl _) (key_at k)
        refine ⟨_, rfl, _, _, t1, _, _, rfl, .ty _, y1, k1, _, rfl, ?_⟩
        cases k with
        | inl j =>
          have lg : j.natAbs.log2 < 1920 := log_of (by have h : j.natAbs ≤ 1000000 := fk; omega)
          refine iteT ⟨_, rfl, _, rfl, _, rfl, lg, (by show 2 ≤ sizeLine; decide), fun b hb => ⟨b, [.inl j, .inr (istr j)], rfl, (Same.nu hb0).trans (Same.nu hb), upd_same, by show 1 ≤ 2; decide, by show 2 ≤ 2; decide, fun k hk => ?_⟩⟩
          simp only [List.mem_cons, List.not_mem_nil, or_false] at hk
          rcases hk with rfl | rfl
          · exact fk_ok fk
          · exact fk_ok (fk_int fk)
        | inr z =>
          have hz : z.length ≤ 60 := by have := fk.1; omega
          refine iteF ⟨_, rfl, z, rfl, hz, _, rfl, ?_⟩
          cases hn : isNum z with
          | true =>
            obtain ⟨j, hj, bj⟩ := fk.2 hn
            refine iteT ⟨_, rfl, z, j, rfl, hj, by omega, _, rfl, (by show 2 ≤ sizeLine; decide), fun b hb => ⟨b, [.inl j, .inr z], rfl, (Same.nu hb0).trans (Same.nu hb), upd_same, by show 1 ≤ 2; decide, by show 2 ≤ 2; decide, fun k hk => ?_⟩⟩
            simp only [List.mem_cons, List.not_mem_nil, or_false] at hk
            rcases hk with rfl | rfl
            · exact fk_ok (k := .inl j) bj
            · exact fk_ok fk
          | false =>
            refine iteF ⟨b0, [.inr z], rfl, Same.nu hb0, upd_same, by show 1 ≤ 1; decide, by show 1 ≤ 2; decide, fun k hk => ?_⟩
            rw [List.mem_singleton.mp hk]
            exact fk_ok fk
      · rintro σ' H2 ⟨b, zs, rfl, s2, hb, hz1, hz2, hzk⟩
        have hf2 := s2 _ _ hf
        refine ⟨_, rfl, _, rfl, b, rfl, ⟨_, SqL.of hb⟩, fun D hD => lc_list (xs := zs.map kV) (fun j H3 => Same H2 H3 ∧ ∃ acc : List Key, H3 D = some (.lst (acc.map kV)) ∧ acc.length ≤ j ∧ (ys = [] → acc.length = j) ∧ ∀ k ∈ acc, okK k)
          ⟨Same.nu hD, [], upd_same, Nat.le_refl _, fun _ => rfl, fun _ h => nomatch h⟩ (fun j H3 _ h => SqL.of (h.1 _ _ hb)) ?_ ?_⟩
        · rintro j y H3 hy ⟨s3, acc, ha, hal, ha0, hak⟩
          rw [List.getElem?_map] at hy
          cases ez : zs[j]? with
          | none => rw [ez] at hy; cases hy
          | some z =>
          rw [ez] at hy
          cases hy
          have hj := lt_of_at ez
          refine ⟨rfl, _, rfl, _, rfl, f, _, rfl, .inl (SqL.of (s3 _ _ hf2)), flat_kV z, flats_kV ys, _, rfl, ?_⟩
          by_cases hm : z ∈ ys
          · rw [inV_kV.mpr hm]
            exact iteF ⟨s3, acc, ha, by omega, fun e => (by rw [e] at hm; cases hm), hak⟩
          · rw [show inV (kV z) (ys.map kV) = false from Bool.eq_false_iff.mpr fun y => hm (inV_kV.mp y)]
            refine iteT ⟨_, rfl, _, ha, by rw [List.length_map]; exact small1000 (by omega), Same.mk'' s3 hD, acc ++ [z], by rw [upd_same, List.map_append]; rfl, by rw [List.length_append]; simp; omega, fun e => by rw [List.length_append, ha0 e]; rfl, fun k hk => ?_⟩
            rcases List.mem_append.mp hk with h | h
            · exact hak k h
            · rw [List.mem_singleton.mp h]; exact hzk z (List.mem_of_getElem? ez)
        · rintro H3 ⟨s3, acc, ha, hal, ha0, hak⟩
          rw [List.length_map] at hal ha0
          refine ⟨f, D, _, _, rfl, rfl, s3 _ _ hf2, ha, by rw [List.length_map, List.length_map]; exact Nat.le_of_lt (small1000 (by omega)), fun c hc => ?_⟩
          refine ⟨⟨c, _, _, rfl, ys ++ acc, by rw [upd_same, List.map_append], ?_, by rw [List.length_append]; omega, fun _ => ?_, fun k hk => ?_⟩, ((sH.trans s2).trans s3).trans (Same.nu hc)⟩
          · cases e : H c with
            | none => rfl
            | some o => rw [((sH.trans s2).trans s3) _ _ e] at hc; cases hc
          · rw [List.length_append]
            cases ys with
            | nil => have := ha0 rfl; omega
            | cons a r => simp; omega
          · rcases List.mem_append.mp hk with h | h
            · exact hy3 k h
            · exact hak k h
    · rintro σ H' ⟨⟨f, u, v, rfl, ys, hf, hfn, hy1, hy2, hy3⟩, sH⟩
      rw [List.length_map] at hy1 hy2
      exact ⟨_, rfl, q f H' ⟨ys, hf, hy2 (by omega), by omega, hy3⟩ hfn sH⟩
end
end Kt
set_option Elab.async false
set_option linter.all false
set_option maxRecDepth 100000
set_option maxHeartbeats 4000000
namespace Kt
open PySem PySem.Spec PyProof.Rows L2 Rz _root_.TL
section
variable {P : Program} {w : World} {K : PySem.W.Frag} {mg : Str → Option Value} {base : Heap}
/-- five values without parts -/
def AL (H : Hp) (l : Addr) : Prop := ∃ xs : List V, H l = some (.lst xs) ∧ xs.length = 5 ∧ ∀ v ∈ xs, ∃ d, Rz.flat d = some v ∧ okF d
theorem AL.sx {H H' : Hp} {l : Addr} {ps : List Addr} (h : AL H l) (n : l ∉ ps) (s : Sx ps H H') : AL H' l := by
  obtain ⟨ks, h1, h2⟩ := h
  exact ⟨ks, s _ _ n h1, h2⟩
theorem istr_60 {i : Int} (h : i.natAbs < 10 ^ 21) : (istr i).length ≤ 60 := Nat.le_trans (istr_len h) (by decide)
theorem word_60 {z : Str} (h : WordS z) : z.length ≤ 60 := by
  rw [len_tl]
  have := h.2.1
  omega
def spAtoms : Sp := fun vs H Q _ => ∃ (p : Addr) (n : Nat), vs = [.ref p] ∧ Dr H p n ∧ n < 600000 ∧ ∀ l H', AL H' l → l ≠ p → Dr H' p (n + 11) → Sx [p] H H' → Q (.ref l) H'
theorem ok__law_atoms (T : Tx w K mg) : Gd P w K base mg CX0 3 (He.fAd K d__law_atoms.at_) ["_law_source_here"] [] spAtoms := by
  have G__law_draw := ok__law_draw (P := P) (w := w) (base := base) T
  have G__law_word := ok__law_word (P := P) (w := w) (base := base) T
  refine mkGd (T.f__law_atoms) sc__law_atoms (fun vs H Q E h => ?_) (fun _ _ _ _ _ _ us hl => match us, hl with | [_], _ => rfl) (fun cdv A outer s H vs Q E hr h => ?_)
  · obtain ⟨p, n, rfl, _⟩ := h
    rfl
  · have hu := hu_of hr
    obtain ⟨p, n, rfl, D, hn, q⟩ := h
    refine ⟨_, (pss_cons (ps_set (i := 1) sc__law_atoms.nd rfl (Or.inl rfl) (pe_ix (r := rIxL K) ix_list (pe_lst (pa_cons (pe_callG G__law_draw T.g__law_draw (hr.mono (by first | decide | omega)) pass0 (pa_cons (pv 0) (pa_cons (pe_op op_pow pe_int pe_int) pa_nil))) (pa_cons (pe_un un_neg (pe_callG G__law_draw T.g__law_draw (hr.mono (by first | decide | omega)) pass0 (pa_cons (pv 0) (pa_cons (pe_op op_pow pe_int pe_int) pa_nil)))) (pa_cons pe_int (pa_cons (pe_un un_neg pe_int) pa_nil))))) (pe_callG G__law_draw T.g__law_draw (hr.mono (by first | decide | omega)) pass0 (pa_cons (pv 0) (pa_cons pe_int pa_nil))) (fun _ _ => rfl)))
      (pss_cons (ps_set (i := 2) sc__law_atoms.nd rfl (Or.inl rfl) (pe_op op_add (pe_op op_pow pe_int pe_int) (pe_callG G__law_draw T.g__law_draw (hr.mono (by first | decide | omega)) pass0 (pa_cons (pv 0) (pa_cons (pe_op op_pow pe_int pe_int) pa_nil)))))
      (pss_cons (ps_set (i := 2) sc__law_atoms.nd rfl (Or.inl rfl) (pe_ifExp (pt_cmpR op_eq (pe_callG G__law_draw T.g__law_draw (hr.mono (by first | decide | omega)) pass0 (pa_cons (pv 0) (pa_cons pe_int pa_nil))) pe_int (nomark _)) (pe_un un_neg (pv 2)) (pv 2)))
      (pss_cons (ps_set (i := 3) sc__law_atoms.nd rfl (Or.inl rfl) (pe_ix (r := rIxL K) ix_list (pe_lst (pa_cons pe_str (pa_cons pe_str (pa_cons pe_str (pa_cons pe_str (pa_cons (pe_callG G__law_word T.g__law_word (hr.mono (by first | decide | omega)) pass0 (pa_cons (pv 0) pa_nil)) pa_nil)))))) (pe_callG G__law_draw T.g__law_draw (hr.mono (by first | decide | omega)) pass0 (pa_cons (pv 0) (pa_cons pe_int pa_nil))) (fun _ _ => rfl)))
      (pss_one (ps_ret (pe_lst (pa_cons (pv 1) (pa_cons (pe_callTy call_str_int (by rfl) T.n_str (by decide +kernel) (pa_cons (pv 1) pa_nil)) (pa_cons (pv 2) (pa_cons (pe_callTy call_str_int (by rfl) T.n_str (by decide +kernel) (pa_cons (pv 2) pa_nil)) (pa_cons (pv 3) pa_nil)))))))))))), ?_⟩
    have p9 : ((10 : Int) ^ (9 : Int).toNat) = 1000000000 := by decide
    have p15 : ((10 : Int) ^ (15 : Int).toNat) = 1000000000000000 := by decide
    refine ⟨_, rfl, _, _, rfl, rfl, ⟨by decide, by decide, by decide⟩, p, n, _, rfl, D, by omega, by decide, by decide, fun d1 H1 a1 b1 D1 s1 => ?_⟩
    refine ⟨_, rfl, _, _, rfl, rfl, ⟨by decide, by decide, by decide⟩, p, n + 1, _, rfl, D1, by omega, by decide, by decide, fun d2 H2 a2 b2 D2 s2 => ⟨_, rfl, _, rfl, (by show 4 ≤ sizeLine; decide), fun l1 h1 => ?_⟩⟩
    rw [p9] at b1 b2
    have e1 := Same.nu (o := .lst [.int d1, .int (-d2), .int 0, .int (-1)]) h1
    refine ⟨_, rfl, p, n + 2, _, rfl, D2.same e1, by omega, by decide, by decide, fun d3 H3 a3 b3 D3 s3 => ?_⟩
    have n1 : l1 ≠ p := D2.ne h1
    have hl1 := s3.one n1 (e := upd_same)
    obtain ⟨sm, hsm, bsm⟩ : ∃ sm : Int, [V.int d1, V.int (-d2), V.int 0, V.int (-1)][d3.toNat]? = some (.int sm) ∧ sm.natAbs < 1000000000 := by
      have hc : d3 = 0 ∨ d3 = 1 ∨ d3 = 2 ∨ d3 = 3 := by omega
      rcases hc with rfl | rfl | rfl | rfl
      · exact ⟨_, rfl, by omega⟩
      · exact ⟨_, rfl, by omega⟩
      · exact ⟨_, rfl, by decide⟩
      · exact ⟨_, rfl, by decide⟩
    refine ⟨l1, _, d3, _, rfl, rfl, SqL.of hl1, at_of (j := d3.toNat) (by omega) hsm, ?_⟩
    refine ⟨_, _, rfl, rfl, ⟨by decide, by decide, by decide⟩, _, rfl, _, _, rfl, rfl, ⟨by decide, by decide, by decide⟩, p, n + 3, _, rfl, D3, by omega, by decide, by decide, fun d4 H4 a4 b4 D4 s4 => ⟨_, _, rfl, rfl, ?_⟩⟩
    rw [p9] at b4
    refine ⟨_, rfl, p, n + 4, 3, rfl, D4, by omega, by decide, by decide, fun d5 H5 a5 b5 D5 s5 => ⟨rfl, _, rfl, ?_⟩⟩
    have blg : ((10 : Int) ^ (15 : Int).toNat + d4).natAbs < 10 ^ 21 := by rw [p15]; omega
    have tail : ∀ lg2 : Int, lg2.natAbs < 10 ^ 21 → tSeq (tAsg (tOp (rIxL K) (tLst (tCons (tC (.str "")) (tCons (tC (.str "t")) (tCons (tC (.str "tt")) (tCons (tC (.str " \"\\")) (tCons (tCall spWord [] E0 (tCons (tVar 0) tNil)) tNil)))))) (tCall spDraw [] E0 (tCons (tVar 0) (tCons (tC (.int 5)) tNil)))) (gName 3))
      (tRet (tLst (tCons (tVar 1) (tCons (tCB (fun xs H Q => ∃ i, xs = [.int i] ∧ i.natAbs.log2 < 1920 ∧ Q (.str (toString i)) H) (tCons (tVar 1) tNil)) (tCons (tVar 2) (tCons (tCB (fun xs H Q => ∃ i, xs = [.int i] ∧ i.natAbs.log2 < 1920 ∧ Q (.str (toString i)) H) (tCons (tVar 2) tNil)) (tCons (tVar 3) tNil)))))))
      { nx := fun _ H' => Q .non H', rt := Q } [some (.ref p), some (.int sm), some (.int lg2), none] H5 := by
      intro lg2 hlg
      refine ⟨_, rfl, p, n + 5, rfl, D5, by omega, fun z H6 hz D6 s6 => ⟨(by show 5 ≤ sizeLine; decide), fun l2 h2 => ?_⟩⟩
      have e2 := Same.nu (o := .lst [.str "", .str "t", .str "tt", .str " \"\\", .str z]) h2
      refine ⟨_, rfl, p, n + 10, 5, rfl, (D6.same e2).up (by omega), by omega, by decide, by decide, fun d6 H7 a6 b6 D7 s7 => ?_⟩
      have n2 : l2 ≠ p := D6.ne h2
      have hl2 := s7.one n2 (e := upd_same)
      obtain ⟨tx, htx, btx⟩ : ∃ tx : Str, [V.str "", V.str "t", V.str "tt", V.str " \"\\", V.str z][d6.toNat]? = some (.str tx) ∧ tx.length ≤ 60 := by
        have hc : d6 = 0 ∨ d6 = 1 ∨ d6 = 2 ∨ d6 = 3 ∨ d6 = 4 := by omega
        rcases hc with rfl | rfl | rfl | rfl | rfl
        · exact ⟨_, rfl, by decide +kernel⟩
        · exact ⟨_, rfl, by decide +kernel⟩
        · exact ⟨_, rfl, by decide +kernel⟩
        · exact ⟨_, rfl, by decide +kernel⟩
        · exact ⟨_, rfl, word_60 hz⟩
      refine ⟨l2, _, d6, _, rfl, rfl, SqL.of hl2, at_of (j := d6.toNat) (by omega) htx, ?_⟩
      have bs : sm.natAbs < 10 ^ 21 := by omega
      refine ⟨_, rfl, _, rfl, _, rfl, log_of bs, _, rfl, _, rfl, _, rfl, log_of hlg, _, rfl, (by show 5 ≤ sizeLine; decide), fun l hl => ?_⟩
      refine q l _ ⟨_, upd_same, rfl, fun v hv => ?_⟩ (D7.ne hl) ((D7.same (Same.nu hl)).up (by omega)) ((((((((s1.trans s2).sm e1).trans s3).trans s4).trans s5).trans s6).sm e2).trans s7 |>.mk hl)
      simp only [List.mem_cons, List.not_mem_nil, or_false] at hv
      rcases hv with rfl | rfl | rfl | rfl | rfl
      · exact ⟨.int sm, rfl, bs⟩
      · exact ⟨.str (istr sm), rfl, istr_60 bs⟩
      · exact ⟨.int lg2, rfl, hlg⟩
      · exact ⟨.str (istr lg2), rfl, istr_60 hlg⟩
      · exact ⟨.str tx, rfl, btx⟩
    refine ite2 (fun _ => ⟨_, rfl, _, rfl, tail _ (by rw [Int.natAbs_neg]; exact blg)⟩) (fun _ => ⟨_, rfl, tail _ blg⟩)
def spScalar : Sp := fun vs H Q _ => ∃ (p a : Addr) (n : Nat), vs = [.ref p, .ref a] ∧ Dr H p n ∧ n < 500000 ∧ AL H a ∧ a ≠ p ∧ ∀ v d H', Rz.flat d = some v → okF d → Dr H' p (n + 6) → Sx [p] H H' → Q v H'
theorem ok__law_scalar (T : Tx w K mg) : Gd P w K base mg CX0 3 (He.fAd K d__law_scalar.at_) ["_law_source_here", "_law_atoms_here"] [] spScalar := by
  have G__law_draw := ok__law_draw (P := P) (w := w) (base := base) T
  have G__law_pick := ok__law_pick (P := P) (w := w) (base := base) T
  have G__law_word := ok__law_word (P := P) (w := w) (base := base) T
  refine mkGd (T.f__law_scalar) sc__law_scalar (fun vs H Q E h => ?_) (fun _ _ _ _ _ _ us hl => match us, hl with | [_, _], _ => rfl) (fun cdv A outer s H vs Q E hr h => ?_)
  · obtain ⟨p, a, n, rfl, _⟩ := h
    rfl
  · have hu := hu_of hr
    obtain ⟨p, a, n, rfl, D, hn, hA, ha, q⟩ := h
    refine ⟨_, (pss_cons (ps_set (i := 2) sc__law_scalar.nd rfl (Or.inl rfl) (pe_callG G__law_draw T.g__law_draw (hr.mono (by first | decide | omega)) pass0 (pa_cons (pv 0) (pa_cons pe_int pa_nil))))
      (pss_cons (ps_if (pt_cmpR op_eq (pv 2) pe_int (nomark _)) (pss_one (ps_ret pe_non)) pss_nil)
      (pss_cons (ps_if (pt_cmpR op_lt (pv 2) pe_int (nomark _)) (pss_one (ps_ret (pe_cmpR op_eq (pv 2) pe_int (nomark _)))) pss_nil)
      (pss_cons (ps_if (pt_cmpR op_lt (pv 2) pe_int (nomark _)) (pss_one (ps_ret (pe_callG G__law_pick T.g__law_pick (hr.mono (by first | decide | omega)) pass0 (pa_cons (pv 0) (pa_cons (pv 1) pa_nil))))) pss_nil)
      (pss_cons (ps_if (pt_cmpR op_eq (pv 2) pe_int (nomark _)) (pss_one (ps_ret (pe_op op_sub (pe_callG G__law_draw T.g__law_draw (hr.mono (by first | decide | omega)) pass0 (pa_cons (pv 0) (pa_cons (pe_op op_pow pe_int pe_int) pa_nil))) (pe_op op_pow pe_int pe_int)))) pss_nil)
      (pss_one (ps_ret (pe_callG G__law_word T.g__law_word (hr.mono (by first | decide | omega)) pass0 (pa_cons (pv 0) pa_nil))))))))), ?_⟩
    refine ⟨_, rfl, p, n, 8, rfl, D, by omega, by decide, by decide, fun d H1 d0 d1 D1 s1 => ?_⟩
    refine ⟨_, rfl, rfl, _, rfl, ite2 (fun _ => q .non .non H1 rfl True.intro (D1.up (by omega)) s1) (fun _ => ?_)⟩
    refine ⟨_, rfl, _, _, rfl, rfl, _, rfl, ite2 (fun _ => ⟨_, rfl, rfl, q _ (.bl _) H1 rfl True.intro (D1.up (by omega)) s1⟩) (fun _ => ?_)⟩
    refine ⟨_, rfl, _, _, rfl, rfl, _, rfl, ite2 (fun _ => ?_) (fun _ => ?_)⟩
    · obtain ⟨xs, h1, h2, h3⟩ := hA
      refine ⟨_, rfl, _, rfl, p, a, n + 1, xs, rfl, D1, by omega, s1.one ha h1, ha, by omega, by omega, fun x hx H' D' s' => ?_⟩
      obtain ⟨e, e1, e2⟩ := h3 x hx
      exact q x e H' e1 e2 (D'.up (by omega)) (s1.trans s')
    refine ⟨_, rfl, rfl, _, rfl, ite2 (fun _ => ?_) (fun _ => ?_)⟩
    · have p20 : ((10 : Int) ^ (20 : Int).toNat) = 100000000000000000000 := by decide
      have p19 : ((10 : Int) ^ (19 : Int).toNat) = 10000000000000000000 := by decide
      refine ⟨_, rfl, _, _, rfl, rfl, ⟨by decide, by decide, by decide⟩, p, n + 1, _, rfl, D1, by omega, by decide, by decide, fun e H2 e0 e1 D2 s2 => ⟨_, _, rfl, rfl, ⟨by decide, by decide, by decide⟩, _, _, rfl, rfl, ?_⟩⟩
      rw [p20] at e1
      exact q _ (.int (e - (10 : Int) ^ (19 : Int).toNat)) H2 rfl (by show (e - (10 : Int) ^ (19 : Int).toNat).natAbs < 10 ^ 21; rw [p19]; omega) (D2.up (by omega)) (s1.trans s2)
    · exact ⟨_, rfl, p, n + 1, rfl, D1, by omega, fun z H2 hz D2 s2 => q _ (.str z) H2 rfl (word_60 hz) (D2.up (by omega)) (s1.trans s2)⟩
def spKey : Sp := fun vs H Q _ => ∃ (p t : Addr) (n : Nat), vs = [.ref p, .ref t] ∧ Dr H p n ∧ n < 500000 ∧ TL H t ∧ t ≠ p ∧ ∀ k H', okK k → Dr H' p (n + 7) → Sx [p] H H' → Q (kV k) H'
theorem ok__law_key (T : Tx w K mg) : Gd P w K base mg CX0 3 (He.fAd K d__law_key.at_) ["_law_source_here", "_law_twins_here"] [] spKey := by
  have G__law_draw := ok__law_draw (P := P) (w := w) (base := base) T
  have G__law_pick := ok__law_pick (P := P) (w := w) (base := base) T
  have G__law_word := ok__law_word (P := P) (w := w) (base := base) T
  refine mkGd (T.f__law_key) sc__law_key (fun vs H Q E h => ?_) (fun _ _ _ _ _ _ us hl => match us, hl with | [_, _], _ => rfl) (fun cdv A outer s H vs Q E hr h => ?_)
  · obtain ⟨p, t, n, rfl, _⟩ := h
    rfl
  · have hu := hu_of hr
    obtain ⟨p, t, n, rfl, D, hn, hT, ht, q⟩ := h
    refine ⟨_, (pss_cons (ps_par (i := 2) (j := 3) (by rfl) sc__law_key.nd rfl rfl (by decide) rfl rfl (pa_cons (pe_callG G__law_draw T.g__law_draw (hr.mono (by first | decide | omega)) pass0 (pa_cons (pv 0) (pa_cons pe_int pa_nil))) (pa_cons (pe_op op_sub (pe_callG G__law_draw T.g__law_draw (hr.mono (by first | decide | omega)) pass0 (pa_cons (pv 0) (pa_cons pe_int pa_nil))) pe_int) pa_nil)) (by rfl))
      (pss_cons (ps_if (pt_cmpR op_lt (pv 2) pe_int (nomark _)) (pss_one (ps_ret (pe_callG G__law_pick T.g__law_pick (hr.mono (by first | decide | omega)) pass0 (pa_cons (pv 0) (pa_cons (pv 1) pa_nil))))) pss_nil)
      (pss_one (ps_ret (pe_ix (r := rIxL K) ix_list (pe_lst (pa_cons (pv 3) (pa_cons (pe_callTy call_str_int (by rfl) T.n_str (by decide +kernel) (pa_cons (pv 3) pa_nil)) (pa_cons (pe_callG G__law_word T.g__law_word (hr.mono (by first | decide | omega)) pass0 (pa_cons (pv 0) pa_nil)) pa_nil)))) (pe_op op_sub (pv 2) pe_int) (fun _ _ => rfl)))))), ?_⟩
    refine ⟨_, rfl, p, n, 6, rfl, D, by omega, by decide, by decide, fun d H1 d0 d1 D1 s1 => ⟨_, rfl, p, n + 1, 1000000, rfl, D1, by omega, by decide, by decide, fun e H2 e0 e1 D2 s2 => ⟨_, _, rfl, rfl, _, _, rfl, ?_⟩⟩⟩
    refine ⟨_, rfl, _, _, rfl, rfl, _, rfl, ite2 (fun _ => ?_) (fun h3 => ?_)⟩
    · obtain ⟨ks, h1, h2, h4, h5⟩ := hT
      refine ⟨_, rfl, _, rfl, p, t, n + 2, _, rfl, D2, by omega, (s1.trans s2).one ht h1, ht, by rw [List.length_map]; omega, by rw [List.length_map]; omega, fun x hx H' D' s' => ?_⟩
      obtain ⟨k, hk, rfl⟩ := List.mem_map.mp hx
      exact q k H' (h5 k hk) (D'.up (by omega)) ((s1.trans s2).trans s')
    · have h3 : ¬ d < 3 := fun y => h3 (decide_eq_true y)
      have be : (e - 500000).natAbs < 10 ^ 21 := by omega
      refine ⟨_, rfl, _, rfl, _, rfl, log_of be, _, rfl, p, n + 2, rfl, D2, by omega, fun z H3 hz D3 s3 => ⟨(by show 3 ≤ sizeLine; decide), fun l hl => ?_⟩⟩
      have DF := (D3.same (Same.nu (o := .lst [V.int (e - 500000), .str (toString (e - 500000)), .str z]) hl)).up (show n + 2 + 5 ≤ n + 7 by omega)
      have sF := ((s1.trans s2).trans s3).mk (o := .lst [V.int (e - 500000), .str (toString (e - 500000)), .str z]) hl
      refine ⟨_, rfl, _, _, rfl, rfl, ?_⟩
      have hc : d = 3 ∨ d = 4 ∨ d = 5 := by omega
      rcases hc with rfl | rfl | rfl
      · exact ⟨l, _, _, _, rfl, rfl, SqL.of upd_same, at_of (j := 0) rfl rfl, q (.inl (e - 500000)) _ be DF sF⟩
      · exact ⟨l, _, _, _, rfl, rfl, SqL.of upd_same, at_of (j := 1) rfl rfl, q (.inr (istr (e - 500000))) _ (istr_60 be) DF sF⟩
      · exact ⟨l, _, _, _, rfl, rfl, SqL.of upd_same, at_of (j := 2) rfl rfl, q (.inr z) _ (word_60 hz) DF sF⟩
end
end Kt
set_option Elab.async false
set_option linter.all false
set_option maxRecDepth 100000
set_option maxHeartbeats 4000000
namespace Kt
open PySem PySem.Spec PyProof.Rows L2 Rz _root_.TL
section
variable {P : Program} {w : World} {K : PySem.W.Frag} {mg : Str → Option Value} {base : Heap}
/-- how many draws a value takes at most -/
def drN : Nat → Nat
  | 0 => 7
  | k + 1 => 23 + 3 * drN k
theorem drN_ge : ∀ k, 7 ≤ drN k
  | 0 => Nat.le_refl _
  | k + 1 => by show 7 ≤ 23 + 3 * drN k; omega
def Rm (H : Hp) (r : Addr) : Prop := ∃ i : Int, H r = some (.lst [.int i])
theorem Rm.same {H H' : Hp} {r : Addr} (h : Rm H r) (s : Same H H') : Rm H' r := by
  obtain ⟨i, h⟩ := h
  exact ⟨i, s _ _ h⟩
theorem Rm.sx {H H' : Hp} {r p : Addr} (h : Rm H r) (n : r ≠ p) (s : Sx [p] H H') : Rm H' r := by
  obtain ⟨i, h⟩ := h
  exact ⟨i, s.one n h⟩
/-- what the makers of values are given -/
structure Gv (K : PySem.W.Frag) (H : Hp) (p t a r : Addr) (n : Nat) (ps : List Addr) : Prop where
  gd : Dr H p n
  gt : TL H t
  ga : AL H a
  gr : Rm H r
  tn : t ∉ [p, r]
  an : a ∉ [p, r]
  rp : r ≠ p
  hs : Has H ps
  pp : p ∈ ps
  rr : r ∈ ps
def spValue (K : PySem.W.Frag) (k : Nat) : Sp := fun vs H Q _ => ∃ (p t a r : Addr) (n : Nat) (ps : List Addr), vs = [.ref p, .int (k : Int), .ref t, .ref a, .ref r] ∧ Gv K H p t a r n ps ∧ n + drN k ≤ 400000 ∧
  ∀ v d H', VAt (CT K) (cut H' ps) k v d → Ok k d → Dr H' p (n + drN k) → Rm H' r → Sx [p, r] H H' → Q v H'
def spTabl (K : PySem.W.Frag) (k : Nat) : Sp := fun vs H Q _ => ∃ (p t a r : Addr) (m : Int) (n : Nat) (ps : List Addr), vs = [.ref p, .int m, .int ((k + 1 : Nat) : Int), .ref t, .ref a, .ref r] ∧ 0 ≤ m ∧ m ≤ 3 ∧ Gv K H p t a r n ps ∧ n + 3 * (7 + drN k) ≤ 400000 ∧
  ∀ v d H', VAt (CT K) (cut H' ps) (k + 1) v d → Ok (k + 1) d → Dr H' p (n + 3 * (7 + drN k)) → Rm H' r → Sx [p, r] H H' → Q v H'
theorem Sx.two {H H' : Hp} {p r : Addr} (s : Sx [p] H H') : Sx [p, r] H H' := s.mono (by simp)
theorem Sx.at2 {H H' : Hp} {ps : List Addr} {b : Addr} {o : HO} (s : Sx ps H H') (e : H b = some o) (h : b ∉ ps) : H' b = some o := s b o h e
theorem Has.sx2 {H H' : Hp} {p r : Addr} {ps : List Addr} (h : Has H ps) (s : Sx [p, r] H H') (hp : H' p ≠ none) (hr : H' r ≠ none) : Has H' ps := fun b hb => by
  by_cases h1 : b ∈ [p, r]
  · simp only [List.mem_cons, List.not_mem_nil, or_false] at h1
    rcases h1 with rfl | rfl
    · exact hp
    · exact hr
  · cases e : H b with
    | none => exact absurd e (h b hb)
    | some o => rw [s b o h1 e]; simp
theorem Dr.some {H : Hp} {p : Addr} {n : Nat} (h : Dr H p n) : H p ≠ none := by
  obtain ⟨g, k, c, h1, _⟩ := h
  rw [h1]; simp
theorem Rm.some {H : Hp} {p : Addr} (h : Rm H p) : H p ≠ none := by
  obtain ⟨i, h1⟩ := h
  rw [h1]; simp
theorem Gv.to {K : PySem.W.Frag} {H H' : Hp} {p t a r : Addr} {n m : Nat} {ps : List Addr} (g : Gv K H p t a r n ps) (s : Sx [p, r] H H') (d : Dr H' p m) (hr : Rm H' r) : Gv K H' p t a r m ps :=
  ⟨d, g.gt.sx g.tn s, g.ga.sx g.an s, hr, g.tn, g.an, g.rp, g.hs.sx2 s d.some hr.some, g.pp, g.rr⟩
theorem Gv.cons {K : PySem.W.Frag} {H : Hp} {p t a r : Addr} {n : Nat} {ps : List Addr} {L : Addr} {o : HO} (g : Gv K H p t a r n ps) (h : H L = some o) : Gv K H p t a r n (L :: ps) :=
  ⟨g.gd, g.gt, g.ga, g.gr, g.tn, g.an, g.rp, fun b hb => by
    rcases List.mem_cons.mp hb with z | z
    · rw [z, h]; simp
    · exact g.hs b z, List.mem_cons_of_mem _ g.pp, List.mem_cons_of_mem _ g.rr⟩
theorem Gv.ne {K : PySem.W.Frag} {H : Hp} {p t a r : Addr} {n : Nat} {ps : List Addr} (g : Gv K H p t a r n ps) {L : Addr} (h : H L = none) : L ∉ [p, r] := by
  simp only [List.mem_cons, List.not_mem_nil, or_false, not_or]
  exact ⟨fun z => g.gd.some (by rw [← z]; exact h), fun z => g.gr.some (by rw [← z]; exact h)⟩
theorem cut_pr {H H' : Hp} {p r : Addr} {ps : List Addr} (s : Sx [p, r] H H') (hp : p ∈ ps) (hr : r ∈ ps) : Same (cut H ps) (cut H' ps) := cut_sx (s.mono fun b hb => by
  simp only [List.mem_cons, List.not_mem_nil, or_false] at hb
  rcases hb with rfl | rfl
  · exact hp
  · exact hr)
theorem ok__law_table (T : Tx w K mg) (k lev : Nat) (hlev : k + 3 ≤ lev) (G__law_value : Gd P w K base mg CX0 lev (He.fAd K d__law_value.at_) ["_law_source_here", "_law_deep", "_law_twins_here", "_law_atoms_here", "_law_room"] [] (spValue K k)) :
    Gd P w K base mg CX0 (lev + 1) (He.fAd K d__law_table.at_) ["_law_source_here", "_law_many", "_law_deep", "_law_twins_here", "_law_atoms_here", "_law_room"] [] (spTabl K k) := by
  have G__law_key := ok__law_key (P := P) (w := w) (base := base) T
  have G_Table_init := ok_Table_init (P := P) (w := w) (base := base) T k
  refine mkGd (T.f__law_table) sc__law_table (fun vs H Q E h => ?_) (fun _ _ _ _ _ _ us hl => match us, hl with | [_, _, _, _, _, _], _ => rfl) (fun cdv A outer s H vs Q E hr h => ?_)
  · obtain ⟨p, t, a, r, m, n, ps, rfl, _⟩ := h
    rfl
  · have hu := hu_of hr
    obtain ⟨p, t, a, r, m, n, ps, rfl, hm0, hm3, g, hn, q⟩ := h
    refine ⟨_, (pss_cons (ps_set (i := 6) sc__law_table.nd rfl (Or.inl rfl) (pe_lst pa_nil))
      (pss_cons (ps_for PassesOwn.never rfl (pi_range1 rfl T.n_range (pa_cons (pv 1) pa_nil)) (pg_name (i := 7) sc__law_table.nd rfl (Or.inl rfl))
      (pss_cons (ps_set (i := 8) sc__law_table.nd rfl (Or.inl rfl) (pe_callG G__law_key T.g__law_key (hr.mono (by first | decide | omega)) pass0 (pa_cons (pv 0) (pa_cons (pv 3) pa_nil))))
      (pss_one (ps_if (pt_cmpR op_notIn_seq (pv 8) (pe_lc (own := [("_law_old", 9), ("_law_item", 10)]) (g := gTup K 2 (gCons (gName 9) (gCons (gName 10) gNil))) (tt := tYes) rfl sc__law_table.nd (pi_list (pv 6)) (blkOk_by (own := [("_law_old", 9), ("_law_item", 10)]) (N := N__law_table) (sc := defScope s__law_table) (by decide +kernel)) (fun _ _ _ _ _ => (pg_tup rfl (pgs_cons (pg_name (i := 9) sc__law_table.nd rfl (Or.inl rfl)) (pgs_cons (pg_name (i := 10) sc__law_table.nd rfl (Or.inl rfl)) pgs_nil)))) (fun _ _ _ _ _ => pts_nil) (fun _ _ _ _ _ => (pv 9))) (by rfl)) (pss_one (ps_expr (pe_bm PySem.F.plainAttrs_list PySem.F.slot_list_append PySem.F.type_list_append mt_append (pv 6) (pa_cons (pe_tup (pa_cons (pv 8) (pa_cons (pe_callG G__law_value T.g__law_value (hr.mono (by first | decide | omega)) pass0 (pa_cons (pv 0) (pa_cons (pe_op op_sub (pv 2) pe_int) (pa_cons (pv 3) (pa_cons (pv 4) (pa_cons (pv 5) pa_nil)))))) pa_nil))) pa_nil)))) pss_nil))))
      (pss_one (ps_ret (pe_makeG T.mk_Table G_Table_init (hr.mono (by first | decide | omega)) T.g_Table pass0 (pa_cons (pv 6) pa_nil)))))), ?_⟩
    refine ⟨Nat.zero_le _, fun L hL => ⟨_, rfl, _, rfl, by omega, by omega, for_range (lo := 0) (n := m.toNat)
      (fun i σ H' => (∃ u v, σ = [some (.ref p), some (.int m), some (.int ((k + 1 : Nat) : Int)), some (.ref t), some (.ref a), some (.ref r), some (.ref L), u, v, none, none]) ∧ Dr H' p (n + i * (7 + drN k)) ∧ Rm H' r ∧ Sx [p, r] H H' ∧
        ∃ ts es, H' L = some (.lst ts) ∧ Paired (EntAt K H' (L :: ps) k) ts es ∧ es.length ≤ i ∧ (es.map (·.1)).Nodup ∧ ∀ e ∈ es, okK e.1 ∧ Ok k e.2)
      ⟨⟨_, _, rfl⟩, (g.gd.same (Same.nu hL)).up (by omega), g.gr.same (Same.nu hL), Sx.of (Same.nu hL), [], [], upd_same, .nil, Nat.le_refl _, .nil, fun _ h => nomatch h⟩ ?_ ?_⟩⟩
    · rintro i σ H1 hi ⟨⟨u, v, rfl⟩, D1, R1, s1, ts, es, hL1, hE, hel, hnd, hok⟩
      have hi3 : i < 3 := by omega
      have g1 := g.to s1 D1 R1
      have bnd : n + i * (7 + drN k) + (7 + drN k) ≤ n + 3 * (7 + drN k) := by
        have : (i + 1) * (7 + drN k) ≤ 3 * (7 + drN k) := Nat.mul_le_mul_right _ (by omega)
        rw [Nat.add_mul] at this
        omega
      have hLpr : L ∉ [p, r] := g.ne hL
      refine ⟨_, rfl, _, rfl, p, t, _, rfl, D1, by omega, g1.gt, (by have := g1.tn; simp only [List.mem_cons, not_or] at this; exact this.1), fun y H2 hy D2 s2 => ?_⟩
      have s12 := s1.trans (Sx.two (r := r) s2)
      have R2 := R1.sx g.rp s2
      have g2 := g.to s12 D2 R2
      have hL2 := (Sx.two (r := r) s2).at2 hL1 hLpr
      have hlen := Paired.length hE
      have ent : ∀ {Ha Hb : Hp} {t : V} {e : Key × Val}, Sx [p, r] Ha Hb → EntAt K Ha (L :: ps) k t e → p ∈ ps → Dr Ha p (n + i * (7 + drN k)) → Rm Ha r → EntAt K Hb (L :: ps) k t e := fun sx h _ dd rm => by
        obtain ⟨b, y, e1, h1, h2⟩ := h
        refine ⟨b, y, e1, sx b _ ?_ h1, VAt.same (cut_pr sx (List.mem_cons_of_mem _ g.pp) (List.mem_cons_of_mem _ g.rr)) h2⟩
        obtain ⟨_, _, _, dp, _⟩ := dd
        obtain ⟨_, rp⟩ := rm
        simp only [List.mem_cons, List.not_mem_nil, or_false, not_or]
        exact ⟨ne_of h1 dp (by intro z; cases z), ne_of h1 rp (by intro z; cases z)⟩
      have hE2 : Paired (EntAt K H2 (L :: ps) k) ts es := Paired.mapP hE fun _ _ h => ent (Sx.two s2) h g.pp D1 R1
      refine ⟨_, rfl, _, rfl, L, rfl, ⟨_, SqL.of hL2⟩, fun D hD => lc_list (xs := ts) (fun j H3 => Same H2 H3 ∧ H3 D = some (.lst (((es.take j).map (·.1)).map kV))) ⟨Same.nu hD, upd_same⟩ (fun j H3 _ h => SqL.of (h.1 _ _ hL2)) ?_ ?_⟩
      · rintro j x H3 hx ⟨s3, ha⟩
        obtain ⟨e, he, b, y0, rfl, hb, _⟩ := Paired.at hE2 hx
        refine ⟨b, _, rfl, SqT.of (s3 _ _ hb), rfl, _, _, rfl, _, _, rfl, rfl, rfl, _, rfl, _, ha, ?_, Same.mk'' s3 hD, ?_⟩
        · rw [List.length_map, List.length_map, List.length_take]
          exact small1000 (by omega)
        · rw [upd_same, take_snoc he, List.map_append, List.map_append]
          rfl
      · rintro H3 ⟨s3, ha⟩
        rw [List.take_of_length_le (by omega)] at ha
        have hL3 := s3 _ _ hL2
        have g3 := (g.to (s12.sm s3) (D2.same s3) (R2.same s3))
        have next : ∀ {H4 : Hp} {ts' : List V} {es' : List (Key × Val)} {m' : Nat}, Dr H4 p m' → m' ≤ n + i * (7 + drN k) + (7 + drN k) → Rm H4 r → Sx [p, r] H H4 → H4 L = some (.lst ts') → Paired (EntAt K H4 (L :: ps) k) ts' es' → es'.length ≤ i + 1 → (es'.map (·.1)).Nodup → (∀ e ∈ es', okK e.1 ∧ Ok k e.2) →
            (∃ u v, [some (.ref p), some (.int m), some (.int ((k + 1 : Nat) : Int)), some (.ref t), some (.ref a), some (.ref r), some (.ref L), some (.int (0 + (i : Int))), some (kV y), none, none] = [some (.ref p), some (.int m), some (.int ((k + 1 : Nat) : Int)), some (.ref t), some (.ref a), some (.ref r), some (.ref L), u, v, none, none]) ∧ Dr H4 p (n + (i + 1) * (7 + drN k)) ∧ Rm H4 r ∧ Sx [p, r] H H4 ∧
              ∃ ts es, H4 L = some (.lst ts) ∧ Paired (EntAt K H4 (L :: ps) k) ts es ∧ es.length ≤ i + 1 ∧ (es.map (·.1)).Nodup ∧ ∀ e ∈ es, okK e.1 ∧ Ok k e.2 := fun d hm' rm sx hl hp hle hnd hok =>
          ⟨⟨_, _, rfl⟩, d.up (by rw [Nat.add_mul]; omega), rm, sx, _, _, hl, hp, hle, hnd, hok⟩
        refine ⟨D, _, rfl, .inl (SqL.of ha), flat_kV y, flats_kV _, _, rfl, ?_⟩
        have hE3 : Paired (EntAt K H3 (L :: ps) k) ts es := Paired.mapP hE2 fun _ _ h => ent_same s3 (cut_sx (Sx.of s3)) h
        by_cases hin : y ∈ es.map (·.1)
        · rw [inV_kV.mpr hin]
          exact iteF (next (D2.same s3) (by omega) (R2.same s3) (s12.sm s3) hL3 hE3 (by omega) hnd hok)
        · rw [show inV (kV y) ((es.map (·.1)).map kV) = false from Bool.eq_false_iff.mpr fun z => hin (inV_kV.mp z)]
          refine iteT ⟨_, rfl, .inl ⟨rfl, _, SqL.of hL3⟩, _, rfl, _, rfl, _, rfl, _, _, rfl, rfl, _, rfl, _, rfl, _, rfl, p, t, a, r, _, L :: ps, ?_, g3.cons hL3, by omega, fun v d H4 hv okd D4 R4 s4 => ⟨(by show 2 ≤ sizeLine; decide), fun q2 hq2 => ?_⟩⟩
          · exact congrArg (fun z => [V.ref p, V.int z, V.ref t, V.ref a, V.ref r]) (show ((k + 1 : Nat) : Int) - 1 = (k : Int) by omega)
          · have hL4 := s4.at2 hL3 hLpr
            have nu := Same.nu (o := .tup [kV y, v]) hq2
            have nL : L ≠ q2 := ne_of_none hL4 hq2
            have hE4 : Paired (EntAt K H4 (L :: ps) k) ts es := Paired.mapP hE3 fun _ _ h => by
              obtain ⟨b, y, e1, h1, h2⟩ := h
              refine ⟨b, y, e1, s4 b _ ?_ h1, VAt.same (cut_pr s4 (List.mem_cons_of_mem _ g.pp) (List.mem_cons_of_mem _ g.rr)) h2⟩
              obtain ⟨_, _, _, dp, _⟩ := D2.same s3
              obtain ⟨_, rp⟩ := R2.same s3
              simp only [List.mem_cons, List.not_mem_nil, or_false, not_or]
              exact ⟨ne_of h1 dp (by intro z; cases z), ne_of h1 rp (by intro z; cases z)⟩
            refine ⟨L, ts, _, rfl, rfl, nu _ _ hL4, small1000 (by omega), ?_⟩
            have sx : ∀ b o, b ≠ L → H4 b = some o → (upd (upd H4 q2 (.tup [kV y, v])) L (.lst (ts ++ [.ref q2]))) b = some o := fun b o n e => by
              rw [upd_ne n]
              exact nu _ _ e
            have cc : Same (cut H4 (L :: ps)) (cut (upd (upd H4 q2 (.tup [kV y, v])) L (.lst (ts ++ [.ref q2]))) (L :: ps)) := by
              rw [cut_cons]
              exact cut_put hq2
            have pne : p ≠ L := fun z => hLpr (by simp [z])
            have rne : r ≠ L := fun z => hLpr (by simp [z])
            obtain ⟨gg, gk, gc, dp, dd⟩ := D4
            obtain ⟨ri, rp⟩ := R4
            refine next (m' := n + i * (7 + drN k) + 7 + drN k) ⟨gg, gk, gc, sx _ _ pne dp, dd⟩ (by omega) ⟨ri, sx _ _ rne rp⟩ ?_ upd_same (es' := es ++ [(y, d)]) ?_ (by rw [List.length_append, List.length_singleton]; omega) ?_ ?_
            · refine fun b o nb e => sx b o (fun z => ?_) ((s12.sm s3).trans s4 b o nb e)
              rw [z, hL] at e
              cases e
            · refine Paired.snoc (Paired.mapP hE4 fun _ _ h => ?_) ⟨q2, v, rfl, ?_, VAt.same cc hv⟩
              · obtain ⟨b, y, e1, h1, h2⟩ := h
                exact ⟨b, y, e1, sx b _ (ne_of h1 hL4 (by intro z; cases z)) h1, VAt.same cc h2⟩
              · rw [upd_ne nL.symm, upd_same]
            · rw [List.map_append]
              refine List.nodup_append.mpr ⟨hnd, (by simp), fun a1 h1 b1 h2 => ?_⟩
              rw [List.map_singleton, List.mem_singleton] at h2
              rw [h2]
              exact fun z => hin (by rw [← show a1 = y from z]; exact h1)
            · intro e he
              rcases List.mem_append.mp he with z | z
              · exact hok e z
              · rw [List.mem_singleton.mp z]; exact ⟨hy, okd⟩
    · rintro σ H1 ⟨⟨u, v, rfl⟩, D1, R1, s1, ts, es, hL1, hE, hel, hnd, hok⟩
      have g1 := g.to s1 D1 R1
      refine ⟨_, rfl, fun x dx hx hd hn' => ?_⟩
      have s2 : Same H1 (upd (upd H1 dx (.own x)) x (.ins (CT K) dx [])) := Same.mk'' (Same.nu hd) hx
      have hnx : x ∉ ps := g1.hs.new hx
      refine ⟨x, L, dx, ts, es, ps, rfl, upd_same, SqL.of (s2 _ _ hL1), g1.hs.sx s2, hnx, Paired.mapP hE fun _ _ h => ?_, ⟨by omega, hnd, hok⟩, fun H2 kp hv => ⟨rfl, ?_⟩⟩
      · obtain ⟨b, y, e1, h1, h2⟩ := h
        refine ⟨b, y, e1, s2 _ _ h1, VAt.same (fun c o e => ?_) h2⟩
        have e2 := cut_le _ _ e
        unfold cut at e
        split at e
        · cases e
        · rename_i nc
          refine cut_at (fun z => ?_) (s2 _ _ e2)
          rcases List.mem_cons.mp z with z | z
          · rw [z, hx] at e2; cases e2
          · exact nc (List.mem_cons_of_mem _ z)
      · have s3 : Same H1 H2 := fun b o e => kp b o (ne_of_none e hx) (s2 _ _ e)
        refine q _ (.tab es) H2 hv (.inr (.inr ⟨es, rfl, by omega, hnd, hok⟩)) ((D1.same s3).up ?_) (R1.same s3) (s1.sm s3)
        have : m.toNat * (7 + drN k) ≤ 3 * (7 + drN k) := Nat.mul_le_mul_right _ (by omega)
        omega
end
end Kt
set_option Elab.async false
set_option linter.all false
set_option maxRecDepth 100000
set_option maxHeartbeats 4000000
namespace Kt
open PySem PySem.Spec PyProof.Rows L2 Rz _root_.TL
section
variable {P : Program} {w : World} {K : PySem.W.Frag} {mg : Str → Option Value} {base : Heap}
theorem st__law_value (T : Tx w K mg) (k : Nat) (G__law_value : Gd P w K base mg CX0 (2 * k + 2) (He.fAd K d__law_value.at_) ["_law_source_here", "_law_deep", "_law_twins_here", "_law_atoms_here", "_law_room"] [] (prv (spValue K) k)) :
    Gd P w K base mg CX0 (2 * (k + 1) + 2) (He.fAd K d__law_value.at_) ["_law_source_here", "_law_deep", "_law_twins_here", "_law_atoms_here", "_law_room"] [] (spValue K k) := by
  have G__law_draw := ok__law_draw (P := P) (w := w) (base := base) T
  have G__law_scalar := ok__law_scalar (P := P) (w := w) (base := base) T
  obtain ⟨sT, hsT, G__law_table⟩ : ∃ sT : Sp, (∀ j, k = j + 1 → sT = spTabl K j) ∧ Gd P w K base mg CX0 (2 * k + 3) (He.fAd K d__law_table.at_) ["_law_source_here", "_law_many", "_law_deep", "_law_twins_here", "_law_atoms_here", "_law_room"] [] sT := by
    cases k with
    | zero => exact ⟨_, fun _ z => (nomatch z), mkGdF (T.f__law_table) sc__law_table (fun _ _ _ _ _ _ us hl => match us, hl with | [_, _, _, _, _, _], _ => rfl) _⟩
    | succ j => exact ⟨_, fun _ z => by cases z; rfl, ok__law_table T j (2 * (j + 1) + 2) (by omega) G__law_value⟩
  refine mkGd (T.f__law_value) sc__law_value (fun vs H Q E h => ?_) (fun _ _ _ _ _ _ us hl => match us, hl with | [_, _, _, _, _], _ => rfl) (fun cdv A outer s H vs Q E hr h => ?_)
  · obtain ⟨p, t, a, r, n, ps, rfl, _⟩ := h
    rfl
  · have hu := hu_of hr
    obtain ⟨p, t, a, r, n, ps, rfl, g, hn, q⟩ := h
    have hg7 := drN_ge k
    refine ⟨_, (pss_cons (ps_set (i := 5) sc__law_value.nd rfl (Or.inl rfl) (pe_callG G__law_draw T.g__law_draw (hr.mono (by first | decide | omega)) pass0 (pa_cons (pv 0) (pa_cons pe_int pa_nil))))
      (pss_cons (ps_if (PW.pt (pw_or (pt_cmpR op_eq (pv 1) pe_int (nomark _)) (pw_or (pt_cmpR op_le (pe_ix (r := rIxL K) ix_list (pv 4) pe_int (fun _ _ => rfl)) pe_int (nomark _)) (pw_or1 (pt_cmpR op_lt (pv 5) pe_int (nomark _)))))) (pss_one (ps_ret (pe_callG G__law_scalar T.g__law_scalar (hr.mono (by first | decide | omega)) pass0 (pa_cons (pv 0) (pa_cons (pv 3) pa_nil))))) pss_nil)
      (pss_cons (ps_set (i := 6) sc__law_value.nd rfl (Or.inl rfl) (pe_callG G__law_draw T.g__law_draw (hr.mono (by first | decide | omega)) pass0 (pa_cons (pv 0) (pa_cons pe_int pa_nil))))
      (pss_cons (ps_asg (pe_op op_sub (pe_ix (r := rIxL K) ix_list (pv 4) pe_int (fun _ _ => rfl)) (pv 6)) (pg_sub (pv 4) pe_int set_list))
      (pss_cons (ps_if (pt_cmpR op_lt (pv 5) pe_int (nomark _)) (pss_cons (ps_setLc (i := 8) (own := [("_law_turn", 7)]) (g := gName 7) (tt := tYes) rfl sc__law_value.nd rfl rfl (sw_true rfl rfl rfl (by decide +kernel)) (pi_range1 rfl T.n_range (pa_cons (pv 6) pa_nil)) (blkOk_by (own := [("_law_turn", 7)]) (N := N__law_value) (sc := defScope s__law_value) (by decide +kernel)) (fun _ _ _ _ _ => (pg_name (i := 7) sc__law_value.nd rfl (Or.inl rfl))) (fun _ _ _ _ _ => pts_nil) (fun _ _ _ _ _ => (pe_callG G__law_value T.g__law_value (hr.mono (by first | decide | omega)) pass0 (pa_cons (pv 0) (pa_cons (pe_op op_sub (pv 1) pe_int) (pa_cons (pv 2) (pa_cons (pv 3) (pa_cons (pv 4) pa_nil))))))))
      (pss_one (ps_ret (pe_ifExp (pt_cmpR op_lt (pv 5) pe_int (nomark _)) (pe_callTy call_tuple_of (by rfl) T.n_tuple (by decide +kernel) (pa_cons (pv 8) pa_nil)) (pv 8))))) pss_nil)
      (pss_one (ps_ret (pe_callG G__law_table T.g__law_table (hr.mono (by first | decide | omega)) pass0 (pa_cons (pv 0) (pa_cons (pv 6) (pa_cons (pv 1) (pa_cons (pv 2) (pa_cons (pv 3) (pa_cons (pv 4) pa_nil)))))))))))))), ?_⟩
    refine ⟨_, rfl, p, n, 8, rfl, g.gd, by omega, by decide, by decide, fun d H1 d0 d1 D1 s1 => ?_⟩
    have R1 := g.gr.sx g.rp s1
    have g1 := g.to (Sx.two s1) D1 R1
    have hap : a ≠ p := fun z => g.an (by simp [z])
    have sc : ∀ D : Ends, D.rt = Q → tRet (tCall spScalar [] E0 (tCons (tVar 0) (tCons (tVar 3) tNil))) D [some (.ref p), some (.int (k : Int)), some (.ref t), some (.ref a), some (.ref r), some (.int d), none, none, none] H1 := fun D eD => by
      refine ⟨_, rfl, _, rfl, p, a, n + 1, rfl, D1, by omega, g1.ga, hap, fun v e H2 hv he D2 s2 => ?_⟩
      rw [eD]
      exact q v e H2 (VAt.flat hv) (Ok.flat he) (D2.up (by omega)) (R1.sx g.rp s2) ((Sx.two s1).trans (Sx.two s2))
    obtain ⟨ri, hri⟩ := R1
    refine ⟨_, rfl, rfl, _, rfl, ite2 (fun _ => iteT (sc _ rfl)) (fun hk => ⟨_, rfl, r, _, 0, _, rfl, rfl, SqL.of hri, at_of (j := 0) rfl rfl, _, _, rfl, rfl, _, rfl, ite2 (fun _ => iteT (sc _ rfl)) (fun _ => ⟨_, rfl, _, _, rfl, rfl, _, rfl, ite2 (fun _ => sc _ rfl) (fun _ => ?_)⟩)⟩)⟩
    clear sc
    have hk : k ≠ 0 := fun z => hk (by rw [z]; rfl)
    obtain ⟨j, rfl⟩ : ∃ j, k = j + 1 := ⟨k - 1, by omega⟩
    cases hsT j rfl
    have en : drN (j + 1) = 23 + 3 * drN j := rfl
    rw [en] at hn q
    refine ⟨_, rfl, p, n + 1, 4, rfl, D1, by omega, by decide, by decide, fun m H2 m0 m1 D2 s2 => ?_⟩
    have hr2 := s2.one g.rp hri
    refine ⟨_, rfl, r, _, 0, _, rfl, rfl, SqL.of hr2, at_of (j := 0) rfl rfl, _, rfl, _, _, rfl, rfl, _, rfl, r, _, _, 0, rfl, rfl, hr2, rfl, ?_⟩
    obtain ⟨H3, hH3⟩ : ∃ H3, upd H2 r (.lst [.int (ri - m)]) = H3 := ⟨_, rfl⟩
    have s3 : Sx [p, r] H H3 := ((Sx.two s1).trans (Sx.two s2)).trans (by rw [← hH3]; exact Sx.up (by simp))
    have D3 : Dr H3 p (n + 2) := by
      obtain ⟨gg, gk, gc, dp, dd⟩ := D2
      exact ⟨gg, gk, gc, by rw [← hH3, upd_ne g.rp.symm]; exact dp, dd⟩
    have R3 : Rm H3 r := ⟨_, by rw [← hH3]; exact upd_same⟩
    have g3 := g.to s3 D3 R3
    have hst : upd H2 r (.lst ([V.int ri].set 0 (.int (ri - m)))) = H3 := hH3
    have hT : ∀ (d2 : Int), spTabl K j [.ref p, .int m, .int ((j + 1 : Nat) : Int), .ref t, .ref a, .ref r] H3 Q E0 := fun _ =>
      ⟨p, t, a, r, m, n + 2, ps, rfl, m0, by omega, g3, by omega, fun v e H4 hv he D4 R4 s4 => q v e H4 hv he (D4.up (by omega)) R4 (s3.trans s4)⟩
    rw [hst]
    clear hst hH3
    refine ⟨_, rfl, _, _, rfl, rfl, _, rfl, ite2 (fun _ => ?_) (fun _ => ?_)⟩
    · refine ⟨_, rfl, _, rfl, by omega, by omega, fun D hD => lc_range (lo := 0) (n := m.toNat) (fun i H' => Dr H' p (n + 2 + i * drN j) ∧ Rm H' r ∧ Sx [p, r] H3 H' ∧ ∃ ys ds, H' D = some (.lst ys) ∧ Paired (VAt (CT K) (cut H' (D :: ps)) j) ys ds ∧ ds.length ≤ i ∧ ∀ e ∈ ds, Ok j e)
        ⟨(D3.same (Same.nu hD)).up (by omega), R3.same (Same.nu hD), Sx.of (Same.nu hD), [], [], upd_same, .nil, Nat.le_refl _, fun _ h => nomatch h⟩ ?_ ?_⟩
      · rintro i H4 hi ⟨D4, R4, s4, ys, ds, hD4, hP, hl, hok⟩
        have hi3 : i < 3 := by omega
        have bnd : n + 2 + i * drN j + drN j ≤ n + 2 + 3 * drN j := by
          have : (i + 1) * drN j ≤ 3 * drN j := Nat.mul_le_mul_right _ (by omega)
          rw [Nat.add_mul] at this
          omega
        have g4 := (g3.to s4 D4 R4).cons hD4
        have hDpr : D ∉ [p, r] := g3.ne hD
        refine ⟨rfl, _, rfl, _, rfl, _, _, rfl, rfl, _, rfl, _, rfl, _, rfl, p, t, a, r, _, D :: ps, ?_, g4, by omega, fun v e H5 hv he D5 R5 s5 => ⟨ys, s5.at2 hD4 hDpr, ?_, ?_⟩⟩
        · exact congrArg (fun z => [V.ref p, V.int z, V.ref t, V.ref a, V.ref r]) (show ((j + 1 : Nat) : Int) - 1 = (j : Int) by omega)
        · have := Paired.length hP
          exact small1000 (by omega)
        · have pne : p ≠ D := fun z => hDpr (by simp [z])
          have rne : r ≠ D := fun z => hDpr (by simp [z])
          have sx : ∀ b o, b ≠ D → H5 b = some o → (upd H5 D (.lst (ys ++ [v]))) b = some o := fun b o n e => by
            rw [upd_ne n]
            exact e
          obtain ⟨gg, gk, gc, dp, dd⟩ := D5.up (m := n + 2 + (i + 1) * drN j) (by rw [Nat.add_mul]; omega)
          obtain ⟨r5, rp⟩ := R5
          refine ⟨⟨gg, gk, gc, sx _ _ pne dp, dd⟩, ⟨r5, sx _ _ rne rp⟩, fun b o nb e => sx b o (fun z => ?_) (s4.trans s5 b o nb e), ys ++ [v], ds ++ [e], upd_same, ?_, by rw [List.length_append, List.length_singleton]; omega, fun e' h' => ?_⟩
          · rw [z, hD] at e
            cases e
          · rw [cut_cons]
            exact Paired.snoc (Paired.mapP hP fun _ _ h => VAt.same (cut_pr s5 (List.mem_cons_of_mem _ g.pp) (List.mem_cons_of_mem _ g.rr)) h) hv
          · rcases List.mem_append.mp h' with z | z
            · exact hok e' z
            · rw [List.mem_singleton.mp z]; exact he
      · rintro H4 ⟨D4, R4, s4, ys, ds, hD4, hP, hl, hok⟩
        have bnd : m.toNat * drN j ≤ 3 * drN j := Nat.mul_le_mul_right _ (by omega)
        have hnD : D ∉ ps := g3.hs.new hD
        have hP2 : Paired (VAt (CT K) (cut H4 ps) j) ys ds := Paired.mapP hP fun _ _ h => VAt.same (cut_mono fun b hb => List.mem_cons_of_mem _ hb) h
        refine ⟨_, rfl, _, _, rfl, rfl, _, rfl, ite2 (fun _ => ?_) (fun _ => ?_)⟩
        · refine ⟨_, rfl, D, ys, rfl, .inl ⟨SqL.of hD4, fun q2 hq2 => ?_⟩⟩
          have nu := Same.nu (o := .tup ys) hq2
          have nq : q2 ∉ ps := fun z => (g3.to s4 D4 R4).hs q2 z hq2
          exact q _ (.seq false ds) _ (.inr (.inl ⟨false, ds, q2, ys, rfl, rfl, cut_at nq upd_same, Paired.mapP hP2 fun _ _ h => VAt.same (cut_put hq2) h⟩)) (.inr (.inl ⟨false, ds, rfl, by omega, hok⟩)) ((D4.same nu).up (by omega)) (R4.same nu) ((s3.trans s4).sm nu)
        · exact ⟨_, rfl, q _ (.seq true ds) H4 (.inr (.inl ⟨true, ds, D, ys, rfl, rfl, cut_at hnD hD4, hP2⟩)) (.inr (.inl ⟨true, ds, rfl, by omega, hok⟩)) (D4.up (by omega)) R4 (s3.trans s4)⟩
    · exact ⟨_, rfl, _, rfl, _, rfl, _, rfl, _, rfl, _, rfl, hT 0⟩
theorem ok__law_value (T : Tx w K mg) : ∀ k, Gd P w K base mg CX0 (2 * (k + 1) + 2) (He.fAd K d__law_value.at_) ["_law_source_here", "_law_deep", "_law_twins_here", "_law_atoms_here", "_law_room"] [] (spValue K k) :=
  recGdN (fun k => 2 * k + 2) (fun l => mkGdF (T.f__law_value) sc__law_value (fun _ _ _ _ _ _ us hl => match us, hl with | [_, _, _, _, _], _ => rfl) l) fun k G => st__law_value T k G
end
end Kt
set_option Elab.async false
set_option linter.all false
set_option maxRecDepth 100000
set_option maxHeartbeats 4000000
namespace Kt
open PySem PySem.Spec PyProof.Rows L2 Rz _root_.TL
section
variable {P : Program} {w : World} {K : PySem.W.Frag} {mg : Str → Option Value} {base : Heap}
theorem sum_cast (l : List Nat) : ((l.map fun (n : Nat) => (n : Int)).sum : Int) = ((l.sum : Nat) : Int) := by
  induction l with
  | nil => rfl
  | cons a r ih => rw [List.map_cons, List.sum_cons, List.sum_cons, ih]; omega
def spParts (K : PySem.W.Frag) (k : Nat) : Sp := fun vs H Q _ => ∃ (j : Nat) (x : V) (d : Val), j ≤ k ∧ vs = [x] ∧ VAt (CT K) H j x d ∧ Ok j d ∧ ∀ H', Same H H' → Q (.int ((Rz.parts j d : Nat) : Int)) H'
theorem parts_leaf {k : Nat} {d : Val} (n1 : ∀ t l, d ≠ .seq t l) (n2 : ∀ es, d ≠ .tab es) : Rz.parts k d = 1 := by
  cases k with
  | zero => rfl
  | succ k => cases d with
    | seq t l => exact absurd rfl (n1 t l)
    | tab es => exact absurd rfl (n2 es)
    | _ => rfl
theorem st__law_parts (T : Tx w K mg) (k : Nat) (G__law_parts : Gd P w K base mg CX0 (k + 2) (He.fAd K d__law_parts.at_) ["_law_value_here"] [] (prv (spParts K) k)) : Gd P w K base mg CX0 ((k + 2) + 1) (He.fAd K d__law_parts.at_) ["_law_value_here"] [] ((spParts K) k) := by
  refine mkGd (T.f__law_parts) sc__law_parts (fun vs H Q E h => ?_) (fun _ _ _ _ _ _ us hl => match us, hl with | [_], _ => rfl) (fun cdv A outer s H vs Q E hr h => ?_)
  · obtain ⟨j, x, d, _, rfl, _⟩ := h
    rfl
  · have hu := hu_of hr
    obtain ⟨j, x, d, hj, rfl, hv, ok, q⟩ := h
    have G_Table_entries := ok_Table_entries (P := P) (w := w) (base := base) T (j - 1)
    refine ⟨_, (pss_cons (ps_if (pt_val (pe_callB call_isiT (by rfl) T.n_isinstance (by decide +kernel) (pa_cons (pv 0) (pa_cons (pe_tup (pa_cons (pe_bltn (v := .ty "list") (u := .type "list") (by rfl) T.n_list (by decide +kernel) rfl) (pa_cons (pe_bltn (v := .ty "tuple") (u := .type "tuple") (by rfl) T.n_tuple (by decide +kernel) rfl) pa_nil))) pa_nil)))) (pss_one (ps_ret (pe_op op_add pe_int (pe_callB (cr_sum rfl) (by rfl) T.n_sum (by decide +kernel) (pa_cons (pe_lc (own := [("_law_item", 1)]) (g := gName 1) (tt := tYes) rfl sc__law_parts.nd (pi_seqB (pv 0)) (blkOk_by (own := [("_law_item", 1)]) (N := N__law_parts) (sc := defScope s__law_parts) (by decide +kernel)) (fun _ _ _ _ _ => (pg_name (i := 1) sc__law_parts.nd rfl (Or.inl rfl))) (fun _ _ _ _ _ => pts_nil) (fun _ _ _ _ _ => (pe_callG G__law_parts T.g__law_parts (hr.mono (by first | decide | omega)) pass0 (pa_cons (pv 1) pa_nil)))) pa_nil))))) pss_nil)
      (pss_cons (ps_if (pt_val (pe_callB call_isi (by rfl) T.n_isinstance (by decide +kernel) (pa_cons (pv 0) (pa_cons (pe_glob (v := .ref (He.ga K "Table")) rfl T.g_Table rfl) pa_nil)))) (pss_one (ps_ret (pe_op op_add pe_int (pe_callB (cr_sum rfl) (by rfl) T.n_sum (by decide +kernel) (pa_cons (pe_lc (own := [("_law_key_here", 2), ("_law_item", 1)]) (g := gTup K 2 (gCons (gName 2) (gCons (gName 1) gNil))) (tt := tYes) rfl sc__law_parts.nd (pi_list (pe_methG0 (pv 0) T.cl_Table T.m_Table_entries G_Table_entries (hr.mono (by first | decide | omega)) pass0)) (blkOk_by (own := [("_law_key_here", 2), ("_law_item", 1)]) (N := N__law_parts) (sc := defScope s__law_parts) (by decide +kernel)) (fun _ _ _ _ _ => (pg_tup rfl (pgs_cons (pg_name (i := 2) sc__law_parts.nd rfl (Or.inl rfl)) (pgs_cons (pg_name (i := 1) sc__law_parts.nd rfl (Or.inl rfl)) pgs_nil)))) (fun _ _ _ _ _ => pts_nil) (fun _ _ _ _ _ => (pe_callG G__law_parts T.g__law_parts (hr.mono (by first | decide | omega)) pass0 (pa_cons (pv 1) pa_nil)))) pa_nil))))) pss_nil)
      (pss_one (ps_ret pe_int)))), ?_⟩
    refine ⟨_, rfl, (by show 2 ≤ sizeLine; decide), fun tt htt => ?_⟩
    have nu0 := Same.nu (o := .tup [V.ty "list", V.ty "tuple"]) htt
    obtain ⟨t3, y3, k3⟩ := isiLT T nu0 hv
    obtain ⟨t1, y1, k1⟩ := isiC T nu0 hv
    refine ⟨_, tt, _, t3, _, _, rfl, upd_same, .cons (.ty _) (.cons (.ty _) .nil), y3, k3, _, rfl, ?_⟩
    have hlf : (∀ t l, d ≠ .seq t l) → (∀ es, d ≠ .tab es) → Q (.int 1) (upd H tt (.tup [V.ty "list", V.ty "tuple"])) := fun n1 n2 => by
      have := q _ nu0
      rw [parts_leaf n1 n2] at this
      exact this
    cases d with
    | seq t l =>
      obtain ⟨i, a, xs, rfl, rfl, ha, hx⟩ := at_list hv
      obtain ⟨h4, hok⟩ := ok_list ok
      obtain ⟨k, rfl⟩ : ∃ m, k = m + 1 := ⟨k - 1, by omega⟩
      have hl := Paired.length hx
      have hS : SqB K t (upd H tt (.tup [V.ty "list", V.ty "tuple"])) a xs := sqB_of (nu0 _ _ ha)
      have tru : (isT "list" (.seq t l) || isT "tuple" (.seq t l)) = true := by cases t <;> rfl
      rw [tru]
      have es : ((l.map fun e => ((Rz.parts i e : Nat) : Int)).sum : Int) = (((l.map (Rz.parts i)).sum : Nat) : Int) := by
        rw [← sum_cast, List.map_map]
        rfl
      have ep : (1 : Int) + (l.map fun e => ((Rz.parts i e : Nat) : Int)).sum = ((Rz.parts (i + 1) (.seq t l) : Nat) : Int) := by
        rw [es]
        show (1 : Int) + _ = ((1 + (l.map (Rz.parts i)).sum : Nat) : Int)
        omega
      refine iteT ⟨_, rfl, t, a, xs, rfl, hS, fun D hD => lc_seqB (xs := xs) (fun m H' => Same (upd H tt (.tup [V.ty "list", V.ty "tuple"])) H' ∧ H' D = some (.lst (((l.take m).map fun e => ((Rz.parts i e : Nat) : Int)).map V.int)))
        ⟨Same.nu hD, upd_same⟩ (fun m H' _ h => sqB_same h.1 hS) ?_ ?_⟩
      · rintro m y H' hy ⟨s1, hd⟩
        obtain ⟨e, he, hye⟩ := Paired.at hx hy
        have hm := lt_of_at he
        refine ⟨rfl, _, rfl, i, y, e, by omega, rfl, VAt.same (nu0.trans s1) hye, hok e (List.mem_of_getElem? he), fun H2 s2 => ⟨_, s2 _ _ hd, ?_, Same.mk'' (s1.trans s2) hD, ?_⟩⟩
        · rw [List.length_map, List.length_map, List.length_take]
          exact small1000 (by omega)
        · rw [upd_same, take_snoc he, List.map_append, List.map_append]
          rfl
      · rintro H' ⟨s1, hd⟩
        rw [List.take_of_length_le (by omega)] at hd
        refine ⟨D, _, rfl, SqL.of hd, _, _, rfl, rfl, ?_⟩
        have := q H' (nu0.trans s1)
        rw [← ep] at this
        exact this
    | tab es =>
      obtain ⟨i, p, dx, dd, od, kvs, rfl, rfl, hp, hd, hpr⟩ := at_tab hv
      obtain ⟨h4, hnd, hok⟩ := ok_tab ok
      obtain ⟨k, rfl⟩ : ∃ m, k = m + 1 := ⟨k - 1, by omega⟩
      have esum : ((es.map fun e => ((Rz.parts i e.2 : Nat) : Int)).sum : Int) = (((es.map fun e => Rz.parts i e.2).sum : Nat) : Int) := by
        rw [← sum_cast, List.map_map]
        rfl
      have ep : (1 : Int) + (es.map fun e => ((Rz.parts i e.2 : Nat) : Int)).sum = ((Rz.parts (i + 1) (.tab es) : Nat) : Int) := by
        rw [esum]
        show (1 : Int) + _ = ((1 + (es.map fun e => Rz.parts i e.2).sum : Nat) : Int)
        omega
      refine iteF ⟨_, rfl, .ref p, _, t1, _, _, rfl, .own _, y1, k1, _, rfl, iteT ?_⟩
      refine ⟨_, rfl, p, dx, _, rfl, nu0 _ _ hp, rfl, .ref p, es, [], rfl, Has.nil, (by rw [cut_nil]; exact VAt.same nu0 hv), ⟨h4, hnd, hok⟩, fun H1 l ts s1 hl0 hl hE => ⟨l, rfl, ⟨_, SqL.of hl⟩, fun D hD => lc_list (xs := ts)
        (fun m H' => Same H1 H' ∧ H' D = some (.lst (((es.take m).map fun e => ((Rz.parts i e.2 : Nat) : Int)).map V.int))) ⟨Same.nu hD, upd_same⟩ (fun m H' _ h => SqL.of (h.1 _ _ hl)) ?_ ?_⟩⟩
      · rintro m y H' hy ⟨s2, hd2⟩
        obtain ⟨e, he, b, x2, rfl, hb, hx2⟩ := Paired.at hE hy
        have hm := lt_of_at he
        refine ⟨b, _, rfl, SqT.of (s2 _ _ hb), rfl, _, _, rfl, _, _, rfl, rfl, rfl, _, rfl, i, x2, e.2, by omega, rfl, VAt.same s2 (VAt.same cut_le hx2), (hok e (List.mem_of_getElem? he)).2, fun H2 s3 => ⟨_, s3 _ _ hd2, ?_, Same.mk'' (s2.trans s3) hD, ?_⟩⟩
        · rw [List.length_map, List.length_map, List.length_take]
          exact small1000 (by omega)
        · rw [upd_same, take_snoc he, List.map_append, List.map_append]
          rfl
      · rintro H' ⟨s2, hd2⟩
        have hlE := Paired.length hE
        rw [List.take_of_length_le (by omega)] at hd2
        refine ⟨D, _, rfl, SqL.of hd2, _, _, rfl, rfl, ?_⟩
        have := q H' ((nu0.trans s1).trans s2)
        rw [← ep] at this
        exact this
    | _ => exact iteF ⟨_, rfl, _, _, t1, _, _, rfl, .own _, y1, k1, _, rfl, iteF (hlf (fun _ _ z => nomatch z) (fun _ z => nomatch z))⟩
theorem ok__law_parts (T : Tx w K mg) : ∀ k, Gd P w K base mg CX0 ((k + 2) + 1) (He.fAd K d__law_parts.at_) ["_law_value_here"] [] ((spParts K) k) := fun k => recGd (fun k => (k + 2)) (fun l => mkGdF (T.f__law_parts) sc__law_parts (fun _ _ _ _ _ _ us hl => match us, hl with | [_], _ => rfl) l) (fun k G => st__law_parts T k G) (by intro _; first | rfl | omega) k
/-- what a writer's text is held in -/
def textL : Option Str → List V
  | none => []
  | some z => [.str z]
def textD : Option Str → List PyData
  | none => []
  | some z => [.str z]
theorem text_dp {K : PySem.W.Frag} {H : Hp} (x : Option Str) : DpAll K H (textL x) (textD x) := by
  cases x with
  | none => exact .nil
  | some z => exact .cons (.str z) .nil
theorem text_eqv (x y : Option Str) : PyData.eqv (.list (textD x)) (.list (textD y)) = decide (x = y) := by
  cases x with
  | none => cases y <;> rfl
  | some a => cases y with
    | none => rfl
    | some b =>
      show ((a == b) && true) = _
      rw [Bool.and_true]
      by_cases h : a = b
      · subst h; simp
      · rw [decide_eq_false (by simpa using h)]; simpa using h
theorem text_shaped {x : Option Str} (h : ∀ z, x = some z → PyData.strOk z = true) : SeqAt.shaped (.list (textD x)) = true := by
  cases x with
  | none => rfl
  | some z => simp [SeqAt.shaped, textD, PyData.canLay0, PyData.canLayAll0, PyData.depth, PyData.depthAll, h z rfl]
def spText (K : PySem.W.Frag) : Sp := fun vs H Q _ => ∃ (k : Nat) (p : Addr) (x : V) (o : Opt) (d : Val), k ≤ 4 ∧ vs = [.ref p, x] ∧ WAt K H p o ∧ VAt (CT K) H k x d ∧ Ok k d ∧ LamX.Tabs (TT K) H ∧ ∀ H' l, Xt K H H' → H' l = some (.lst (textL (txt o k d))) → Q (.ref l) H'
theorem ok__law_text (T : Tx w K mg) (hTB : LamX.TabB base mg (He.codeOf K keD) (keT K)) : Gd P w K base mg CX0 18 (He.fAd K d__law_text.at_) ["_law_writer_here", "_law_value_here"] [] (spText K) := by
  refine mkGd (T.f__law_text) sc__law_text (fun vs H Q E h => ?_) (fun _ _ _ _ _ _ us hl => match us, hl with | [_, _], _ => rfl) (fun cdv A outer s H vs Q E hr h => ?_)
  · obtain ⟨k, p, x, o, d, _, rfl, _⟩ := h
    rfl
  · have hu := hu_of hr
    obtain ⟨k, p, x, o, d, hk, rfl, hW, hv, ok, hT, q⟩ := h
    have G_Writer_write := ok_Writer_write (P := P) (w := w) (base := base) T hTB k (by omega)
    have hW' := hW
    obtain ⟨dw, hW⟩ := hW
    refine ⟨_, (pss_cons (ps_try_only rfl rfl ⟨rfl, by decide, .inl T.g_Unwritable⟩ takes0 (fun W pn xe tk _ => (pss_one (ps_set (i := 2) sc__law_text.nd rfl (Or.inl rfl) (pe_lst (pa_cons (pe_methXS (pv 0) T.cl_Writer T.m_Writer_write G_Writer_write (hr.mono (by first | decide | omega)) (fun σ => passAt tk σ) (pa_cons (pv 1) pa_nil)) pa_nil))))) (fun a oe cls d pn _ _ => (pss_one (ps_set (i := 2) sc__law_text.nd rfl (Or.inl rfl) (pe_lst pa_nil)))))
      (pss_one (ps_ret (pv 2)))), ?_⟩
    refine ⟨_, rfl, p, dw, _, rfl, hW, rfl, _, rfl, p, x, o, d, rfl, hW', hv, ok, hT, fun hn d1 H' X => ⟨true, T.exm, fun _ a ha => ?_, fun z => nomatch z⟩, fun z ez H' X => ?_⟩
    · refine ⟨Nat.zero_le _, fun l hl => ⟨_, rfl, q _ l (X.of (Same.nu hl)) ?_⟩⟩
      rw [hn]
      exact upd_same
    · refine ⟨(by show 1 ≤ sizeLine; decide), fun l hl => ⟨_, rfl, q _ l (X.of (Same.nu hl)) ?_⟩⟩
      rw [ez]
      exact upd_same
theorem str_in {L M : List Str} (h : ∀ z ∈ L, z ∈ M) {x : V} (hx : x ∈ L.map V.str) : ∃ z, x = .str z ∧ z ∈ M := by
  obtain ⟨z, hz, rfl⟩ := List.mem_map.mp hx
  exact ⟨z, rfl, h z hz⟩
def OL (H : Hp) (l : Addr) (o : Opt) : Prop := H l = some (.lst ((optL o).map V.str))
def spOptions : Sp := fun vs H Q _ => ∃ (p : Addr) (n : Nat), vs = [.ref p] ∧ Dr H p n ∧ n < 400000 ∧ ∀ l o H', OL H' l o → o.ok → H l = none → l ≠ p → Dr H' p (n + 6) → Sx [p] H H' → Q (.ref l) H'
theorem ok__law_options (T : Tx w K mg) : Gd P w K base mg CX0 3 (He.fAd K d__law_options.at_) ["_law_source_here"] [] spOptions := by
  have G__law_pick := ok__law_pick (P := P) (w := w) (base := base) T
  refine mkGd (T.f__law_options) sc__law_options (fun vs H Q E h => ?_) (fun _ _ _ _ _ _ us hl => match us, hl with | [_], _ => rfl) (fun cdv A outer s H vs Q E hr h => ?_)
  · obtain ⟨p, n, rfl, _⟩ := h
    rfl
  · have hu := hu_of hr
    obtain ⟨p, n, rfl, D, hn, q⟩ := h
    refine ⟨_, (pss_cons (ps_set (i := 1) sc__law_options.nd rfl (Or.inl rfl) (pe_lst (pa_cons (pe_callG G__law_pick T.g__law_pick (hr.mono (by first | decide | omega)) pass0 (pa_cons (pv 0) (pa_cons (pe_lst (pa_cons pe_str (pa_cons pe_str (pa_cons pe_str (pa_cons pe_str pa_nil))))) pa_nil))) (pa_cons (pe_callG G__law_pick T.g__law_pick (hr.mono (by first | decide | omega)) pass0 (pa_cons (pv 0) (pa_cons (pe_lst (pa_cons pe_str (pa_cons pe_str (pa_cons pe_str pa_nil)))) pa_nil))) pa_nil))))
      (pss_cons (ps_set (i := 1) sc__law_options.nd rfl (Or.inl rfl) (pe_op op_cat (pv 1) (pe_lst (pa_cons (pe_callG G__law_pick T.g__law_pick (hr.mono (by first | decide | omega)) pass0 (pa_cons (pv 0) (pa_cons (pe_lst (pa_cons pe_str (pa_cons pe_str (pa_cons pe_str pa_nil)))) pa_nil))) (pa_cons (pe_callG G__law_pick T.g__law_pick (hr.mono (by first | decide | omega)) pass0 (pa_cons (pv 0) (pa_cons (pe_lst (pa_cons pe_str (pa_cons pe_str (pa_cons pe_str pa_nil)))) pa_nil))) pa_nil)))))
      (pss_one (ps_ret (pe_op op_cat (pv 1) (pe_lst (pa_cons (pe_callG G__law_pick T.g__law_pick (hr.mono (by first | decide | omega)) pass0 (pa_cons (pv 0) (pa_cons (pe_lst (pa_cons pe_str (pa_cons pe_str pa_nil))) pa_nil))) (pa_cons (pe_callG G__law_pick T.g__law_pick (hr.mono (by first | decide | omega)) pass0 (pa_cons (pv 0) (pa_cons (pe_lst (pa_cons pe_str (pa_cons pe_str (pa_cons pe_str (pa_cons pe_str pa_nil))))) pa_nil))) pa_nil)))))))), ?_⟩
    have pick : ∀ {Ha Hb : Hp} {l : Addr} {o : HO} {n : Nat}, Ha l = none → Dr Ha p n → True := fun _ _ => trivial
    refine ⟨_, rfl, (by show 4 ≤ sizeLine; decide), fun l1 h1 => ⟨p, l1, n, _, rfl, D.same (Same.nu h1), by omega, upd_same, D.ne h1, (by show 0 < 4; decide), (by show 4 ≤ 1000; decide), fun x1 hx1 H1 D1 s1 => ?_⟩⟩
    obtain ⟨z1, rfl, m1⟩ := str_in (L := ["text", "text", "skip", "refuse"]) (M := ["text", "skip", "refuse"]) (by decide +kernel) hx1
    refine ⟨_, rfl, (by show 3 ≤ sizeLine; decide), fun l2 h2 => ⟨p, l2, n + 1, _, rfl, D1.same (Same.nu h2), by omega, upd_same, D1.ne h2, (by show 0 < 3; decide), (by show 3 ≤ 1000; decide), fun x2 hx2 H2 D2 s2 => ?_⟩⟩
    obtain ⟨z2, rfl, m2⟩ := str_in (L := ["list", "list", "refuse"]) (M := ["list", "refuse"]) (by decide +kernel) hx2
    refine ⟨(by show 2 ≤ sizeLine; decide), fun a1 ha1 => ?_⟩
    have na1 : a1 ≠ p := D2.ne ha1
    have ga : (upd H2 a1 (.lst [.str z1, .str z2])) a1 = some (.lst [.str z1, .str z2]) := upd_same
    have D3 := D2.same (Same.nu (o := .lst [.str z1, .str z2]) ha1)
    have S3 : Sx [p] H (upd H2 a1 (.lst [.str z1, .str z2])) := ((((Sx.of (Same.nu h1)).trans s1).trans (Sx.of (Same.nu h2))).trans s2).mk ha1
    generalize upd H2 a1 (.lst [.str z1, .str z2]) = H3 at ga D3 S3 ⊢
    refine ⟨_, rfl, _, rfl, (by show 3 ≤ sizeLine; decide), fun l3 h3 => ⟨p, l3, n + 2, _, rfl, D3.same (Same.nu h3), by omega, upd_same, D3.ne h3, (by show 0 < 3; decide), (by show 3 ≤ 1000; decide), fun x3 hx3 H4 D4 s4 => ?_⟩⟩
    obtain ⟨z3, rfl, m3⟩ := str_in (L := ["keep", "keep", "skip"]) (M := ["keep", "skip"]) (by decide +kernel) hx3
    refine ⟨_, rfl, (by show 3 ≤ sizeLine; decide), fun l4 h4 => ⟨p, l4, n + 3, _, rfl, D4.same (Same.nu h4), by omega, upd_same, D4.ne h4, (by show 0 < 3; decide), (by show 3 ≤ 1000; decide), fun x4 hx4 H5 D5 s5 => ?_⟩⟩
    obtain ⟨z4, rfl, m4⟩ := str_in (L := ["keep", "keep", "refuse"]) (M := ["keep", "refuse"]) (by decide +kernel) hx4
    have ga5 : H5 a1 = some (.lst [.str z1, .str z2]) := s5.one na1 (Same.nu h4 _ _ (s4.one na1 (Same.nu h3 _ _ ga)))
    refine ⟨(by show 2 ≤ sizeLine; decide), fun a2 ha2 => ⟨a1, a2, _, _, rfl, rfl, Same.nu ha2 _ _ ga5, upd_same, (by show 2 + 2 ≤ sizeLine; decide), fun a3 ha3 => ?_⟩⟩
    have na3 : a3 ≠ p := (D5.same (Same.nu ha2)).ne ha3
    have gb : (upd (upd H5 a2 (.lst [.str z3, .str z4])) a3 (.lst ([.str z1, .str z2] ++ [.str z3, .str z4]))) a3 = some (.lst [.str z1, .str z2, .str z3, .str z4]) := upd_same
    have D6 := (D5.same (Same.nu (o := .lst [.str z3, .str z4]) ha2)).same (Same.nu (o := .lst ([.str z1, .str z2] ++ [.str z3, .str z4])) ha3)
    have S6 : Sx [p] H (upd (upd H5 a2 (.lst [.str z3, .str z4])) a3 (.lst ([.str z1, .str z2] ++ [.str z3, .str z4]))) := (((((S3.trans (Sx.of (Same.nu h3))).trans s4).trans (Sx.of (Same.nu h4))).trans s5).mk ha2).mk ha3
    generalize upd (upd H5 a2 (.lst [.str z3, .str z4])) a3 (.lst ([.str z1, .str z2] ++ [.str z3, .str z4])) = H6 at gb D6 S6 ⊢
    refine ⟨_, rfl, _, rfl, (by show 2 ≤ sizeLine; decide), fun l5 h5 => ⟨p, l5, n + 4, _, rfl, D6.same (Same.nu h5), by omega, upd_same, D6.ne h5, (by show 0 < 2; decide), (by show 2 ≤ 1000; decide), fun x5 hx5 H7 D7 s7 => ?_⟩⟩
    obtain ⟨z5, rfl, m5⟩ := str_in (L := ["keep", "rising"]) (M := ["keep", "rising"]) (by decide +kernel) hx5
    refine ⟨_, rfl, (by show 4 ≤ sizeLine; decide), fun l6 h6 => ⟨p, l6, n + 5, _, rfl, D7.same (Same.nu h6), by omega, upd_same, D7.ne h6, (by show 0 < 4; decide), (by show 4 ≤ 1000; decide), fun x6 hx6 H8 D8 s8 => ?_⟩⟩
    obtain ⟨z6, rfl, m6⟩ := str_in (L := ["keep", "keep", "text", "refuse"]) (M := ["keep", "text", "refuse"]) (by decide +kernel) hx6
    have gb8 : H8 a3 = some (.lst [.str z1, .str z2, .str z3, .str z4]) := s8.one na3 (Same.nu h6 _ _ (s7.one na3 (Same.nu h5 _ _ gb)))
    refine ⟨(by show 2 ≤ sizeLine; decide), fun a4 ha4 => ⟨a3, a4, _, _, rfl, rfl, Same.nu ha4 _ _ gb8, upd_same, (by show 4 + 2 ≤ sizeLine; decide), fun a5 ha5 => ?_⟩⟩
    have S8 := (((((S6.trans (Sx.of (Same.nu h5))).trans s7).trans (Sx.of (Same.nu h6))).trans s8).mk (o := .lst [.str z5, .str z6]) ha4)
    have D9 := D8.same (Same.nu (o := .lst [.str z5, .str z6]) ha4)
    have n5 := D9.ne ha5
    refine q a5 ⟨z1, z2, z3, z4, z5, z6⟩ _ upd_same ⟨m1, m2, m3, m4, m5, m6⟩ ?_ n5 (D9.same (Same.nu ha5)) (S8.mk ha5)
    cases e : H a5 with
    | none => rfl
    | some o => rw [S8.one n5 e] at ha5; cases ha5
def spWriter (K : PySem.W.Frag) : Sp := fun vs H Q _ => ∃ (l : Addr) (o : Opt), vs = [.ref l] ∧ OL H l o ∧ o.ok ∧ ∀ x H', WAt K H' x o → Same H H' → Q (.ref x) H'
theorem ok__law_writer (T : Tx w K mg) : Gd P w K base mg CX0 4 (He.fAd K d__law_writer.at_) ["_law_found"] [] (spWriter K) := by
  refine mkGd (T.f__law_writer) sc__law_writer (fun vs H Q E h => ?_) (fun _ _ _ _ _ _ us hl => match us, hl with | [_], _ => rfl) (fun cdv A outer s H vs Q E hr h => ?_)
  · obtain ⟨l, o, rfl, _⟩ := h
    rfl
  · have hu := hu_of hr
    obtain ⟨fdW, mvW, F_Writer, hb_Writer⟩ := ok_Writer_init (P := P) (w := w) (base := base) T
    obtain ⟨l, o, rfl, hl, ho, q⟩ := h
    refine ⟨_, (pss_one (ps_ret (pe_makeK0 T.mk_Writer F_Writer (hr.mono (by first | decide | omega)) rfl T.g_Writer hb_Writer pass0 (pk_cons (pe_ix (r := rIxL K) ix_list (pv 0) pe_int (fun _ _ => rfl)) (pk_cons (pe_ix (r := rIxL K) ix_list (pv 0) pe_int (fun _ _ => rfl)) (pk_cons (pe_ix (r := rIxL K) ix_list (pv 0) pe_int (fun _ _ => rfl)) (pk_cons (pe_ix (r := rIxL K) ix_list (pv 0) pe_int (fun _ _ => rfl)) (pk_cons (pe_ix (r := rIxL K) ix_list (pv 0) pe_int (fun _ _ => rfl)) (pk_cons (pe_ix (r := rIxL K) ix_list (pv 0) pe_int (fun _ _ => rfl)) pk_nil))))))))), ?_⟩
    have hl : H l = some (.lst [.str o.nk, .str o.tp, .str o.nl, .str o.dk, .str o.od, .str o.ln]) := hl
    refine ⟨_, rfl, l, _, 0, _, rfl, rfl, SqL.of hl, at_of (j := 0) rfl rfl, _, rfl, l, _, 1, _, rfl, rfl, SqL.of hl, at_of (j := 1) rfl rfl, _, rfl, l, _, 2, _, rfl, rfl, SqL.of hl, at_of (j := 2) rfl rfl,
      _, rfl, l, _, 3, _, rfl, rfl, SqL.of hl, at_of (j := 3) rfl rfl, _, rfl, l, _, 4, _, rfl, rfl, SqL.of hl, at_of (j := 4) rfl rfl, _, rfl, l, _, 5, _, rfl, rfl, SqL.of hl, at_of (j := 5) rfl rfl, rfl, rfl, fun x dx hx hd hn => ?_⟩
    have s0 : Same H (upd (upd H dx (.own x)) x (.ins (CW K) dx [])) := Same.mk'' (Same.nu hd) hx
    exact ⟨x, dx, o, rfl, upd_same, (by rw [upd_ne hn]; exact upd_same), ho, fun H' s hx' => ⟨rfl, q x H' ⟨dx, hx'⟩ fun b u e => s b u (by simp; exact ne_of_none e hx) (s0 _ _ e)⟩⟩
end
end Kt
set_option Elab.async false
set_option linter.all false
set_option maxRecDepth 100000
set_option maxHeartbeats 4000000
namespace Kt
open PySem PySem.Spec PyProof.Rows L2 Rz _root_.TL
section
variable {P : Program} {w : World} {K : PySem.W.Frag} {mg : Str → Option Value} {base : Heap}
def rEqP (K : PySem.W.Frag) : R2 := fun x y H Q => ∃ d e, Dp K H x d ∧ Dp K H y e ∧ d.plain = true ∧ e.plain = true ∧ d.depth ≤ 60 ∧ Q (.bl (PyData.eqv d e)) H
def rNeP (K : PySem.W.Frag) : R2 := fun x y H Q => ∃ d e, Dp K H x d ∧ Dp K H y e ∧ d.plain = true ∧ e.plain = true ∧ d.depth ≤ 60 ∧ Q (.bl (!PyData.eqv d e)) H
theorem op_eqP {X : Cx} (hu : X.A.units + 64 < cLine) : OpR X (compareOp .Eq) (rEqP X.K) := by
  intro pins s σ H x y v u Q I rx ry h
  obtain ⟨d, e, hd, he, sd, se, hz, q⟩ := h
  obtain ⟨as, r1⟩ := Dp.reads I d x v hd rx
  obtain ⟨bs, r2⟩ := Dp.reads I e y u he ry
  exact SeqAt.eq_plain r1 r2 sd se (by omega) ⟨.bl _, H, I, rfl, q⟩
theorem op_neP {X : Cx} (hu : X.A.units + 64 < cLine) : OpR X (compareOp .NotEq) (rNeP X.K) := by
  intro pins s σ H x y v u Q I rx ry h
  obtain ⟨d, e, hd, he, sd, se, hz, q⟩ := h
  obtain ⟨as, r1⟩ := Dp.reads I d x v hd rx
  obtain ⟨bs, r2⟩ := Dp.reads I e y u he ry
  exact SeqAt.ne_plain r1 r2 sd se (by omega) ⟨.bl _, H, I, rfl, q⟩
theorem text_plain (x : Option Str) : (PyData.list (textD x)).plain = true ∧ (PyData.list (textD x)).depth ≤ 60 := by
  cases x with
  | none => exact ⟨rfl, by simp [textD, PyData.depth, PyData.depthAll]⟩
  | some z => exact ⟨rfl, by simp [textD, PyData.depth, PyData.depthAll]⟩
theorem tabs_sx {T : List (Addr × Str)} {H H' : Hp} {ps : List Addr} (t : LamX.Tabs T H) (s : Sx ps H H') (h : ∀ b ∈ ps, ∃ xs, H b = some (.lst xs)) : LamX.Tabs T H' := fun r hr => by
  obtain ⟨q1, q2, q3, q4⟩ := t r hr
  refine ⟨q1, s _ _ (fun z => ?_) q2, q3, fun a b c => ?_⟩
  · obtain ⟨xs, e⟩ := h _ z
    rw [q2] at e
    cases e
  · obtain ⟨c1, c2, c3⟩ := q4 a b c
    refine ⟨c1, c2, s _ _ (fun z => ?_) c3⟩
    obtain ⟨xs, e⟩ := h _ z
    rw [c3] at e
    have e := Option.some.inj e
    unfold LamX.CodeO at e
    cases e
theorem Dr.isL {H : Hp} {p : Addr} {n : Nat} (h : Dr H p n) : ∃ xs, H p = Option.some (HO.lst xs) := by
  obtain ⟨g, k, c, h1, _⟩ := h
  exact ⟨_, h1⟩
theorem sqL_x {K : PySem.W.Frag} {H H' : Hp} {a : Addr} {xs : List V} (s : LamX.ExtN H H') (h : SqL K H a xs) : SqL K H' a xs :=
  h.imp_left fun r => r.elim (fun z => .inl (s _ _ z fun _ y => nomatch y)) fun ⟨o, z⟩ => .inr ⟨o, s _ _ z fun _ y => nomatch y⟩
theorem KL.x {H H' : Hp} {l : Addr} (h : KL H l) (s : LamX.ExtN H H') : KL H' l := by
  obtain ⟨ks, h1, h2⟩ := h
  exact ⟨ks, s _ _ h1 (fun _ z => nomatch z), h2⟩
theorem AL.x {H H' : Hp} {l : Addr} (h : AL H l) (s : LamX.ExtN H H') : AL H' l := by
  obtain ⟨ks, h1, h2⟩ := h
  exact ⟨ks, s _ _ h1 (fun _ z => nomatch z), h2⟩
theorem opt_set {o ox : Opt} (ho : o.ok) (hx : ox.ok) (j : Nat) (hj : j < 6) : ∃ z o2, ((optL ox).map V.str)[j]? = some (V.str z) ∧ Opt.ok o2 ∧ ((optL o).map V.str).set j (.str z) = (optL o2).map V.str := by
  obtain ⟨a1, a2, a3, a4, a5, a6⟩ := o
  obtain ⟨b1, b2, b3, b4, b5, b6⟩ := ox
  obtain ⟨h1, h2, h3, h4, h5, h6⟩ := ho
  obtain ⟨g1, g2, g3, g4, g5, g6⟩ := hx
  have hc : j = 0 ∨ j = 1 ∨ j = 2 ∨ j = 3 ∨ j = 4 ∨ j = 5 := by omega
  rcases hc with rfl | rfl | rfl | rfl | rfl | rfl
  · exact ⟨_, ⟨b1, a2, a3, a4, a5, a6⟩, rfl, ⟨g1, h2, h3, h4, h5, h6⟩, rfl⟩
  · exact ⟨_, ⟨a1, b2, a3, a4, a5, a6⟩, rfl, ⟨h1, g2, h3, h4, h5, h6⟩, rfl⟩
  · exact ⟨_, ⟨a1, a2, b3, a4, a5, a6⟩, rfl, ⟨h1, h2, g3, h4, h5, h6⟩, rfl⟩
  · exact ⟨_, ⟨a1, a2, a3, b4, a5, a6⟩, rfl, ⟨h1, h2, h3, g4, h5, h6⟩, rfl⟩
  · exact ⟨_, ⟨a1, a2, a3, a4, b5, a6⟩, rfl, ⟨h1, h2, h3, h4, g5, h6⟩, rfl⟩
  · exact ⟨_, ⟨a1, a2, a3, a4, a5, b6⟩, rfl, ⟨h1, h2, h3, h4, h5, g6⟩, rfl⟩
theorem probe_isN : ∀ d ∈ probesV, isN d = false := by
  intro d hd
  simp only [probesV, List.mem_cons, List.not_mem_nil, or_false] at hd
  rcases hd with rfl | rfl | rfl | rfl | rfl | rfl | rfl | rfl | rfl | rfl | rfl <;> rfl
def spLaw (K : PySem.W.Frag) : Sp := fun vs H Q _ => ∃ (a : Addr) (ns : List Int), vs = [.ref a] ∧ SqL K H a (ns.map V.int) ∧ ns.length ≤ 63 ∧ LamX.Tabs (TT K) H ∧ ∀ H', Q (.bl true) H'
theorem ok_law (T : Tx w K mg) (hTB : LamX.TabB base mg (He.codeOf K keD) (keT K)) {fd : FuncData} (F : FunD K d_law.name d_law.qual (defArgs s_law) (defBody s_law) (defScope s_law) (d_law.dvs K) (d_law.kws K) (He.fAd K d_law.at_) fd) :
    FnOk P w K mg base CX0 19 (He.fAd K d_law.at_) fd ["_law_script"] (spLaw K) := by
  have G__law_source := ok__law_source (P := P) (w := w) (base := base) T
  have G__law_focus := ok__law_focus (P := P) (w := w) (base := base) T
  have G__law_atoms := ok__law_atoms (P := P) (w := w) (base := base) T
  have G__law_options := ok__law_options (P := P) (w := w) (base := base) T
  have G__law_draw := ok__law_draw (P := P) (w := w) (base := base) T
  have G__law_writer := ok__law_writer (P := P) (w := w) (base := base) T
  have G_parting_texts := ok_parting_texts (P := P) (w := w) (base := base) T hTB
  have G__law_text := ok__law_text (P := P) (w := w) (base := base) T hTB
  have G__law_value := ok__law_value (P := P) (w := w) (base := base) T 4
  have G__law_twins := ok__law_twins (P := P) (w := w) (base := base) T
  have G__law_parts := ok__law_parts (P := P) (w := w) (base := base) T 4
  refine F.ok sc_law (fun vs H Q E h => ?_) (fun cdv A outer s H vs Q E hr h => Exists.elim (?_ : ∃ t, PSs (cxOf CX0 P w K mg base N_law d_law.qual (defScope s_law) (He.fAd K d_law.at_) cdv A outer s H E).nox (defBody s_law) t ∧ t { nx := fun _ H2 => Q .non H2, rt := Q } (start N_law vs) H) fun t z => ⟨t, z.1.nox, z.2⟩)
  · obtain ⟨a, ns, rfl, _⟩ := h
    rfl
  · have hu := hu_of hr
    obtain ⟨a, ns, rfl, hS, hl, hT, q⟩ := h
    refine ⟨_, (pss_cons (ps_for PassesOwn.never rfl (pi_range1 rfl T.n_range (pa_cons (pe_callB (call_max2 rfl) (by rfl) T.n_max (by decide +kernel) (pa_cons pe_int (pa_cons (pe_callB (call_min2 rfl) (by rfl) T.n_min (by decide +kernel) (pa_cons pe_int (pa_cons (pe_callB call_len_seq (by rfl) T.n_len PySem.boot_len (pa_cons (pv 0) pa_nil)) pa_nil))) pa_nil))) pa_nil)) (pg_name (i := 1) sc_law.nd rfl (Or.inl rfl))
      (pss_cons (ps_set (i := 2) sc_law.nd rfl (Or.inl rfl) (pe_callG G__law_source T.g__law_source (hr.mono (by first | decide | omega)) pass0 (pa_cons (pv 0) (pa_cons (pv 1) pa_nil))))
      (pss_cons (ps_par (i := 3) (j := 4) (by rfl) sc_law.nd rfl rfl (by decide) rfl rfl (pa_cons (pe_callG G__law_focus T.g__law_focus (hr.mono (by first | decide | omega)) pass0 (pa_cons (pv 2) pa_nil)) (pa_cons (pe_callG G__law_atoms T.g__law_atoms (hr.mono (by first | decide | omega)) pass0 (pa_cons (pv 2) pa_nil)) pa_nil)) (by rfl))
      (pss_cons (ps_set (i := 5) sc_law.nd rfl (Or.inl rfl) (pe_callG G__law_options T.g__law_options (hr.mono (by first | decide | omega)) pass0 (pa_cons (pv 2) pa_nil)))
      (pss_cons (ps_set (i := 6) sc_law.nd rfl (Or.inl rfl) (pe_callTy call_list_of (by rfl) T.n_list (by decide +kernel) (pa_cons (pv 5) pa_nil)))
      (pss_cons (ps_for PassesOwn.never rfl (pi_range1 rfl T.n_range (pa_cons (pe_callG G__law_draw T.g__law_draw (hr.mono (by first | decide | omega)) pass0 (pa_cons (pv 2) (pa_cons pe_int pa_nil))) pa_nil)) (pg_name (i := 7) sc_law.nd rfl (Or.inl rfl))
      (pss_cons (ps_par (i := 8) (j := 9) (by rfl) sc_law.nd rfl rfl (by decide) rfl rfl (pa_cons (pe_callG G__law_draw T.g__law_draw (hr.mono (by first | decide | omega)) pass0 (pa_cons (pv 2) (pa_cons pe_int pa_nil))) (pa_cons (pe_callG G__law_options T.g__law_options (hr.mono (by first | decide | omega)) pass0 (pa_cons (pv 2) pa_nil)) pa_nil)) (by rfl))
      (pss_one (ps_asg (pe_ix (r := rIxL K) ix_list (pv 9) (pv 8) (fun _ _ => rfl)) (pg_sub (pv 6) (pv 8) set_list)))))
      (pss_cons (ps_par (i := 10) (j := 11) (by rfl) sc_law.nd rfl rfl (by decide) rfl rfl (pa_cons (pe_callG G__law_writer T.g__law_writer (hr.mono (by first | decide | omega)) pass0 (pa_cons (pv 5) pa_nil)) (pa_cons (pe_callG G__law_writer T.g__law_writer (hr.mono (by first | decide | omega)) pass0 (pa_cons (pv 6) pa_nil)) pa_nil)) (by rfl))
      (pss_cons (ps_set (i := 12) sc_law.nd rfl (Or.inl rfl) (pe_callG G_parting_texts T.g_parting_texts (hr.mono (by first | decide | omega)) pass0 (pa_cons (pv 10) (pa_cons (pv 11) pa_nil))))
      (C8.pss_cut (ps_if (pt_cmpR op_notN (pv 12) pe_non (nomark _)) (pss_one (ps_if (pt_cmpR (op_eqP hr.units) (pe_callG G__law_text T.g__law_text (hr.mono (by first | decide | omega)) pass0 (pa_cons (pv 10) (pa_cons (pv 12) pa_nil))) (pe_callG G__law_text T.g__law_text (hr.mono (by first | decide | omega)) pass0 (pa_cons (pv 11) (pa_cons (pv 12) pa_nil))) (nomark _)) (pss_one (ps_ret pe_bl)) pss_nil)) pss_nil)
      (pss_one (ps_for PassesOwn.never rfl (pi_range2 rfl T.n_range (pa_cons pe_int (pa_cons (pe_callB (call_max2 rfl) (by rfl) T.n_max (by decide +kernel) (pa_cons pe_int (pa_cons (pe_callB (call_min2 rfl) (by rfl) T.n_min (by decide +kernel) (pa_cons pe_int (pa_cons (pe_callB call_len_seq (by rfl) T.n_len PySem.boot_len (pa_cons (pv 0) pa_nil)) pa_nil))) pa_nil))) pa_nil))) (pg_name (i := 8) sc_law.nd rfl (Or.inl rfl))
      (pss_cons (ps_set (i := 2) sc_law.nd rfl (Or.inl rfl) (pe_callG G__law_source T.g__law_source (hr.mono (by first | decide | omega)) pass0 (pa_cons (pv 0) (pa_cons (pv 8) pa_nil))))
      (pss_cons (ps_set (i := 13) sc_law.nd rfl (Or.inl rfl) (pe_callG G__law_value T.g__law_value (hr.mono (by first | decide | omega)) pass0 (pa_cons (pv 2) (pa_cons pe_int (pa_cons (pe_callG G__law_twins T.g__law_twins (hr.mono (by first | decide | omega)) pass0 (pa_cons (pv 3) pa_nil)) (pa_cons (pv 4) (pa_cons (pe_lst (pa_cons (pe_op op_add pe_int (pe_op op_fdiv (pv 8) pe_int)) pa_nil)) pa_nil)))))))
      (pss_one (ps_if (pt_cmpR (op_neP hr.units) (pe_callG G__law_text T.g__law_text (hr.mono (by first | decide | omega)) pass0 (pa_cons (pv 10) (pa_cons (pv 13) pa_nil))) (pe_callG G__law_text T.g__law_text (hr.mono (by first | decide | omega)) pass0 (pa_cons (pv 11) (pa_cons (pv 13) pa_nil))) (nomark _)) (pss_cons (ps_if (pt_cmpR op_isN (pv 12) pe_non (nomark _)) (pss_one (ps_ret pe_bl)) pss_nil)
      (pss_one (ps_if (pt_cmpR op_lt (pe_callG G__law_parts T.g__law_parts (hr.mono (by first | decide | omega)) pass0 (pa_cons (pv 13) pa_nil)) (pe_callG G__law_parts T.g__law_parts (hr.mono (by first | decide | omega)) pass0 (pa_cons (pv 12) pa_nil)) (nomark _)) (pss_one (ps_ret pe_bl)) pss_nil))) pss_nil)))))))))))))))
      (pss_one (ps_ret pe_bl))), ?_⟩
    refine ⟨_, rfl, a, _, rfl, .inl hS, _, _, rfl, _, _, rfl, _, rfl, ?b1, ?b2, for_range (lo := 0) (n := (if (if (((ns.map V.int).length : Nat) : Int) < 8 then (((ns.map V.int).length : Nat) : Int) else 8) > 1 then (if (((ns.map V.int).length : Nat) : Int) < 8 then (((ns.map V.int).length : Nat) : Int) else 8) else 1).toNat)
      (fun i σ H' => (∃ v1 v2 v3 v4 v5 v6 v7 v8 v9 v10 v11 v12 v13, σ = [some (.ref a), v1, v2, v3, v4, v5, v6, v7, v8, v9, v10, v11, v12, v13]) ∧ Xt K H H') ⟨⟨_, _, _, _, _, _, _, _, _, _, _, _, _, rfl⟩, Xt.same hT (Same.refl _)⟩ ?turn (fun σ H' _ => q H')⟩
    case b1 => split <;> split <;> omega
    case b2 => split <;> split <;> omega
    case turn =>
      rintro i σ H1 hi ⟨⟨v1, v2, v3, v4, v5, v6, v7, v8, v9, v10, v11, v12, v13, rfl⟩, X1⟩
      have hi8 : i ≤ 8 := by
        have : (if (if (((ns.map V.int).length : Nat) : Int) < 8 then (((ns.map V.int).length : Nat) : Int) else 8) > 1 then (if (((ns.map V.int).length : Nat) : Int) < 8 then (((ns.map V.int).length : Nat) : Int) else 8) else 1).toNat ≤ 8 := by split <;> split <;> omega
        omega
      rw [Int.zero_add]
      refine ⟨_, rfl, _, rfl, a, ns, i, rfl, sqL_x X1.1 hS, by omega, fun p H2 hp s2 D2 => ?_⟩
      refine ⟨_, rfl, p, 0, rfl, D2, by decide, fun lk H3 hk nk D3 s3 => ⟨_, rfl, p, _, rfl, D3, by decide, fun la H4 hA na D4 s4 => ⟨_, _, rfl, ?_⟩⟩⟩
      refine ⟨_, rfl, p, _, rfl, D4, by decide, fun lo o H5 hO okO hnO nlo D5 s5 => ?_⟩
      refine ⟨_, rfl, lo, _, rfl, .inl (SqL.of hO), fun l2 h2 => ?_⟩
      have n2 : l2 ≠ p := D5.ne h2
      have nlo2 : lo ≠ l2 := ne_of_none hO h2
      have e2 := Same.nu (o := .lst ((optL o).map V.str)) h2
      refine ⟨_, rfl, p, _, 3, rfl, D5.same e2, by decide, by decide, by decide, fun t H6 t0 t1 D6 s6 => ⟨_, rfl, by omega, by omega, for_range (lo := 0) (n := t.toNat)
        (fun j σ H' => (∃ u7 u8 u9, σ = [some (.ref a), some (.int (i : Int)), some (.ref p), some (.ref lk), some (.ref la), some (.ref lo), some (.ref l2), u7, u8, u9, v10, v11, v12, v13]) ∧ Dr H' p (100 + j * 7) ∧ Sx [p, l2] H6 H' ∧ ∃ o2, OL H' l2 o2 ∧ o2.ok)
        ⟨⟨_, _, _, rfl⟩, D6.up (by decide), Sx.refl, o, s6.one n2 upd_same, okO⟩ ?draws ?rest⟩⟩
      case draws =>
        rintro j σ H7 hj ⟨⟨u7, u8, u9, rfl⟩, D7, s7, o2, hO2, ok2⟩
        refine ⟨_, rfl, p, _, 6, rfl, D7, by omega, by decide, by decide, fun e H8 e0 e1 D8 s8 => ⟨_, rfl, p, _, rfl, D8, by omega, fun lx ox H9 hOx okx hnx nx D9 s9 => ⟨_, _, rfl, ?_⟩⟩⟩
        obtain ⟨z, o3, hz1, hz2, hz3⟩ := opt_set ok2 okx e.toNat (by omega)
        have hO29 : H9 l2 = some (.lst ((optL o2).map V.str)) := s9.one n2 (s8.one n2 hO2)
        have hix : ixN ((optL o2).map V.str).length e = some e.toNat := by
          unfold ixN
          rw [if_pos e0, if_pos (by show e < 6; omega)]
        refine ⟨_, rfl, _, rfl, lx, _, e, _, rfl, rfl, SqL.of hOx, at_of (j := e.toNat) (by omega) hz1, _, rfl, _, rfl, l2, _, e, e.toNat, rfl, rfl, hO29, hix, ?_⟩
        rw [hz3]
        refine ⟨⟨_, _, _, rfl⟩, ?_, (s7.trans ((s8.trans s9).mono (by simp))).trans (Sx.up (by simp)), o3, upd_same, hz2⟩
        obtain ⟨gg, gk, gc, dp, dd⟩ := D9.up (m := 100 + (j + 1) * 7) (by omega)
        exact ⟨gg, gk, gc, by rw [upd_ne n2.symm]; exact dp, dd⟩
      case rest =>
        rintro σ H9 ⟨⟨u7, u8, u9, rfl⟩, D9, s9, o2, hO2, ok2⟩
        have hO6 : H6 lo = some (.lst ((optL o).map V.str)) := s6.one nlo (e2 _ _ hO)
        have hO9 : OL H9 lo o := s9 _ _ (by simp [nlo, nlo2]) hO6
        refine ⟨_, rfl, lo, o, rfl, hO9, okO, fun w1 H10 hW1 s10 => ⟨_, rfl, l2, o2, rfl, s10 _ _ hO2, ok2, fun w2 H11 hW2 s11 => ⟨_, _, rfl, ?_⟩⟩⟩
        have x19 : LamX.ExtN H1 H9 := fun b u e nt => by
          have nb : b ≠ p := ne_of_none e hp
          have b5 := s5.one nb (s4.one nb (s3.one nb (s2 _ _ e)))
          have nb2 : b ≠ l2 := ne_of_none b5 h2
          exact s9 _ _ (by simp [nb, nb2]) (s6.one nb (e2 _ _ b5))
        have T9 : LamX.Tabs (TT K) H9 := by
          have t5 := tabs_sx (tabs_sx (tabs_sx (X1.2.ext s2) s3 (by simpa using D2.isL)) s4 (by simpa using D3.isL)) s5 (by simpa using D4.isL)
          have t6 := tabs_sx (t5.ext e2) s6 (by simpa using (D5.same e2).isL)
          refine tabs_sx t6 s9 fun b hb => ?_
          simp only [List.mem_cons, List.not_mem_nil, or_false] at hb
          rcases hb with rfl | rfl
          · exact D6.isL
          · exact ⟨_, s6.one n2 upd_same⟩
        have X11 : Xt K H H11 := ⟨(X1.1.trans x19).trans (LamX.ExtN.of (s10.trans s11)), T9.ext (s10.trans s11)⟩
        have x211 : LamX.ExtN H9 H11 := LamX.ExtN.of (s10.trans s11)
        have hk11 : KL H11 lk := by
          have k5 : KL H5 lk := (hk.sx nk s4).sx nk s5
          obtain ⟨ks, a1, a2⟩ := k5
          have nl2 : lk ≠ l2 := ne_of_none a1 h2
          exact ⟨ks, (s10.trans s11) _ _ (s9 _ _ (by simp [nk, nl2]) (s6.one nk (e2 _ _ a1))), a2⟩
        have hA11 : AL H11 la := by
          have k5 : AL H5 la := hA.sx (by simp [na]) s5
          obtain ⟨ks, a1, a2⟩ := k5
          have nl2 : la ≠ l2 := ne_of_none a1 h2
          exact ⟨ks, (s10.trans s11) _ _ (s9 _ _ (by simp [na, nl2]) (s6.one na (e2 _ _ a1))), a2⟩
        have hW1' := WAt.x hW1 (LamX.ExtN.of s11)
        clear s2 s3 s4 s5 s6 s9 s10 s11 hO hO2 hO6 hO9 D2 D3 D4 D5 D6 D9 x19 T9 x211 hk hA hW1 e2
        refine ⟨_, rfl, _, rfl, w1, w2, o, o2, rfl, hW1', hW2, X11.2, fun H12 v X12 hn hs => ?_⟩
        have hvf : ∀ d, foundV o o2 = some d → VAt (CT K) H12 1 v d ∧ decide (v = .non) = false ∧ d ∈ probesV ∧ txt o 1 d ≠ txt o2 1 d ∧ ∀ k d', Rz.parts k d' < Rz.parts 1 d → txt o k d' = txt o2 k d' := fun d hd => by
          obtain ⟨f1, f2, f3⟩ := found_some okO ok2 hd
          have hv := hs d hd
          exact ⟨hv, by rw [at_non hv, probe_isN d f2], f2, f1, f3⟩
        have hvn : foundV o o2 = none → v = .non := hn
        have hk12 := hk11.x X12.1
        have hA12 := hA11.x X12.1
        have hW12 := WAt.x hW1' X12.1
        have hW22 := WAt.x hW2 X12.1
        have hS12 := sqL_x (X11.1.trans X12.1) hS
        refine ⟨fun σ' H' => σ' = [some (.ref a), some (.int (i : Int)), some (.ref p), some (.ref lk), some (.ref la), some (.ref lo), some (.ref l2), u7, u8, u9, some (.ref w1), some (.ref w2), some v, v13] ∧ Xt K H12 H', ?_, ?_⟩
        · refine ⟨_, rfl, rfl, _, rfl, ?_⟩
          cases hf : foundV o o2 with
          | none =>
            have e := hvn hf
            subst e
            exact iteF ⟨rfl, Xt.same X12.2 (Same.refl _)⟩
          | some d =>
            obtain ⟨hv, hnn, hm, hne, _⟩ := hvf d hf
            rw [hnn]
            have okd : Ok 1 d := Ok_probe d hm
            refine iteT ⟨_, rfl, _, rfl, 1, w1, v, o, d, by decide, rfl, hW12, hv, okd, X12.2, fun H13 g1 X13 hg1 => ⟨_, rfl, _, rfl, 1, w2, v, o2, d, by decide, rfl, WAt.x hW22 X13.1, VAt.x X13.1 hv, okd, X13.2, fun H14 g2 X14 hg2 =>
              ⟨.list (textD (txt o 1 d)), .list (textD (txt o2 1 d)), .lst (SqL.of (X14.1 _ _ hg1 fun _ z => nomatch z)) (text_dp _), .lst (SqL.of hg2) (text_dp _), (text_plain _).1, (text_plain _).1, (text_plain _).2, _, rfl, ?_⟩⟩⟩
            rw [text_eqv, decide_eq_false hne]
            exact iteF ⟨rfl, Xt.trans X13 X14⟩
        · rintro σ' H13 ⟨rfl, X13⟩
          obtain ⟨mm, hmm, mm0, mm1⟩ : ∃ mm : Int, (if (if (((ns.map V.int).length : Nat) : Int) < 63 then (((ns.map V.int).length : Nat) : Int) else 63) > 10 then (if (((ns.map V.int).length : Nat) : Int) < 63 then (((ns.map V.int).length : Nat) : Int) else 63) else 10) = mm ∧ 10 ≤ mm ∧ mm ≤ 63 := ⟨_, rfl, by split <;> split <;> omega, by split <;> split <;> omega⟩
          refine ⟨_, rfl, a, _, rfl, .inl (sqL_x X13.1 hS12), _, _, rfl, _, _, rfl, 8, mm, by rw [← hmm], ⟨by decide, by decide, by omega, by omega⟩, for_range (lo := 8) (n := (mm - 8).toNat)
            (fun j σ H' => (∃ u2 u8 u13, σ = [some (.ref a), some (.int (i : Int)), u2, some (.ref lk), some (.ref la), some (.ref lo), some (.ref l2), u7, u8, u9, some (.ref w1), some (.ref w2), some v, u13]) ∧ Xt K H12 H')
            ⟨⟨_, _, _, rfl⟩, X13⟩ ?vals (fun σ H' h => ?_)⟩
          case vals =>
            rintro j σ H14 hj ⟨⟨u2, u8, u13, rfl⟩, X14⟩
            refine ⟨_, rfl, _, rfl, a, ns, 8 + j, congrArg (fun z => [V.ref a, V.int z]) (show (8 + (j : Int)) = ((8 + j : Nat) : Int) by omega), sqL_x X14.1 hS12, by omega, fun p2 H15 hp2 s15 D15 => ?_⟩
            have hk15 := (hk12.x X14.1).same s15
            have hA15 := (hA12.x X14.1)
            refine ⟨_, rfl, _, rfl, lk, rfl, hk15, fun t2 H16 hT2 ht2 s16 => ⟨_, rfl, _, rfl, _, _, rfl, rfl, ⟨by decide, by decide⟩, _, _, rfl, rfl, (by show 1 ≤ sizeLine; decide), fun r2 hr2 => ?_⟩⟩
            have D16 := D15.same s16
            have nu := Same.nu (o := .lst [V.int (2 + (8 + (j : Int)) / 2)]) hr2
            have rp2 : r2 ≠ p2 := D16.ne hr2
            obtain ⟨ks2, t21, t22⟩ := hT2
            obtain ⟨xs2, a21, a22⟩ := hA15
            have nt2 : t2 ∉ [p2, r2] := by
              simp only [List.mem_cons, List.not_mem_nil, or_false, not_or]
              exact ⟨D15.ne ht2, ne_of_none t21 hr2⟩
            have na2 : la ∉ [p2, r2] := by
              simp only [List.mem_cons, List.not_mem_nil, or_false, not_or]
              exact ⟨ne_of_none a21 hp2, ne_of_none ((s15.trans s16) _ _ a21) hr2⟩
            have D17 := D16.same nu
            have g : Gv K (upd H16 r2 (.lst [V.int (2 + (8 + (j : Int)) / 2)])) p2 t2 la r2 0 [p2, r2] := ⟨D17, ⟨ks2, nu _ _ t21, t22⟩, ⟨xs2, nu _ _ ((s15.trans s16) _ _ a21), a22⟩, ⟨_, upd_same⟩, nt2, na2, rp2, fun b hb => by
              simp only [List.mem_cons, List.not_mem_nil, or_false] at hb
              rcases hb with rfl | rfl
              · exact D17.some
              · rw [upd_same]; simp, by simp, by simp⟩
            refine ⟨p2, t2, la, r2, 0, [p2, r2], rfl, g, by decide, fun x d H17 hv okd D18 R18 s18 => ?_⟩
            have hv17 : VAt (CT K) H17 4 x d := VAt.same cut_le hv
            have x17 : LamX.ExtN H14 H17 := fun b u e nt => by
              have e1 := nu _ _ (s16 _ _ (s15 _ _ e))
              refine s18 _ _ ?_ e1
              simp only [List.mem_cons, List.not_mem_nil, or_false, not_or]
              exact ⟨ne_of_none e hp2, ne_of_none (s16 _ _ (s15 _ _ e)) hr2⟩
            have T17 : LamX.Tabs (TT K) H17 := tabs_sx (((X14.2.ext s15).ext s16).ext nu) s18 fun b hb => by
              simp only [List.mem_cons, List.not_mem_nil, or_false] at hb
              rcases hb with rfl | rfl
              · exact D17.isL
              · exact ⟨_, upd_same⟩
            have X17 : Xt K H12 H17 := ⟨X14.1.trans x17, T17⟩
            refine ⟨_, rfl, _, rfl, 4, w1, x, o, d, by decide, rfl, WAt.x hW12 X17.1, hv17, okd, X17.2, fun H18 g1 X18 hg1 => ⟨_, rfl, _, rfl, 4, w2, x, o2, d, by decide, rfl, WAt.x hW22 (X17.1.trans X18.1), VAt.x X18.1 hv17, okd, X18.2, fun H19 g2 X19 hg2 =>
              ⟨.list (textD (txt o 4 d)), .list (textD (txt o2 4 d)), .lst (SqL.of (X19.1 _ _ hg1 fun _ z => nomatch z)) (text_dp _), .lst (SqL.of hg2) (text_dp _), (text_plain _).1, (text_plain _).1, (text_plain _).2, _, rfl, ?_⟩⟩⟩
            have X19' : Xt K H12 H19 := Xt.trans (Xt.trans X17 X18) X19
            rw [text_eqv]
            by_cases he : txt o 4 d = txt o2 4 d
            · rw [decide_eq_true he]
              exact iteF ⟨⟨_, _, _, rfl⟩, X19'⟩
            · rw [decide_eq_false he]
              refine iteT ⟨_, rfl, rfl, _, rfl, ?_⟩
              cases hf : foundV o o2 with
              | none => exact absurd (found_none okO ok2 hf okd) he
              | some df =>
                obtain ⟨hvd, hnn, hm, hne, hmin⟩ := hvf df hf
                rw [hnn]
                refine iteF ⟨_, rfl, 4, x, d, by decide, rfl, VAt.x (X18.1.trans X19.1) hv17, okd, fun H20 s20 => ⟨_, rfl, 1, v, df, by decide, rfl, VAt.same s20 (VAt.x X19'.1 hvd), Ok_probe df hm, fun H21 s21 => ⟨_, _, rfl, rfl, _, rfl, ite2 (fun hlt => ?_) (fun _ => ⟨⟨_, _, _, rfl⟩, X19'.of (s20.trans s21)⟩)⟩⟩⟩
                have hlt : ((Rz.parts 4 d : Nat) : Int) < ((Rz.parts 1 df : Nat) : Int) := of_decide_eq_true hlt
                exact absurd (hmin 4 d (by omega)) he
          obtain ⟨⟨u2, u8, u13, rfl⟩, X14⟩ := h
          exact ⟨⟨_, _, _, _, _, _, _, _, _, _, _, _, _, rfl⟩, Xt.trans (Xt.trans X11 X12) X14⟩
end
end Kt
set_option Elab.async false
set_option linter.all false
set_option maxRecDepth 100000
set_option maxHeartbeats 0
namespace Kt
open PySem PySem.Spec PyProof.Rows L2
theorem tabs0 {K : PySem.W.Frag} {H : Hp} (h : H (keT K) = some (.tbl #[])) : LamX.Tabs (TT K) H := fun p hp => by
  rw [List.mem_singleton.mp hp]
  exact ⟨#[], h, trivial, fun _ _ z => by cases z⟩
theorem lawAt {l : PySem.W.OpenLaw} {w : World} {K : PySem.W.Frag} {h : Heap} {mg : Str → Option Value} {f : Addr} (X : K.In h) (G : h.Ns mainGlobals mg) (hfa : mg ("law" : Str) = some (.ref f))
    (c : He.SaysX fa fn [] tf extra w h K) : LamX.LawAtS l w K CX0 19 63 "_law_script" mg f h := by
  have T : Tx w K mg := ⟨h, X, G, c⟩
  obtain ⟨fd, F⟩ := T.f_law
  have e := hfa.symm.trans T.g_law
  cases e
  have b := FunD.bindsA (ps := ["_law_script"]) F fun _ _ _ _ _ _ us hl => match us, hl with | [_], _ => rfl
  have m : keD ∈ tf := List.mem_singleton.mpr rfl
  refine ⟨fd, [(He.codeOf K keD, keT K)], spLaw K, fun p hp => ?_, fun p hp => ?_, fun p hp => ?_, fun s v => b s [v] rfl, fun H a ns hl _ hT hS => ⟨a, ns, rfl, hS, hl, tabs0 (hT (He.codeOf K keD, keT K) (List.mem_singleton.mpr rfl)), fun _ => rfl⟩, fun base _ _ hTB => ok_law T (hTB (He.codeOf K keD, keT K) (List.mem_singleton.mpr rfl)) F⟩
  · rw [List.mem_singleton.mp hp]
    exact c.empty _ m
  · rw [List.mem_singleton.mp hp]
    exact c.out _ m
  · rw [List.mem_singleton.mp hp]
    exact PySem.W.codeHd_of_K X (c.hd _ m)
end Kt
open PySem PySem.W PySem.Calls PyProof.Rows
theorem PySem.Challenge.cw_keysthroughtext_k84_whole_writers_alike_holds : PySem.Challenge.rw_keysthroughtext_k84_whole_writers_alike.Holds := by
  w_on; o_law
  refine HandSHeadRun.head_any (r := OpenLaw.row PySem.Challenge.rw_keysthroughtext_k84_whole_writers_alike) (q := view (OpenLaw.row PySem.Challenge.rw_keysthroughtext_k84_whole_writers_alike).prog [47]) (H := Kt.hk) (ob := Kt.ob) (M := 60000) (loose := Kt.looseN) (d := HandSHeadRun.topDef (OpenLaw.row PySem.Challenge.rw_keysthroughtext_k84_whole_writers_alike).prog 47) (kwd := []) Kt.ob_eq
    (by kernel_rfl) (fun s => by kernel_rfl) Kt.run (by kernel_rfl) (by kernel_rfl) (by kernel_rfl) (by rfl) (by first | assumption | decide +kernel) (by decide +kernel) ⟨rfl, rfl, rfl, rfl, rfl, by decide +kernel⟩ ?hw ?hc
  case hw => w_witness2
  case hc =>
    refine LamX.walk_ofTsE (l := PySem.Challenge.rw_keysthroughtext_k84_whole_writers_alike) (n := 63) (k := 19) (x := "_law_script") (CX := fun _ => L2.CX0) rfl (by decide) (by kernel_rfl) ⟨rfl, by decide, by decide⟩ ?F (fun _ _ _ _ _ z => z)
    intro w mg fa h Y G hmg0
    obtain ⟨K, KX, c⟩ := Y
    have hmg : mg ("law" : PySem.Str) = some (.ref fa) := by
      have e : (HandSHeadRun.topDef (OpenLaw.row PySem.Challenge.rw_keysthroughtext_k84_whole_writers_alike).prog 47).name = ("law" : PySem.Str) := by kernel_rfl
      rw [← e]
      exact hmg0
    exact ⟨K, KX, Kt.lawAt KX G hmg c⟩
#print axioms PySem.Challenge.cw_keysthroughtext_k84_whole_writers_alike_holds
