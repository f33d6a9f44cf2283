import PyProof.Rows.All
import Wide.All
import OpenK.AllK
import Wide.FinOn
import KE.KExcIs
import HandS.ForMost
import HandS.Exc
import HandS.TryOnly
import HandS.ExcInit
import HandS.ExcIs
import HandS.ExcField
import HandS.IsInst
import HandS.Style
import HandS.Codes
import HandS.Defaults
import HandS.WordsExc
import HandS.HeadHook4
import HandS.HeadEnd
import HandS.Head0
import HandS.Head1
import HandS.Head2
import HandS.ExcOwn
import PySem.Challenge.RW_keysthroughtext_k98_errors_made
set_option Elab.async false
set_option linter.all false
set_option maxRecDepth 100000
set_option maxHeartbeats 4000000
/-! own error classes: an error made and kept as a value, its fields read, isinstance asked of it -/
namespace Kt
open PySem PySem.Spec PyProof.Rows L2
/-- C(e, ..) as a value, the class's own start keeping sp -/
def tMkV (C : Addr) (sp : Sp) (ta : TA) : TE := fun σ H Q => ta σ H fun vs H1 => vs.length ≤ 1000 ∧
  ∀ a, H1 a = none → sp (.ref a :: vs) (upd H1 a (exo a C none)) (fun v H2 => v = .non ∧ Q (.ref a) H2) (fun _ _ _ => False)
section
variable {X : Cx} {e : Expr} {es : List Expr} {ta : TA} {p pos : Pos}
theorem pe_mkV {CX : CXT} {x : Str} {C fI : Addr} {k : Nat} {fd : FuncData} {ps : List Str} {sp : Sp} (T : OexC X.K C)
    (iC : PySem.W.findIn X.K (.ref C) "__init__" = some (some (.ref fI))) (tI : PySem.W.typeIn X.K (.ref fI) = some (.type "function"))
    (F1 : FnOk X.prog X.w X.K X.mg X.base CX k fI fd ps sp) (hr : Room (k + 1) X.A) (hb : Binds X.K fd ps []) (hx : Passes CX X (fun _ _ _ => False))
    (hg : Gl X x) (hm : X.mg x = some (.ref C)) (ha : PA X (e :: es) ta) (hdb : (x == ("__debug__" : Str)) = false := by decide)
    (he : starEach (e :: es) X.env = (false, eval e X.env) :: starEach es X.env := by rfl) (hpl : (backTo pos (starEach es X.env)).any (·.1) = false := by rfl) :
    PE X (.Call (.Name x p) (e :: es) [] pos) (tMkV C sp ta) := by
  refine ⟨fun pins s σ H Q I h => ?_⟩
  have ⟨nm, q, N, bs, bm, sn, sub, ab, col, dd, k0, k1, k2, k3, k5, hC, hbm⟩ := T.cls
  refine wpAny_Call_Name_kw (ld_glob I hg hm ?_ hdb)
  refine PySem.W.callWith_K (h₀ := X.base) I.ok.mod.kin T.kC (thn (ha.run pos pins s σ H _ I h)
    fun us s1 ⟨vs, H1, I1, r1, hz, q1⟩ => ⟨I1.kIn, ?_⟩) he hpl
  show wpAny _ _ (call (.ref C) us) _ _ _
  obtain ⟨hp, g, dr, tk, os⟩ := s1
  have hsz := Nat.le_succ hp.objs.size
  have hq := q1 (hp.objs.size + 1) (I1.hok.fresh hsz)
  have kk : ∀ b o, hp.get? b = some o → ((hp.push (PySem.W.kdv_tup us)).push (PySem.HandSPX.excO C hp.objs.size)).get? b = some o :=
    fun b o e => Heap.get?_push_of_some _ (Heap.get?_push_of_some _ e)
  have hget : ((hp.push (PySem.W.kdv_tup us)).push (PySem.HandSPX.excO C hp.objs.size)).get? (hp.objs.size + 1) = some (PySem.HandSPX.excO C hp.objs.size) := by
    heap_get
  have I2 : Inv X pins σ (upd H1 (hp.objs.size + 1) (exo (hp.objs.size + 1) C none))
      ⟨(hp.push (PySem.W.kdv_tup us)).push (PySem.HandSPX.excO C hp.objs.size), g, dr, tk, os⟩ :=
    I1.laid (t' := tk) (a := hp.objs.size + 1) (o := exo (hp.objs.size + 1) C none)
      (h' := (hp.push (PySem.W.kdv_tup us)).push (PySem.HandSPX.excO C hp.objs.size)) kk hsz (exo_ok hget)
  have r2 : Vals (V.ref (hp.objs.size + 1) :: vs) (Value.ref (hp.objs.size + 1) :: us) := .cons rfl r1
  have hl : (Value.ref (hp.objs.size + 1) :: us).length = ps.length := by
    rw [← r2.length]
    exact F1.len _ _ _ _ hq
  have hus : us.length ≤ sizeLine := by
    rw [← Paired.length r1, sizeLine_eq]
    omega
  have hbb := hb ⟨(hp.push (PySem.W.kdv_tup us)).push (PySem.HandSPX.excO C hp.objs.size), g, dr, tk, os⟩ (Value.ref (hp.objs.size + 1) :: us) I2.kIn
    (by rw [List.append_nil]; exact hl)
  rw [List.append_nil] at hbb
  refine wpAny_call (PySem.HandSPX.call_own F.excBase_ValueError (fun Y => PySem.HandSPX.refsVE_contains Y bm hbm) (I1.kIn _ _ hC)
    (PySem.W.looks_findIn I1.kIn iC) (fun self => PySem.W.bind_fn I1.kIn self tI) hus
    (codeAny_mono (F1.run _ X.stack _ _ ⟨Value.ref (hp.objs.size + 1) :: us, []⟩ (Value.ref (hp.objs.size + 1) :: us) _ _ (fun _ _ _ => False)
      (hr.make C us []) (I2.env0.make C us []) hbb r2 hq) fun r s' hq' => ?_))
  cases r with
  | error er => exact hx pins σ _ _ er s' I2 hq'
  | ok fl =>
    cases fl with
    | ret u =>
      obtain ⟨v, H2, I3, rv, ev, q2⟩ := I2.after hq'
      subst ev
      exact ⟨rv, V.ref (hp.objs.size + 1), H2, I3, rfl, q2⟩
    | next => exact False.elim hq'
    | brk => exact False.elim hq'
    | cont => exact False.elim hq'
/-- the field n of a kept error -/
def tXat (K : PySem.W.Frag) (n : Str) (te : TE) : TE := fun σ H Q => te σ H fun x H1 => ∃ (a C dd : Addr) (fs : List (Str × V)) (v : V),
  x = .ref a ∧ XfC K C ∧ PySem.W.findIn K (.ref C) n = some none ∧ H1 a = some (exo a C (some dd)) ∧ H1 dd = some (exd dd fs) ∧ fs.lookup n = some v ∧ Q v H1
theorem pe_xat {n : Str} {te : TE} (he : PE X e te) (hb : attributeBase e n X.env (eval e X.env) = eval e X.env := by rfl) :
    PE X (.Attribute e n pos) (tXat X.K n te) := by
  refine ⟨fun pins s σ H Q I h => ?_⟩
  refine attr_of hb (thn (he.run pins s σ H _ I h) fun u s1 ⟨x, H1, I1, rx, a, C, dd, fs, v, ex, T, hno, ha, hd, l, q⟩ => ?_)
  subst ex
  obtain rfl : u = Value.ref a := rx
  obtain ⟨t1, ho⟩ := exo_at I1.hok ha
  obtain ⟨mA, hns, hr⟩ := exd_at I1.hok hd
  obtain ⟨od, hod, hl⟩ := lookIn_ns hns
  obtain ⟨u, hu, ru⟩ := RelO.some_of (v := v) (o := mA n) (by rw [← l]; exact hr n)
  have J : PySem.W.InstAt s1.heap a _ C (some od) := ⟨ho, rfl, rfl, hod⟩
  exact HandSPX.exc_get I1.kIn J T.ga T.gg T.exC (PySem.W.findObj_own T.hdC hno rfl (by rw [hl, hu])) (handed_of ru) ⟨v, H1, I1.tok _, ru, q⟩
/-- isinstance(e, c) of a kept error -/
def rIsV (K : PySem.W.Frag) : List V → Hp → VK → Prop := fun xs H Q => ∃ (a D : Addr) (dd : Addr) (fs : List (Str × V)) (c : V) (cv : Value) (b : Bool),
  xs = [.ref a, c] ∧ ExcC K D ∧ H a = some (exo a D (some dd)) ∧ H dd = some (exd dd fs) ∧ (∀ u, RelV c u → u = cv) ∧ PySem.W.kitOne K (.ref D) cv = some b ∧ Q (.bl b) H
theorem call_isV : CallR X (.builtin "isinstance") (rIsV X.K) := by
  intro pins s σ H xs us Q I r h
  obtain ⟨a, D, dd, fs, c, cv, b, rfl, C, ha, hd, hcv, e, q⟩ := h
  cases r with
  | cons rx rr =>
    cases rr with
    | cons rt rr =>
      cases rr
      cases rx
      have ec := hcv _ rt
      subst ec
      obtain ⟨t1, ho⟩ := exo_at I.hok ha
      obtain ⟨mA, hns, hr⟩ := exd_at I.hok hd
      obtain ⟨od, hod, hl⟩ := lookIn_ns hns
      have J : PySem.W.InstAt s.heap a _ D (some od) := ⟨ho, rfl, rfl, hod⟩
      have hcl : (PySem.W.clsIn X.K D).isSome = true := by
        obtain ⟨cd, hc, _⟩ := PySem.W.any_some C.hd
        rw [hc]
        rfl
      exact PySem.W.kia_one (PySem.W.kitx_exc hcl C.hg C.hk C.hs C.ha C.hn C.ht C.hm) I.kIn J e (fun z => nomatch z) fun tk =>
        ⟨.bl b, H, I.kept (t' := tk) fun _ _ z => z, rfl, q⟩
/-- isinstance(e, c), e the error that the suite holds, with a dict of its own -/
def rIsD (K : PySem.W.Frag) (D a : Addr) (d : Option Addr) : List V → Hp → VK → Prop := fun xs H Q => ∃ (c : V) (cv : Value) (b : Bool) (dd : Addr) (fs : List (Str × V)),
  xs = [.ref a, c] ∧ (∀ u, RelV c u → u = cv) ∧ d = some dd ∧ H dd = some (.xd fs) ∧ PySem.W.kitOne K (.ref D) cv = some b ∧ Q (.bl b) H
theorem call_isD {a D : Addr} {d : Option Addr} {oe : Obj} {pn : List (Addr × Obj)} (C : ExcC X.K D) (hz : Zc (.ref D) d oe) (hf : ∃ vs, oe.data = .fields vs) :
    CallR (X.suite a ((a, oe) :: pn)) (.builtin "isinstance") (rIsD X.K D a d) := by
  intro pins s σ H xs us Q I r h
  obtain ⟨c, cv, b, dd, fs, rfl, hcv, rfl, hd, e, q⟩ := h
  cases r with
  | cons rx rr =>
    cases rr with
    | cons rt rr =>
      cases rr
      cases rx
      have ec := hcv _ rt
      subst ec
      obtain ⟨hget, _⟩ := I.pin (a, oe) (List.mem_append.mpr (.inl List.mem_cons_self))
      obtain ⟨vs, hv⟩ := hf
      obtain ⟨mA, hns, hr⟩ : ∃ mA, s.heap.Ns1 dd mA ∧ ∀ f, RelO (fs.lookup f) (mA f) := I.hok dd _ hd
      obtain ⟨od, hod, hl⟩ := lookIn_ns hns
      have J : PySem.W.InstAt s.heap a oe D (some od) := ⟨hget, hz.1, by unfold PySem.W.notCls; rw [hv] <;> rfl, by rw [hz.2]; exact hod⟩
      have hcl : (PySem.W.clsIn X.K D).isSome = true := by
        obtain ⟨cd, hc, _⟩ := PySem.W.any_some C.hd
        rw [hc]
        rfl
      exact PySem.W.kia_one (PySem.W.kitx_exc hcl C.hg C.hk C.hs C.ha C.hn C.ht C.hm) I.kIn J e (fun z => nomatch z) fun tk =>
        ⟨.bl b, H, I.kept (t' := tk) fun _ _ z => z, rfl, q⟩
end
end Kt
/-! facts of the written part by one Bool; a def as the top leaves it, with its promise -/
namespace Kt
open PySem PySem.Spec PyProof.Rows L2
/-- C is an own error class, over ValueError by way of own classes -/
def oexB (K : PySem.W.Frag) (C : Addr) : Bool := match K.lookup C with
  | some ⟨.type "type", _, .cls cd, sl⟩ => (match cd.mro, sl.toList with
    | .ref C' :: bm, [_, _, _, _, some (.builtin n), _] => C' == C && n == "ValueError.__new__" && !cd.hasDel && cd.hasDict && PySem.HandSPX.refsVE bm
    | _, _ => false)
  | _ => false
theorem oexB_ok {K : PySem.W.Frag} {C : Addr} (q : oexB K C = true) : ∃ nm qn N bs bm sn sub ab col dd k0 k1 k2 k3 k5,
    K.lookup C = some (excClassObj nm qn C N bs bm true sn sub ab col dd k0 k1 k2 k3 k5 "ValueError.__new__") ∧ PySem.HandSPX.refsVE bm = true := by
  unfold oexB at q
  split at q
  · rename_i dd cd sl ho
    split at q
    · rename_i C' bm k0 k1 k2 k3 n k5 hm hs
      simp only [Bool.and_eq_true, beq_iff_eq, Bool.not_eq_true'] at q
      obtain ⟨⟨⟨⟨rfl, rfl⟩, hdel⟩, hdc⟩, ht⟩ := q
      obtain ⟨nm, bs, mro, ns, qn, hd, sn, sub, ab, col, del⟩ := cd
      dsimp only at hm hdel hdc
      subst hm hdel hdc
      have hsl : sl = #[k0, k1, k2, k3, some (.builtin "ValueError.__new__"), k5] := by
        obtain ⟨l⟩ := sl
        simp only at hs
        rw [hs]
      subst hsl
      exact ⟨nm, qn, ns, bs, bm, sn, sub, ab, col, dd, k0, k1, k2, k3, k5, ho, ht⟩
    · cases q
  · cases q
/-- all that is asked of an own error class with a start of its own at fI -/
structure ExAll (K : PySem.W.Frag) (C fI : Addr) : Prop where
  o : OexC K C
  e : ExcC K C
  x : XfC K C
  iC : PySem.W.findIn K (.ref C) "__init__" = some (some (.ref fI))
  tI : PySem.W.typeIn K (.ref fI) = some (.type "function")
def exAllB (K : PySem.W.Frag) (C fI : Addr) : Bool :=
  oexB K C && (decide (PySem.W.findIn K (.ref C) "__setattr__" = some (some (.builtin "object.__setattr__"))) &&
  (decide (PySem.W.subIn K (.ref C) (.type "BaseException") = some true) && (decide (PySem.W.typeIn K (.ref C) = some (.type "type")) &&
  (PySem.W.keepIn K (.ref C) && (decide (PySem.W.findIn K (.ref C) "__getattribute__" = some (some (.builtin "BaseException.__getattribute__"))) &&
  (decide (PySem.W.findIn K (.ref C) "__getattr__" = some none) && (PySem.W.hasDictIn K C &&
  (decide (PySem.W.findIn K (.ref C) "__class__" = some (some (.builtin "object.__class__"))) &&
  (decide (PySem.W.specialIn K (.builtin "object.__class__") "__get__" = some (some (.builtin "getset_descriptor.__get__"))) &&
  (decide (PySem.W.takesIn K (.builtin "object.__class__") = some true) && (decide (PySem.W.mroIn K C (.type "object") = some true) &&
  (decide (PySem.W.findIn K (.ref C) "__init__" = some (some (.ref fI))) && decide (PySem.W.typeIn K (.ref fI) = some (.type "function"))))))))))))))
theorem exAllB_ok {K : PySem.W.Frag} {C fI : Addr} (h : exAllB K C fI = true) : ExAll K C fI := by
  unfold exAllB at h
  simp only [Bool.and_eq_true, decide_eq_true_eq] at h
  obtain ⟨h1, h2, h3, h4, h5, h6, h7, h8, h9, h10, h11, h12, h13, h14⟩ := h
  exact ⟨⟨oexB_ok h1, h2, h3, h4, h5⟩, ⟨h6, h7, h3, h8, h9, h10, h11, h12⟩, ⟨h6, h7, h3, h8⟩, h13, h14⟩
/-- a def (a global one, or a method) as it stands behind the top, and what it promises -/
structure Gd (P : Program) (w : World) (K : PySem.W.Frag) (base : Heap) (mg : Str → Option Value) (CX : CXT) (k : Nat) (f : Addr) (ps : List Str) (ds : List V) (sp : Sp) : Prop where
  ok : ∃ fd dv, FnOk P w K mg base CX k f fd ps sp ∧ Vals ds dv ∧ Binds K fd ps dv
  kp : PySem.W.keepIn K (.ref f) = true
section
variable {X : Cx} {CX : CXT} {k : Nat} {f : Addr} {ps : List Str} {sp : Sp} {ds : List V} {E : XK} {x : Str} {p pos : Pos} {e : Expr} {es : List Expr} {t : TA}
theorem pe_callG (F : Gd X.prog X.w X.K X.base X.mg CX k f ps ds sp) (hm : X.mg x = some (.ref f)) (hr : Room k X.A) (hx : Passes CX X E) (ha : PA X (e :: es) t) (hg : Gl X x := by rfl)
    (hdb : (x == ("__debug__" : Str)) = false := by decide) (he : starEach (e :: es) X.env = (false, eval e X.env) :: starEach es X.env := by rfl)
    (hpl : (backTo pos (starEach es X.env)).any (·.1) = false := by rfl) : PE X (.Call (.Name x p) (e :: es) [] pos) (tCall sp ds E t) := by
  obtain ⟨fd, dv, F1, hd, hb⟩ := F.ok
  exact pe_call F1 hr hg hm F.kp hb hd hx ha hdb he hpl
theorem pe_callG0 (F : Gd X.prog X.w X.K X.base X.mg CX k f ps ds sp) (hm : X.mg x = some (.ref f)) (hr : Room k X.A) (hx : Passes CX X E) (hg : Gl X x := by rfl)
    (hdb : (x == ("__debug__" : Str)) = false := by decide) : PE X (.Call (.Name x p) [] [] pos) (tCall sp ds E tNil) := by
  obtain ⟨fd, dv, F1, hd, hb⟩ := F.ok
  exact pe_call0 F1 hr hg hm F.kp hb hd hx hdb
theorem pe_mkG {ta : TA} {C fI : Addr} (T : ExAll X.K C fI) (F : Gd X.prog X.w X.K X.base X.mg CX k fI ps [] sp) (hm : X.mg x = some (.ref C)) (hr : Room (k + 1) X.A) (hx : Passes CX X (fun _ _ _ => False))
    (ha : PA X (e :: es) ta) (hg : Gl X x := by rfl) (hdb : (x == ("__debug__" : Str)) = false := by decide) (he : starEach (e :: es) X.env = (false, eval e X.env) :: starEach es X.env := by rfl)
    (hpl : (backTo pos (starEach es X.env)).any (·.1) = false := by rfl) : PE X (.Call (.Name x p) (e :: es) [] pos) (tMkV C sp ta) := by
  obtain ⟨fd, dv, F1, hd, hb⟩ := F.ok
  cases hd
  exact pe_mkV T.o T.iC T.tI F1 hr hb hx hg hm ha hdb he hpl
theorem pmk_G {ta : TA} {C fI : Addr} (T : ExAll X.K C fI) (F : Gd X.prog X.w X.K X.base X.mg CX k fI ps [] sp) (hm : X.mg x = some (.ref C)) (hr : Room (k + 1) X.A) (hx : Passes CX X (fun _ _ _ => False))
    (ha : PA X (e :: es) ta) (hg : Gl X x := by rfl) (hdb : (x == ("__debug__" : Str)) = false := by decide) (he : starEach (e :: es) X.env = (false, eval e X.env) :: starEach es X.env := by rfl)
    (hpl : (backTo pos (starEach es X.env)).any (·.1) = false := by rfl) : PMk X (.Call (.Name x p) (e :: es) [] pos) (tMkO C sp [] ta) := by
  obtain ⟨fd, dv, F1, hd, hb⟩ := F.ok
  cases hd
  exact pmk_oex T.o T.iC T.tI F1 hr hb .nil hx hg hm ha hdb he hpl
end
end Kt
namespace Kt
open PySem PySem.Spec PyProof.Rows L2
section
variable {P : Program} {w : World} {K : PySem.W.Frag} {mg : Str → Option Value} {base : Heap} {x qual : Str} {params : Arguments} {body : List Stmt} {scope : Scope} {f : Addr} {N ps : List Str} {k : Nat} {sp : Sp}
/-- a def that lets no error out -/
theorem mkGd (F : ∃ fd, FunD K x qual params body scope [] [] f fd) (S : FnScope N ps scope) (len : ∀ vs H Q E, sp vs H Q E → vs.length = ps.length)
    (hb : ∀ (kV doc pm : Value) (an : Option Addr) (cdv ct : Value) (us : List Value), us.length = ps.length → bindArgs (PySem.W.fnOf x qual params body scope .none kV doc pm an cdv ct) ⟨us, []⟩ = pure (ps.zip us))
    (hbody : ∀ (cdv : Value) (A : Around) (outer : List Env) (s : Shared) (H : Hp) (vs : List V) (Q : VK) (E : XK), Room k (A.deeper (envOfC qual scope s.heap.objs.size f cdv)) → sp vs H Q E →
      ∃ t, PSs (cxOf CX0 P w K mg base N qual scope f cdv A outer s H E).nox body t ∧ t { nx := fun _ H' => Q .non H', rt := Q } (start N vs) H) :
    Gd P w K base mg CX0 (k + 1) f ps [] sp := by
  obtain ⟨fd, F⟩ := F
  refine ⟨⟨fd, [], F.ok S len fun cdv A outer s H vs Q E hr h => ?_, .nil, F.bindsN hb⟩, F.kp⟩
  obtain ⟨t, h1, h2⟩ := hbody cdv A outer s H vs Q E hr h
  exact ⟨t, h1.nox, h2⟩
/-- a def that may let an error out -/
theorem mkGdX (F : ∃ fd, FunD K x qual params body scope [] [] f fd) (S : FnScope N ps scope) (len : ∀ vs H Q E, sp vs H Q E → vs.length = ps.length)
    (hb : ∀ (kV doc pm : Value) (an : Option Addr) (cdv ct : Value) (us : List Value), us.length = ps.length → bindArgs (PySem.W.fnOf x qual params body scope .none kV doc pm an cdv ct) ⟨us, []⟩ = pure (ps.zip us))
    (hbody : ∀ (cdv : Value) (A : Around) (outer : List Env) (s : Shared) (H : Hp) (vs : List V) (Q : VK) (E : XK), Room k (A.deeper (envOfC qual scope s.heap.objs.size f cdv)) → sp vs H Q E →
      ∃ t, PSs (cxOf (CX P w) P w K mg base N qual scope f cdv A outer s H E) body t ∧ t { nx := fun _ H' => Q .non H', rt := Q } (start N vs) H) :
    Gd P w K base mg (CX P w) (k + 1) f ps [] sp := by
  obtain ⟨fd, F⟩ := F
  exact ⟨⟨fd, [], F.ok S len hbody, .nil, F.bindsN hb⟩, F.kp⟩
end
/-- the law's source of draws: the pairs of its dict -/
def srcK (c : Addr) (a r s ro : Int) : List (Key × V) := [(Sum.inr "cells", .ref c), (Sum.inr "at", .int a), (Sum.inr "rest", .int r), (Sum.inr "seed", .int s), (Sum.inr "room", .int ro), (Sum.inr "long", .int 2)]
section
variable {H : Hp} {p c : Addr} {a r s ro v : Int}
theorem src_cells (h : H p = some (.dK (srcK c a r s ro))) : DGet H p (.str "cells") (some (.ref c)) := DGet.k (k := Sum.inr "cells") h
theorem src_at (h : H p = some (.dK (srcK c a r s ro))) : DGet H p (.str "at") (some (.int a)) := DGet.k (k := Sum.inr "at") h
theorem src_rest (h : H p = some (.dK (srcK c a r s ro))) : DGet H p (.str "rest") (some (.int r)) := DGet.k (k := Sum.inr "rest") h
theorem src_seed (h : H p = some (.dK (srcK c a r s ro))) : DGet H p (.str "seed") (some (.int s)) := DGet.k (k := Sum.inr "seed") h
theorem src_room (h : H p = some (.dK (srcK c a r s ro))) : DGet H p (.str "room") (some (.int ro)) := DGet.k (k := Sum.inr "room") h
theorem put_at (h : H p = some (.dK (srcK c a r s ro))) : DPut H p (.str "at") (.int v) (upd H p (.dK (srcK c v r s ro))) := DPut.k (k := Sum.inr "at") h (small1000 (by show 6 ≤ 1000; decide))
theorem put_rest (h : H p = some (.dK (srcK c a r s ro))) : DPut H p (.str "rest") (.int v) (upd H p (.dK (srcK c a v s ro))) := DPut.k (k := Sum.inr "rest") h (small1000 (by show 6 ≤ 1000; decide))
theorem put_seed (h : H p = some (.dK (srcK c a r s ro))) : DPut H p (.str "seed") (.int v) (upd H p (.dK (srcK c a r v ro))) := DPut.k (k := Sum.inr "seed") h (small1000 (by show 6 ≤ 1000; decide))
theorem put_room (h : H p = some (.dK (srcK c a r s ro))) : DPut H p (.str "room") (.int v) (upd H p (.dK (srcK c a r s v))) := DPut.k (k := Sum.inr "room") h (small1000 (by show 6 ≤ 1000; decide))
end
/-- at p stands a source over the cells ns at c -/
structure Src (H : Hp) (p c : Addr) (ns : List Int) (ro : Int) : Prop where
  ex : ∃ a r s, H p = some (.dK (srcK c a r s ro)) ∧ 0 ≤ a ∧ 0 ≤ r
  cs : H c = some (.lst (ns.map V.int))
/-- all that was tracked stands, but for p -/
def Sb (p : Addr) (H H' : Hp) : Prop := ∀ b o, b ≠ p → H b = some o → H' b = some o
theorem Sb.refl {p : Addr} {H : Hp} : Sb p H H := fun _ _ _ h => h
theorem Sb.trans {p : Addr} {H H1 H2 : Hp} (a : Sb p H H1) (b : Sb p H1 H2) : Sb p H H2 := fun c o n h => b c o n (a c o n h)
theorem Sb.up {p : Addr} {H : Hp} {o : HO} : Sb p H (upd H p o) := fun b u n h => by rw [upd_ne n]; exact h
theorem Sb.new {p q : Addr} {H : Hp} {o : HO} (h : H q = none) : Sb p H (upd H q o) := fun b u _ e => by rw [upd_ne (ne_of_none e h)]; exact e
theorem Src.ne {H : Hp} {p c : Addr} {ns : List Int} {ro : Int} (h : Src H p c ns ro) : c ≠ p := by
  obtain ⟨a, r, s, h1, _⟩ := h.ex
  exact ne_of h.cs h1 (by intro z; cases z)
theorem Src.to {H H' : Hp} {p c : Addr} {ns : List Int} {ro ro' a r s : Int} (h : Src H p c ns ro) (hp : H' p = some (.dK (srcK c a r s ro'))) (ha : 0 ≤ a) (hr : 0 ≤ r) (k : Sb p H H') : Src H' p c ns ro' :=
  ⟨⟨a, r, s, hp, ha, hr⟩, k _ _ h.ne h.cs⟩
theorem Src.keep {H H' : Hp} {p c : Addr} {ns : List Int} {ro : Int} (h : Src H p c ns ro) (k : Same H H') : Src H' p c ns ro := by
  obtain ⟨a, r, s, h1, h2, h3⟩ := h.ex
  exact ⟨⟨a, r, s, k _ _ h1, h2, h3⟩, k _ _ h.cs⟩
/-- the promises of the two defs that draw -/
def spMore : Sp := fun vs H Q _ => ∃ (p c : Addr) (ns : List Int) (ro : Int), vs = [.ref p] ∧ Src H p c ns ro ∧ ns.length ≤ 63 ∧ ∀ H', Src H' p c ns ro → Sb p H H' → Q .non H'
def spDraw : Sp := fun vs H Q _ => ∃ (p c : Addr) (ns : List Int) (ro m : Int), vs = [.ref p, .int m] ∧ Src H p c ns ro ∧ ns.length ≤ 63 ∧ 0 < m ∧ m < 1073741824 ∧
  ∀ d H', 0 ≤ d → d < m → Src H' p c ns ro → Sb p H H' → Q (.int d) H'
end Kt
set_option Elab.async false
set_option linter.all false
set_option maxRecDepth 100000
set_option maxHeartbeats 0
namespace Kt
open PySem PySem.Spec PyProof.Rows L2
def top (i : Nat) : Stmt := PySem.Challenge.pw_keysthroughtext_k98_errors_made.main.body.getD i (.Pass ⟨0, 0, 0, 0⟩)
abbrev s_BadKey_init : Stmt := inClass (top 2) 0
abbrev N_BadKey_init : List Str := ["self", "key"]
theorem sc_BadKey_init : FnScope N_BadKey_init ["self", "key"] (defScope s_BadKey_init) := ⟨rfl, rfl, rfl, by decide +kernel, rfl, by decide +kernel, by decide +kernel⟩
abbrev s_DoubleKey_init : Stmt := inClass (top 3) 0
abbrev N_DoubleKey_init : List Str := ["self", "key"]
theorem sc_DoubleKey_init : FnScope N_DoubleKey_init ["self", "key"] (defScope s_DoubleKey_init) := ⟨rfl, rfl, rfl, by decide +kernel, rfl, by decide +kernel, by decide +kernel⟩
abbrev s_NoKey_init : Stmt := inClass (top 4) 0
abbrev N_NoKey_init : List Str := ["self", "key"]
theorem sc_NoKey_init : FnScope N_NoKey_init ["self", "key"] (defScope s_NoKey_init) := ⟨rfl, rfl, rfl, by decide +kernel, rfl, by decide +kernel, by decide +kernel⟩
abbrev s_NotText_init : Stmt := inClass (top 5) 0
abbrev N_NotText_init : List Str := ["self", "position"]
theorem sc_NotText_init : FnScope N_NotText_init ["self", "position"] (defScope s_NotText_init) := ⟨rfl, rfl, rfl, by decide +kernel, rfl, by decide +kernel, by decide +kernel⟩
abbrev s_TooDeep_init : Stmt := inClass (top 6) 0
abbrev N_TooDeep_init : List Str := ["self", "position"]
theorem sc_TooDeep_init : FnScope N_TooDeep_init ["self", "position"] (defScope s_TooDeep_init) := ⟨rfl, rfl, rfl, by decide +kernel, rfl, by decide +kernel, by decide +kernel⟩
abbrev s_BadOption_init : Stmt := inClass (top 7) 0
abbrev N_BadOption_init : List Str := ["self", "name", "value"]
theorem sc_BadOption_init : FnScope N_BadOption_init ["self", "name", "value"] (defScope s_BadOption_init) := ⟨rfl, rfl, rfl, by decide +kernel, rfl, by decide +kernel, by decide +kernel⟩
abbrev s_Unwritable_init : Stmt := inClass (top 8) 0
abbrev N_Unwritable_init : List Str := ["self", "reason", "path"]
theorem sc_Unwritable_init : FnScope N_Unwritable_init ["self", "reason", "path"] (defScope s_Unwritable_init) := ⟨rfl, rfl, rfl, by decide +kernel, rfl, by decide +kernel, by decide +kernel⟩
abbrev s_Unreadable_init : Stmt := inClass (top 9) 0
abbrev N_Unreadable_init : List Str := ["self", "reason", "path"]
theorem sc_Unreadable_init : FnScope N_Unreadable_init ["self", "reason", "path"] (defScope s_Unreadable_init) := ⟨rfl, rfl, rfl, by decide +kernel, rfl, by decide +kernel, by decide +kernel⟩
abbrev s_Refused_init : Stmt := inClass (top 10) 0
abbrev N_Refused_init : List Str := ["self", "side", "reason", "path"]
theorem sc_Refused_init : FnScope N_Refused_init ["self", "side", "reason", "path"] (defScope s_Refused_init) := ⟨rfl, rfl, rfl, by decide +kernel, rfl, by decide +kernel, by decide +kernel⟩
abbrev s_BadCondition_init : Stmt := inClass (top 11) 0
abbrev N_BadCondition_init : List Str := ["self", "value"]
theorem sc_BadCondition_init : FnScope N_BadCondition_init ["self", "value"] (defScope s_BadCondition_init) := ⟨rfl, rfl, rfl, by decide +kernel, rfl, by decide +kernel, by decide +kernel⟩
abbrev s_BadLabel_init : Stmt := inClass (top 12) 0
abbrev N_BadLabel_init : List Str := ["self", "name"]
theorem sc_BadLabel_init : FnScope N_BadLabel_init ["self", "name"] (defScope s_BadLabel_init) := ⟨rfl, rfl, rfl, by decide +kernel, rfl, by decide +kernel, by decide +kernel⟩
abbrev s_NoLabel_init : Stmt := inClass (top 13) 0
abbrev N_NoLabel_init : List Str := ["self", "label"]
theorem sc_NoLabel_init : FnScope N_NoLabel_init ["self", "label"] (defScope s_NoLabel_init) := ⟨rfl, rfl, rfl, by decide +kernel, rfl, by decide +kernel, by decide +kernel⟩
abbrev s_BadStep_init : Stmt := inClass (top 14) 0
abbrev N_BadStep_init : List Str := ["self", "index"]
theorem sc_BadStep_init : FnScope N_BadStep_init ["self", "index"] (defScope s_BadStep_init) := ⟨rfl, rfl, rfl, by decide +kernel, rfl, by decide +kernel, by decide +kernel⟩
abbrev s_WrongNumber_init : Stmt := inClass (top 15) 0
abbrev N_WrongNumber_init : List Str := ["self", "wanted", "given"]
theorem sc_WrongNumber_init : FnScope N_WrongNumber_init ["self", "wanted", "given"] (defScope s_WrongNumber_init) := ⟨rfl, rfl, rfl, by decide +kernel, rfl, by decide +kernel, by decide +kernel⟩
abbrev s_TooMuch_init : Stmt := inClass (top 16) 0
abbrev N_TooMuch_init : List Str := ["self", "what"]
theorem sc_TooMuch_init : FnScope N_TooMuch_init ["self", "what"] (defScope s_TooMuch_init) := ⟨rfl, rfl, rfl, by decide +kernel, rfl, by decide +kernel, by decide +kernel⟩
abbrev s_NoGuard_init : Stmt := inClass (top 17) 0
abbrev N_NoGuard_init : List Str := ["self", "name"]
theorem sc_NoGuard_init : FnScope N_NoGuard_init ["self", "name"] (defScope s_NoGuard_init) := ⟨rfl, rfl, rfl, by decide +kernel, rfl, by decide +kernel, by decide +kernel⟩
abbrev s__law_source : Stmt := top 19
abbrev N__law_source : List Str := ["_law_script", "_law_cell"]
theorem sc__law_source : FnScope N__law_source ["_law_script"] (defScope s__law_source) := ⟨rfl, rfl, rfl, by decide +kernel, rfl, by decide +kernel, by decide +kernel⟩
abbrev s__law_more : Stmt := top 20
abbrev N__law_more : List Str := ["_law_source_here", "_law_cells", "_law_at", "_law_cell", "_law_mixed"]
theorem sc__law_more : FnScope N__law_more ["_law_source_here"] (defScope s__law_more) := ⟨rfl, rfl, rfl, by decide +kernel, rfl, by decide +kernel, by decide +kernel⟩
abbrev s__law_draw : Stmt := top 21
abbrev N__law_draw : List Str := ["_law_source_here", "_law_many", "_law_found"]
theorem sc__law_draw : FnScope N__law_draw ["_law_source_here", "_law_many"] (defScope s__law_draw) := ⟨rfl, rfl, rfl, by decide +kernel, rfl, by decide +kernel, by decide +kernel⟩
abbrev s__law_key : Stmt := top 22
abbrev N__law_key : List Str := ["_law_source_here", "_law_number"]
theorem sc__law_key : FnScope N__law_key ["_law_source_here"] (defScope s__law_key) := ⟨rfl, rfl, rfl, by decide +kernel, rfl, by decide +kernel, by decide +kernel⟩
abbrev s__law_text : Stmt := top 23
abbrev N__law_text : List Str := ["_law_source_here", "_law_k"]
theorem sc__law_text : FnScope N__law_text ["_law_source_here"] (defScope s__law_text) := ⟨rfl, rfl, rfl, by decide +kernel, rfl, by decide +kernel, by decide +kernel⟩
abbrev s__law_path : Stmt := top 24
abbrev N__law_path : List Str := ["_law_source_here", "_law_k"]
theorem sc__law_path : FnScope N__law_path ["_law_source_here"] (defScope s__law_path) := ⟨rfl, rfl, rfl, by decide +kernel, rfl, by decide +kernel, by decide +kernel⟩
abbrev s__law_given : Stmt := top 25
abbrev N__law_given : List Str := ["_law_source_here", "_law_which", "_law_numbers"]
theorem sc__law_given : FnScope N__law_given ["_law_source_here", "_law_which"] (defScope s__law_given) := ⟨rfl, rfl, rfl, by decide +kernel, rfl, by decide +kernel, by decide +kernel⟩
abbrev s__law_made : Stmt := top 26
abbrev N__law_made : List Str := ["_law_which", "_law_a", "_law_b", "_law_c"]
theorem sc__law_made : FnScope N__law_made ["_law_which", "_law_a", "_law_b", "_law_c"] (defScope s__law_made) := ⟨rfl, rfl, rfl, by decide +kernel, rfl, by decide +kernel, by decide +kernel⟩
abbrev s__law_fields : Stmt := top 27
abbrev N__law_fields : List Str := ["_law_which", "_law_x"]
theorem sc__law_fields : FnScope N__law_fields ["_law_which", "_law_x"] (defScope s__law_fields) := ⟨rfl, rfl, rfl, by decide +kernel, rfl, by decide +kernel, by decide +kernel⟩
abbrev s__law_classes : Stmt := top 28
abbrev N__law_classes : List Str := ["_law_x", "_law_found"]
theorem sc__law_classes : FnScope N__law_classes ["_law_x"] (defScope s__law_classes) := ⟨rfl, rfl, rfl, by decide +kernel, rfl, by decide +kernel, by decide +kernel⟩
abbrev s__law_raise_early : Stmt := top 29
abbrev N__law_raise_early : List Str := ["_law_which", "_law_a", "_law_b", "_law_c"]
theorem sc__law_raise_early : FnScope N__law_raise_early ["_law_which", "_law_a", "_law_b", "_law_c"] (defScope s__law_raise_early) := ⟨rfl, rfl, rfl, by decide +kernel, rfl, by decide +kernel, by decide +kernel⟩
abbrev s__law_raise_late : Stmt := top 30
abbrev N__law_raise_late : List Str := ["_law_which", "_law_a", "_law_b"]
theorem sc__law_raise_late : FnScope N__law_raise_late ["_law_which", "_law_a", "_law_b"] (defScope s__law_raise_late) := ⟨rfl, rfl, rfl, by decide +kernel, rfl, by decide +kernel, by decide +kernel⟩
abbrev s__law_caught : Stmt := top 31
abbrev N__law_caught : List Str := ["_law_which", "_law_a", "_law_b", "_law_c", "e"]
theorem sc__law_caught : FnScope N__law_caught ["_law_which", "_law_a", "_law_b", "_law_c"] (defScope s__law_caught) := ⟨rfl, rfl, rfl, by decide +kernel, rfl, by decide +kernel, by decide +kernel⟩
abbrev s__law_like : Stmt := top 32
abbrev N__law_like : List Str := ["_law_one", "_law_two"]
theorem sc__law_like : FnScope N__law_like ["_law_one", "_law_two"] (defScope s__law_like) := ⟨rfl, rfl, rfl, by decide +kernel, rfl, by decide +kernel, by decide +kernel⟩
abbrev s_law : Stmt := top 33
abbrev N_law : List Str := ["_law_script", "_law_source_here", "_law_which", "_law_given_here", "_law_made_here", "_law_many", "_law_told", "_law_k"]
theorem sc_law : FnScope N_law ["_law_script"] (defScope s_law) := ⟨rfl, rfl, rfl, by decide +kernel, rfl, by decide +kernel, by decide +kernel⟩
def d_BadKey_init : He.DefD := ⟨("BadKey", some "__init__"), "__init__", "BadKey.__init__", defArgs s_BadKey_init, defBody s_BadKey_init, defScope s_BadKey_init, [], []⟩
def d_DoubleKey_init : He.DefD := ⟨("DoubleKey", some "__init__"), "__init__", "DoubleKey.__init__", defArgs s_DoubleKey_init, defBody s_DoubleKey_init, defScope s_DoubleKey_init, [], []⟩
def d_NoKey_init : He.DefD := ⟨("NoKey", some "__init__"), "__init__", "NoKey.__init__", defArgs s_NoKey_init, defBody s_NoKey_init, defScope s_NoKey_init, [], []⟩
def d_NotText_init : He.DefD := ⟨("NotText", some "__init__"), "__init__", "NotText.__init__", defArgs s_NotText_init, defBody s_NotText_init, defScope s_NotText_init, [], []⟩
def d_TooDeep_init : He.DefD := ⟨("TooDeep", some "__init__"), "__init__", "TooDeep.__init__", defArgs s_TooDeep_init, defBody s_TooDeep_init, defScope s_TooDeep_init, [], []⟩
def d_BadOption_init : He.DefD := ⟨("BadOption", some "__init__"), "__init__", "BadOption.__init__", defArgs s_BadOption_init, defBody s_BadOption_init, defScope s_BadOption_init, [], []⟩
def d_Unwritable_init : He.DefD := ⟨("Unwritable", some "__init__"), "__init__", "Unwritable.__init__", defArgs s_Unwritable_init, defBody s_Unwritable_init, defScope s_Unwritable_init, [], []⟩
def d_Unreadable_init : He.DefD := ⟨("Unreadable", some "__init__"), "__init__", "Unreadable.__init__", defArgs s_Unreadable_init, defBody s_Unreadable_init, defScope s_Unreadable_init, [], []⟩
def d_Refused_init : He.DefD := ⟨("Refused", some "__init__"), "__init__", "Refused.__init__", defArgs s_Refused_init, defBody s_Refused_init, defScope s_Refused_init, [], []⟩
def d_BadCondition_init : He.DefD := ⟨("BadCondition", some "__init__"), "__init__", "BadCondition.__init__", defArgs s_BadCondition_init, defBody s_BadCondition_init, defScope s_BadCondition_init, [], []⟩
def d_BadLabel_init : He.DefD := ⟨("BadLabel", some "__init__"), "__init__", "BadLabel.__init__", defArgs s_BadLabel_init, defBody s_BadLabel_init, defScope s_BadLabel_init, [], []⟩
def d_NoLabel_init : He.DefD := ⟨("NoLabel", some "__init__"), "__init__", "NoLabel.__init__", defArgs s_NoLabel_init, defBody s_NoLabel_init, defScope s_NoLabel_init, [], []⟩
def d_BadStep_init : He.DefD := ⟨("BadStep", some "__init__"), "__init__", "BadStep.__init__", defArgs s_BadStep_init, defBody s_BadStep_init, defScope s_BadStep_init, [], []⟩
def d_WrongNumber_init : He.DefD := ⟨("WrongNumber", some "__init__"), "__init__", "WrongNumber.__init__", defArgs s_WrongNumber_init, defBody s_WrongNumber_init, defScope s_WrongNumber_init, [], []⟩
def d_TooMuch_init : He.DefD := ⟨("TooMuch", some "__init__"), "__init__", "TooMuch.__init__", defArgs s_TooMuch_init, defBody s_TooMuch_init, defScope s_TooMuch_init, [], []⟩
def d_NoGuard_init : He.DefD := ⟨("NoGuard", some "__init__"), "__init__", "NoGuard.__init__", defArgs s_NoGuard_init, defBody s_NoGuard_init, defScope s_NoGuard_init, [], []⟩
def d__law_source : He.DefD := ⟨("_law_source", none), "_law_source", "_law_source", defArgs s__law_source, defBody s__law_source, defScope s__law_source, [], []⟩
def d__law_more : He.DefD := ⟨("_law_more", none), "_law_more", "_law_more", defArgs s__law_more, defBody s__law_more, defScope s__law_more, [], []⟩
def d__law_draw : He.DefD := ⟨("_law_draw", none), "_law_draw", "_law_draw", defArgs s__law_draw, defBody s__law_draw, defScope s__law_draw, [], []⟩
def d__law_key : He.DefD := ⟨("_law_key", none), "_law_key", "_law_key", defArgs s__law_key, defBody s__law_key, defScope s__law_key, [], []⟩
def d__law_text : He.DefD := ⟨("_law_text", none), "_law_text", "_law_text", defArgs s__law_text, defBody s__law_text, defScope s__law_text, [], []⟩
def d__law_path : He.DefD := ⟨("_law_path", none), "_law_path", "_law_path", defArgs s__law_path, defBody s__law_path, defScope s__law_path, [], []⟩
def d__law_given : He.DefD := ⟨("_law_given", none), "_law_given", "_law_given", defArgs s__law_given, defBody s__law_given, defScope s__law_given, [], []⟩
def d__law_made : He.DefD := ⟨("_law_made", none), "_law_made", "_law_made", defArgs s__law_made, defBody s__law_made, defScope s__law_made, [], []⟩
def d__law_fields : He.DefD := ⟨("_law_fields", none), "_law_fields", "_law_fields", defArgs s__law_fields, defBody s__law_fields, defScope s__law_fields, [], []⟩
def d__law_classes : He.DefD := ⟨("_law_classes", none), "_law_classes", "_law_classes", defArgs s__law_classes, defBody s__law_classes, defScope s__law_classes, [], []⟩
def d__law_raise_early : He.DefD := ⟨("_law_raise_early", none), "_law_raise_early", "_law_raise_early", defArgs s__law_raise_early, defBody s__law_raise_early, defScope s__law_raise_early, [], []⟩
def d__law_raise_late : He.DefD := ⟨("_law_raise_late", none), "_law_raise_late", "_law_raise_late", defArgs s__law_raise_late, defBody s__law_raise_late, defScope s__law_raise_late, [], []⟩
def d__law_caught : He.DefD := ⟨("_law_caught", none), "_law_caught", "_law_caught", defArgs s__law_caught, defBody s__law_caught, defScope s__law_caught, [], []⟩
def d__law_like : He.DefD := ⟨("_law_like", none), "_law_like", "_law_like", defArgs s__law_like, defBody s__law_like, defScope s__law_like, [], []⟩
def d_law : He.DefD := ⟨("law", none), "law", "law", defArgs s_law, defBody s_law, defScope s_law, [], []⟩
def fn : List He.DefD := [d_BadKey_init, d_DoubleKey_init, d_NoKey_init, d_NotText_init, d_TooDeep_init, d_BadOption_init, d_Unwritable_init, d_Unreadable_init, d_Refused_init, d_BadCondition_init, d_BadLabel_init, d_NoLabel_init, d_BadStep_init, d_WrongNumber_init, d_TooMuch_init, d_NoGuard_init, d__law_source, d__law_more, d__law_draw, d__law_key, d__law_text, d__law_path, d__law_given, d__law_made, d__law_fields, d__law_classes, d__law_raise_early, d__law_raise_late, d__law_caught, d__law_like, d_law]
def fa : List He.Fa := [.glo "KeysError", .glo "BadKey", .glo "DoubleKey", .glo "NoKey", .glo "NotText", .glo "TooDeep", .glo "BadOption", .glo "Unwritable", .glo "Unreadable", .glo "Refused", .glo "BadCondition", .glo "BadLabel", .glo "NoLabel", .glo "BadStep", .glo "WrongNumber", .glo "TooMuch", .glo "NoGuard", .glo "_law_source", .glo "_law_more", .glo "_law_draw", .glo "_law_key", .glo "_law_text", .glo "_law_path", .glo "_law_given", .glo "_law_made", .glo "_law_fields", .glo "_law_classes", .glo "_law_raise_early", .glo "_law_raise_late", .glo "_law_caught", .glo "_law_like", .glo "law", .free "len", .free "range", .free "isinstance", .free "abs", .free "int", .free "str", .free "tuple", .free "ValueError", .free "bool", .noat "BadKey" "key", .noat "DoubleKey" "key", .noat "NoKey" "key", .noat "NotText" "position", .noat "TooDeep" "position", .noat "BadOption" "name", .noat "BadOption" "value", .noat "Unwritable" "reason", .noat "Unwritable" "path", .noat "Unreadable" "reason", .noat "Unreadable" "path", .noat "Refused" "side", .noat "Refused" "reason", .noat "Refused" "path", .noat "BadCondition" "value", .noat "BadLabel" "name", .noat "NoLabel" "label", .noat "BadStep" "index", .noat "WrongNumber" "wanted", .noat "WrongNumber" "given", .noat "TooMuch" "what", .noat "NoGuard" "name"]
def cn : List Str := ["BadKey", "DoubleKey", "NoKey", "NotText", "TooDeep", "BadOption", "Unwritable", "Unreadable", "Refused", "BadCondition", "BadLabel", "NoLabel", "BadStep", "WrongNumber", "TooMuch", "NoGuard"]
def extra (K : PySem.W.Frag) : Bool :=
  cn.all (fun x => exAllB K (He.ga K x) (He.ma K (He.ga K x) "__init__")) &&
  (cn.all (fun x => cn.all fun y => decide (PySem.W.kitOne K (.ref (He.ga K x)) (.ref (He.ga K y)) = some (decide (x = y)))) &&
  cn.all (fun x => decide (PySem.W.kitOne K (.ref (He.ga K x)) (.ref (He.ga K "KeysError")) = some true) &&
    (decide (PySem.W.kitOne K (.ref (He.ga K x)) (.type "ValueError") = some true) && decide (PySem.W.exmOne K (.ref (He.ga K x)) (.ref (He.ga K "KeysError")) = some true))))
structure Tx (w : World) (K : PySem.W.Frag) (mg : Str → Option Value) : Prop where
  ex : ∃ h, K.In h ∧ h.Ns mainGlobals mg ∧ He.SaysX fa fn [] [] extra w h K
section
variable {w : World} {K : PySem.W.Frag} {mg : Str → Option Value}
theorem Tx.d (T : Tx w K mg) : He.SaysD fa fn K := by
  obtain ⟨h, X, G, c⟩ := T.ex
  exact c.t.d
theorem Tx.m (T : Tx w K mg) : extra K = true := by
  obtain ⟨h, X, G, c⟩ := T.ex
  exact c.more
theorem Tx.g_KeysError (T : Tx w K mg) : mg "KeysError" = some (.ref (He.ga K "KeysError")) := by
  obtain ⟨h, X, G, c⟩ := T.ex
  exact He.glo_ok X G (c.t.d.fact 0 (f := .glo "KeysError") rfl)
theorem Tx.g_BadKey (T : Tx w K mg) : mg "BadKey" = some (.ref (He.ga K "BadKey")) := by
  obtain ⟨h, X, G, c⟩ := T.ex
  exact He.glo_ok X G (c.t.d.fact 1 (f := .glo "BadKey") rfl)
theorem Tx.g_DoubleKey (T : Tx w K mg) : mg "DoubleKey" = some (.ref (He.ga K "DoubleKey")) := by
  obtain ⟨h, X, G, c⟩ := T.ex
  exact He.glo_ok X G (c.t.d.fact 2 (f := .glo "DoubleKey") rfl)
theorem Tx.g_NoKey (T : Tx w K mg) : mg "NoKey" = some (.ref (He.ga K "NoKey")) := by
  obtain ⟨h, X, G, c⟩ := T.ex
  exact He.glo_ok X G (c.t.d.fact 3 (f := .glo "NoKey") rfl)
theorem Tx.g_NotText (T : Tx w K mg) : mg "NotText" = some (.ref (He.ga K "NotText")) := by
  obtain ⟨h, X, G, c⟩ := T.ex
  exact He.glo_ok X G (c.t.d.fact 4 (f := .glo "NotText") rfl)
theorem Tx.g_TooDeep (T : Tx w K mg) : mg "TooDeep" = some (.ref (He.ga K "TooDeep")) := by
  obtain ⟨h, X, G, c⟩ := T.ex
  exact He.glo_ok X G (c.t.d.fact 5 (f := .glo "TooDeep") rfl)
theorem Tx.g_BadOption (T : Tx w K mg) : mg "BadOption" = some (.ref (He.ga K "BadOption")) := by
  obtain ⟨h, X, G, c⟩ := T.ex
  exact He.glo_ok X G (c.t.d.fact 6 (f := .glo "BadOption") rfl)
theorem Tx.g_Unwritable (T : Tx w K mg) : mg "Unwritable" = some (.ref (He.ga K "Unwritable")) := by
  obtain ⟨h, X, G, c⟩ := T.ex
  exact He.glo_ok X G (c.t.d.fact 7 (f := .glo "Unwritable") rfl)
theorem Tx.g_Unreadable (T : Tx w K mg) : mg "Unreadable" = some (.ref (He.ga K "Unreadable")) := by
  obtain ⟨h, X, G, c⟩ := T.ex
  exact He.glo_ok X G (c.t.d.fact 8 (f := .glo "Unreadable") rfl)
theorem Tx.g_Refused (T : Tx w K mg) : mg "Refused" = some (.ref (He.ga K "Refused")) := by
  obtain ⟨h, X, G, c⟩ := T.ex
  exact He.glo_ok X G (c.t.d.fact 9 (f := .glo "Refused") rfl)
theorem Tx.g_BadCondition (T : Tx w K mg) : mg "BadCondition" = some (.ref (He.ga K "BadCondition")) := by
  obtain ⟨h, X, G, c⟩ := T.ex
  exact He.glo_ok X G (c.t.d.fact 10 (f := .glo "BadCondition") rfl)
theorem Tx.g_BadLabel (T : Tx w K mg) : mg "BadLabel" = some (.ref (He.ga K "BadLabel")) := by
  obtain ⟨h, X, G, c⟩ := T.ex
  exact He.glo_ok X G (c.t.d.fact 11 (f := .glo "BadLabel") rfl)
theorem Tx.g_NoLabel (T : Tx w K mg) : mg "NoLabel" = some (.ref (He.ga K "NoLabel")) := by
  obtain ⟨h, X, G, c⟩ := T.ex
  exact He.glo_ok X G (c.t.d.fact 12 (f := .glo "NoLabel") rfl)
theorem Tx.g_BadStep (T : Tx w K mg) : mg "BadStep" = some (.ref (He.ga K "BadStep")) := by
  obtain ⟨h, X, G, c⟩ := T.ex
  exact He.glo_ok X G (c.t.d.fact 13 (f := .glo "BadStep") rfl)
theorem Tx.g_WrongNumber (T : Tx w K mg) : mg "WrongNumber" = some (.ref (He.ga K "WrongNumber")) := by
  obtain ⟨h, X, G, c⟩ := T.ex
  exact He.glo_ok X G (c.t.d.fact 14 (f := .glo "WrongNumber") rfl)
theorem Tx.g_TooMuch (T : Tx w K mg) : mg "TooMuch" = some (.ref (He.ga K "TooMuch")) := by
  obtain ⟨h, X, G, c⟩ := T.ex
  exact He.glo_ok X G (c.t.d.fact 15 (f := .glo "TooMuch") rfl)
theorem Tx.g_NoGuard (T : Tx w K mg) : mg "NoGuard" = some (.ref (He.ga K "NoGuard")) := by
  obtain ⟨h, X, G, c⟩ := T.ex
  exact He.glo_ok X G (c.t.d.fact 16 (f := .glo "NoGuard") rfl)
theorem Tx.g__law_source (T : Tx w K mg) : mg "_law_source" = some (.ref (He.ga K "_law_source")) := by
  obtain ⟨h, X, G, c⟩ := T.ex
  exact He.glo_ok X G (c.t.d.fact 17 (f := .glo "_law_source") rfl)
theorem Tx.g__law_more (T : Tx w K mg) : mg "_law_more" = some (.ref (He.ga K "_law_more")) := by
  obtain ⟨h, X, G, c⟩ := T.ex
  exact He.glo_ok X G (c.t.d.fact 18 (f := .glo "_law_more") rfl)
theorem Tx.g__law_draw (T : Tx w K mg) : mg "_law_draw" = some (.ref (He.ga K "_law_draw")) := by
  obtain ⟨h, X, G, c⟩ := T.ex
  exact He.glo_ok X G (c.t.d.fact 19 (f := .glo "_law_draw") rfl)
theorem Tx.g__law_key (T : Tx w K mg) : mg "_law_key" = some (.ref (He.ga K "_law_key")) := by
  obtain ⟨h, X, G, c⟩ := T.ex
  exact He.glo_ok X G (c.t.d.fact 20 (f := .glo "_law_key") rfl)
theorem Tx.g__law_text (T : Tx w K mg) : mg "_law_text" = some (.ref (He.ga K "_law_text")) := by
  obtain ⟨h, X, G, c⟩ := T.ex
  exact He.glo_ok X G (c.t.d.fact 21 (f := .glo "_law_text") rfl)
theorem Tx.g__law_path (T : Tx w K mg) : mg "_law_path" = some (.ref (He.ga K "_law_path")) := by
  obtain ⟨h, X, G, c⟩ := T.ex
  exact He.glo_ok X G (c.t.d.fact 22 (f := .glo "_law_path") rfl)
theorem Tx.g__law_given (T : Tx w K mg) : mg "_law_given" = some (.ref (He.ga K "_law_given")) := by
  obtain ⟨h, X, G, c⟩ := T.ex
  exact He.glo_ok X G (c.t.d.fact 23 (f := .glo "_law_given") rfl)
theorem Tx.g__law_made (T : Tx w K mg) : mg "_law_made" = some (.ref (He.ga K "_law_made")) := by
  obtain ⟨h, X, G, c⟩ := T.ex
  exact He.glo_ok X G (c.t.d.fact 24 (f := .glo "_law_made") rfl)
theorem Tx.g__law_fields (T : Tx w K mg) : mg "_law_fields" = some (.ref (He.ga K "_law_fields")) := by
  obtain ⟨h, X, G, c⟩ := T.ex
  exact He.glo_ok X G (c.t.d.fact 25 (f := .glo "_law_fields") rfl)
theorem Tx.g__law_classes (T : Tx w K mg) : mg "_law_classes" = some (.ref (He.ga K "_law_classes")) := by
  obtain ⟨h, X, G, c⟩ := T.ex
  exact He.glo_ok X G (c.t.d.fact 26 (f := .glo "_law_classes") rfl)
theorem Tx.g__law_raise_early (T : Tx w K mg) : mg "_law_raise_early" = some (.ref (He.ga K "_law_raise_early")) := by
  obtain ⟨h, X, G, c⟩ := T.ex
  exact He.glo_ok X G (c.t.d.fact 27 (f := .glo "_law_raise_early") rfl)
theorem Tx.g__law_raise_late (T : Tx w K mg) : mg "_law_raise_late" = some (.ref (He.ga K "_law_raise_late")) := by
  obtain ⟨h, X, G, c⟩ := T.ex
  exact He.glo_ok X G (c.t.d.fact 28 (f := .glo "_law_raise_late") rfl)
theorem Tx.g__law_caught (T : Tx w K mg) : mg "_law_caught" = some (.ref (He.ga K "_law_caught")) := by
  obtain ⟨h, X, G, c⟩ := T.ex
  exact He.glo_ok X G (c.t.d.fact 29 (f := .glo "_law_caught") rfl)
theorem Tx.g__law_like (T : Tx w K mg) : mg "_law_like" = some (.ref (He.ga K "_law_like")) := by
  obtain ⟨h, X, G, c⟩ := T.ex
  exact He.glo_ok X G (c.t.d.fact 30 (f := .glo "_law_like") rfl)
theorem Tx.g_law (T : Tx w K mg) : mg "law" = some (.ref (He.ga K "law")) := by
  obtain ⟨h, X, G, c⟩ := T.ex
  exact He.glo_ok X G (c.t.d.fact 31 (f := .glo "law") rfl)
theorem Tx.n_len (T : Tx w K mg) : mg "len" = none := by
  obtain ⟨h, X, G, c⟩ := T.ex
  exact He.free_ok X G (c.t.d.fact 32 (f := .free "len") rfl)
theorem Tx.n_range (T : Tx w K mg) : mg "range" = none := by
  obtain ⟨h, X, G, c⟩ := T.ex
  exact He.free_ok X G (c.t.d.fact 33 (f := .free "range") rfl)
theorem Tx.n_isinstance (T : Tx w K mg) : mg "isinstance" = none := by
  obtain ⟨h, X, G, c⟩ := T.ex
  exact He.free_ok X G (c.t.d.fact 34 (f := .free "isinstance") rfl)
theorem Tx.n_abs (T : Tx w K mg) : mg "abs" = none := by
  obtain ⟨h, X, G, c⟩ := T.ex
  exact He.free_ok X G (c.t.d.fact 35 (f := .free "abs") rfl)
theorem Tx.n_int (T : Tx w K mg) : mg "int" = none := by
  obtain ⟨h, X, G, c⟩ := T.ex
  exact He.free_ok X G (c.t.d.fact 36 (f := .free "int") rfl)
theorem Tx.n_str (T : Tx w K mg) : mg "str" = none := by
  obtain ⟨h, X, G, c⟩ := T.ex
  exact He.free_ok X G (c.t.d.fact 37 (f := .free "str") rfl)
theorem Tx.n_tuple (T : Tx w K mg) : mg "tuple" = none := by
  obtain ⟨h, X, G, c⟩ := T.ex
  exact He.free_ok X G (c.t.d.fact 38 (f := .free "tuple") rfl)
theorem Tx.n_ValueError (T : Tx w K mg) : mg "ValueError" = none := by
  obtain ⟨h, X, G, c⟩ := T.ex
  exact He.free_ok X G (c.t.d.fact 39 (f := .free "ValueError") rfl)
theorem Tx.n_bool (T : Tx w K mg) : mg "bool" = none := by
  obtain ⟨h, X, G, c⟩ := T.ex
  exact He.free_ok X G (c.t.d.fact 40 (f := .free "bool") rfl)
theorem Tx.a_BadKey_key (T : Tx w K mg) : NoAttr K (He.ga K "BadKey") "key" := He.noat_ok (T.d.fact 41 (f := .noat "BadKey" "key") rfl)
theorem Tx.a_DoubleKey_key (T : Tx w K mg) : NoAttr K (He.ga K "DoubleKey") "key" := He.noat_ok (T.d.fact 42 (f := .noat "DoubleKey" "key") rfl)
theorem Tx.a_NoKey_key (T : Tx w K mg) : NoAttr K (He.ga K "NoKey") "key" := He.noat_ok (T.d.fact 43 (f := .noat "NoKey" "key") rfl)
theorem Tx.a_NotText_position (T : Tx w K mg) : NoAttr K (He.ga K "NotText") "position" := He.noat_ok (T.d.fact 44 (f := .noat "NotText" "position") rfl)
theorem Tx.a_TooDeep_position (T : Tx w K mg) : NoAttr K (He.ga K "TooDeep") "position" := He.noat_ok (T.d.fact 45 (f := .noat "TooDeep" "position") rfl)
theorem Tx.a_BadOption_name (T : Tx w K mg) : NoAttr K (He.ga K "BadOption") "name" := He.noat_ok (T.d.fact 46 (f := .noat "BadOption" "name") rfl)
theorem Tx.a_BadOption_value (T : Tx w K mg) : NoAttr K (He.ga K "BadOption") "value" := He.noat_ok (T.d.fact 47 (f := .noat "BadOption" "value") rfl)
theorem Tx.a_Unwritable_reason (T : Tx w K mg) : NoAttr K (He.ga K "Unwritable") "reason" := He.noat_ok (T.d.fact 48 (f := .noat "Unwritable" "reason") rfl)
theorem Tx.a_Unwritable_path (T : Tx w K mg) : NoAttr K (He.ga K "Unwritable") "path" := He.noat_ok (T.d.fact 49 (f := .noat "Unwritable" "path") rfl)
theorem Tx.a_Unreadable_reason (T : Tx w K mg) : NoAttr K (He.ga K "Unreadable") "reason" := He.noat_ok (T.d.fact 50 (f := .noat "Unreadable" "reason") rfl)
theorem Tx.a_Unreadable_path (T : Tx w K mg) : NoAttr K (He.ga K "Unreadable") "path" := He.noat_ok (T.d.fact 51 (f := .noat "Unreadable" "path") rfl)
theorem Tx.a_Refused_side (T : Tx w K mg) : NoAttr K (He.ga K "Refused") "side" := He.noat_ok (T.d.fact 52 (f := .noat "Refused" "side") rfl)
theorem Tx.a_Refused_reason (T : Tx w K mg) : NoAttr K (He.ga K "Refused") "reason" := He.noat_ok (T.d.fact 53 (f := .noat "Refused" "reason") rfl)
theorem Tx.a_Refused_path (T : Tx w K mg) : NoAttr K (He.ga K "Refused") "path" := He.noat_ok (T.d.fact 54 (f := .noat "Refused" "path") rfl)
theorem Tx.a_BadCondition_value (T : Tx w K mg) : NoAttr K (He.ga K "BadCondition") "value" := He.noat_ok (T.d.fact 55 (f := .noat "BadCondition" "value") rfl)
theorem Tx.a_BadLabel_name (T : Tx w K mg) : NoAttr K (He.ga K "BadLabel") "name" := He.noat_ok (T.d.fact 56 (f := .noat "BadLabel" "name") rfl)
theorem Tx.a_NoLabel_label (T : Tx w K mg) : NoAttr K (He.ga K "NoLabel") "label" := He.noat_ok (T.d.fact 57 (f := .noat "NoLabel" "label") rfl)
theorem Tx.a_BadStep_index (T : Tx w K mg) : NoAttr K (He.ga K "BadStep") "index" := He.noat_ok (T.d.fact 58 (f := .noat "BadStep" "index") rfl)
theorem Tx.a_WrongNumber_wanted (T : Tx w K mg) : NoAttr K (He.ga K "WrongNumber") "wanted" := He.noat_ok (T.d.fact 59 (f := .noat "WrongNumber" "wanted") rfl)
theorem Tx.a_WrongNumber_given (T : Tx w K mg) : NoAttr K (He.ga K "WrongNumber") "given" := He.noat_ok (T.d.fact 60 (f := .noat "WrongNumber" "given") rfl)
theorem Tx.a_TooMuch_what (T : Tx w K mg) : NoAttr K (He.ga K "TooMuch") "what" := He.noat_ok (T.d.fact 61 (f := .noat "TooMuch" "what") rfl)
theorem Tx.a_NoGuard_name (T : Tx w K mg) : NoAttr K (He.ga K "NoGuard") "name" := He.noat_ok (T.d.fact 62 (f := .noat "NoGuard" "name") rfl)
theorem Tx.f_BadKey_init (T : Tx w K mg) : ∃ fd, FunD K d_BadKey_init.name d_BadKey_init.qual (defArgs s_BadKey_init) (defBody s_BadKey_init) (defScope s_BadKey_init) (d_BadKey_init.dvs K) (d_BadKey_init.kws K) (He.fAd K d_BadKey_init.at_) fd := T.d.def_ 0 (d := d_BadKey_init) rfl
theorem Tx.f_DoubleKey_init (T : Tx w K mg) : ∃ fd, FunD K d_DoubleKey_init.name d_DoubleKey_init.qual (defArgs s_DoubleKey_init) (defBody s_DoubleKey_init) (defScope s_DoubleKey_init) (d_DoubleKey_init.dvs K) (d_DoubleKey_init.kws K) (He.fAd K d_DoubleKey_init.at_) fd := T.d.def_ 1 (d := d_DoubleKey_init) rfl
theorem Tx.f_NoKey_init (T : Tx w K mg) : ∃ fd, FunD K d_NoKey_init.name d_NoKey_init.qual (defArgs s_NoKey_init) (defBody s_NoKey_init) (defScope s_NoKey_init) (d_NoKey_init.dvs K) (d_NoKey_init.kws K) (He.fAd K d_NoKey_init.at_) fd := T.d.def_ 2 (d := d_NoKey_init) rfl
theorem Tx.f_NotText_init (T : Tx w K mg) : ∃ fd, FunD K d_NotText_init.name d_NotText_init.qual (defArgs s_NotText_init) (defBody s_NotText_init) (defScope s_NotText_init) (d_NotText_init.dvs K) (d_NotText_init.kws K) (He.fAd K d_NotText_init.at_) fd := T.d.def_ 3 (d := d_NotText_init) rfl
theorem Tx.f_TooDeep_init (T : Tx w K mg) : ∃ fd, FunD K d_TooDeep_init.name d_TooDeep_init.qual (defArgs s_TooDeep_init) (defBody s_TooDeep_init) (defScope s_TooDeep_init) (d_TooDeep_init.dvs K) (d_TooDeep_init.kws K) (He.fAd K d_TooDeep_init.at_) fd := T.d.def_ 4 (d := d_TooDeep_init) rfl
theorem Tx.f_BadOption_init (T : Tx w K mg) : ∃ fd, FunD K d_BadOption_init.name d_BadOption_init.qual (defArgs s_BadOption_init) (defBody s_BadOption_init) (defScope s_BadOption_init) (d_BadOption_init.dvs K) (d_BadOption_init.kws K) (He.fAd K d_BadOption_init.at_) fd := T.d.def_ 5 (d := d_BadOption_init) rfl
theorem Tx.f_Unwritable_init (T : Tx w K mg) : ∃ fd, FunD K d_Unwritable_init.name d_Unwritable_init.qual (defArgs s_Unwritable_init) (defBody s_Unwritable_init) (defScope s_Unwritable_init) (d_Unwritable_init.dvs K) (d_Unwritable_init.kws K) (He.fAd K d_Unwritable_init.at_) fd := T.d.def_ 6 (d := d_Unwritable_init) rfl
theorem Tx.f_Unreadable_init (T : Tx w K mg) : ∃ fd, FunD K d_Unreadable_init.name d_Unreadable_init.qual (defArgs s_Unreadable_init) (defBody s_Unreadable_init) (defScope s_Unreadable_init) (d_Unreadable_init.dvs K) (d_Unreadable_init.kws K) (He.fAd K d_Unreadable_init.at_) fd := T.d.def_ 7 (d := d_Unreadable_init) rfl
theorem Tx.f_Refused_init (T : Tx w K mg) : ∃ fd, FunD K d_Refused_init.name d_Refused_init.qual (defArgs s_Refused_init) (defBody s_Refused_init) (defScope s_Refused_init) (d_Refused_init.dvs K) (d_Refused_init.kws K) (He.fAd K d_Refused_init.at_) fd := T.d.def_ 8 (d := d_Refused_init) rfl
theorem Tx.f_BadCondition_init (T : Tx w K mg) : ∃ fd, FunD K d_BadCondition_init.name d_BadCondition_init.qual (defArgs s_BadCondition_init) (defBody s_BadCondition_init) (defScope s_BadCondition_init) (d_BadCondition_init.dvs K) (d_BadCondition_init.kws K) (He.fAd K d_BadCondition_init.at_) fd := T.d.def_ 9 (d := d_BadCondition_init) rfl
theorem Tx.f_BadLabel_init (T : Tx w K mg) : ∃ fd, FunD K d_BadLabel_init.name d_BadLabel_init.qual (defArgs s_BadLabel_init) (defBody s_BadLabel_init) (defScope s_BadLabel_init) (d_BadLabel_init.dvs K) (d_BadLabel_init.kws K) (He.fAd K d_BadLabel_init.at_) fd := T.d.def_ 10 (d := d_BadLabel_init) rfl
theorem Tx.f_NoLabel_init (T : Tx w K mg) : ∃ fd, FunD K d_NoLabel_init.name d_NoLabel_init.qual (defArgs s_NoLabel_init) (defBody s_NoLabel_init) (defScope s_NoLabel_init) (d_NoLabel_init.dvs K) (d_NoLabel_init.kws K) (He.fAd K d_NoLabel_init.at_) fd := T.d.def_ 11 (d := d_NoLabel_init) rfl
theorem Tx.f_BadStep_init (T : Tx w K mg) : ∃ fd, FunD K d_BadStep_init.name d_BadStep_init.qual (defArgs s_BadStep_init) (defBody s_BadStep_init) (defScope s_BadStep_init) (d_BadStep_init.dvs K) (d_BadStep_init.kws K) (He.fAd K d_BadStep_init.at_) fd := T.d.def_ 12 (d := d_BadStep_init) rfl
theorem Tx.f_WrongNumber_init (T : Tx w K mg) : ∃ fd, FunD K d_WrongNumber_init.name d_WrongNumber_init.qual (defArgs s_WrongNumber_init) (defBody s_WrongNumber_init) (defScope s_WrongNumber_init) (d_WrongNumber_init.dvs K) (d_WrongNumber_init.kws K) (He.fAd K d_WrongNumber_init.at_) fd := T.d.def_ 13 (d := d_WrongNumber_init) rfl
theorem Tx.f_TooMuch_init (T : Tx w K mg) : ∃ fd, FunD K d_TooMuch_init.name d_TooMuch_init.qual (defArgs s_TooMuch_init) (defBody s_TooMuch_init) (defScope s_TooMuch_init) (d_TooMuch_init.dvs K) (d_TooMuch_init.kws K) (He.fAd K d_TooMuch_init.at_) fd := T.d.def_ 14 (d := d_TooMuch_init) rfl
theorem Tx.f_NoGuard_init (T : Tx w K mg) : ∃ fd, FunD K d_NoGuard_init.name d_NoGuard_init.qual (defArgs s_NoGuard_init) (defBody s_NoGuard_init) (defScope s_NoGuard_init) (d_NoGuard_init.dvs K) (d_NoGuard_init.kws K) (He.fAd K d_NoGuard_init.at_) fd := T.d.def_ 15 (d := d_NoGuard_init) rfl
theorem Tx.f__law_source (T : Tx w K mg) : ∃ fd, FunD K d__law_source.name d__law_source.qual (defArgs s__law_source) (defBody s__law_source) (defScope s__law_source) (d__law_source.dvs K) (d__law_source.kws K) (He.fAd K d__law_source.at_) fd := T.d.def_ 16 (d := d__law_source) rfl
theorem Tx.f__law_more (T : Tx w K mg) : ∃ fd, FunD K d__law_more.name d__law_more.qual (defArgs s__law_more) (defBody s__law_more) (defScope s__law_more) (d__law_more.dvs K) (d__law_more.kws K) (He.fAd K d__law_more.at_) fd := T.d.def_ 17 (d := d__law_more) rfl
theorem Tx.f__law_draw (T : Tx w K mg) : ∃ fd, FunD K d__law_draw.name d__law_draw.qual (defArgs s__law_draw) (defBody s__law_draw) (defScope s__law_draw) (d__law_draw.dvs K) (d__law_draw.kws K) (He.fAd K d__law_draw.at_) fd := T.d.def_ 18 (d := d__law_draw) rfl
theorem Tx.f__law_key (T : Tx w K mg) : ∃ fd, FunD K d__law_key.name d__law_key.qual (defArgs s__law_key) (defBody s__law_key) (defScope s__law_key) (d__law_key.dvs K) (d__law_key.kws K) (He.fAd K d__law_key.at_) fd := T.d.def_ 19 (d := d__law_key) rfl
theorem Tx.f__law_text (T : Tx w K mg) : ∃ fd, FunD K d__law_text.name d__law_text.qual (defArgs s__law_text) (defBody s__law_text) (defScope s__law_text) (d__law_text.dvs K) (d__law_text.kws K) (He.fAd K d__law_text.at_) fd := T.d.def_ 20 (d := d__law_text) rfl
theorem Tx.f__law_path (T : Tx w K mg) : ∃ fd, FunD K d__law_path.name d__law_path.qual (defArgs s__law_path) (defBody s__law_path) (defScope s__law_path) (d__law_path.dvs K) (d__law_path.kws K) (He.fAd K d__law_path.at_) fd := T.d.def_ 21 (d := d__law_path) rfl
theorem Tx.f__law_given (T : Tx w K mg) : ∃ fd, FunD K d__law_given.name d__law_given.qual (defArgs s__law_given) (defBody s__law_given) (defScope s__law_given) (d__law_given.dvs K) (d__law_given.kws K) (He.fAd K d__law_given.at_) fd := T.d.def_ 22 (d := d__law_given) rfl
theorem Tx.f__law_made (T : Tx w K mg) : ∃ fd, FunD K d__law_made.name d__law_made.qual (defArgs s__law_made) (defBody s__law_made) (defScope s__law_made) (d__law_made.dvs K) (d__law_made.kws K) (He.fAd K d__law_made.at_) fd := T.d.def_ 23 (d := d__law_made) rfl
theorem Tx.f__law_fields (T : Tx w K mg) : ∃ fd, FunD K d__law_fields.name d__law_fields.qual (defArgs s__law_fields) (defBody s__law_fields) (defScope s__law_fields) (d__law_fields.dvs K) (d__law_fields.kws K) (He.fAd K d__law_fields.at_) fd := T.d.def_ 24 (d := d__law_fields) rfl
theorem Tx.f__law_classes (T : Tx w K mg) : ∃ fd, FunD K d__law_classes.name d__law_classes.qual (defArgs s__law_classes) (defBody s__law_classes) (defScope s__law_classes) (d__law_classes.dvs K) (d__law_classes.kws K) (He.fAd K d__law_classes.at_) fd := T.d.def_ 25 (d := d__law_classes) rfl
theorem Tx.f__law_raise_early (T : Tx w K mg) : ∃ fd, FunD K d__law_raise_early.name d__law_raise_early.qual (defArgs s__law_raise_early) (defBody s__law_raise_early) (defScope s__law_raise_early) (d__law_raise_early.dvs K) (d__law_raise_early.kws K) (He.fAd K d__law_raise_early.at_) fd := T.d.def_ 26 (d := d__law_raise_early) rfl
theorem Tx.f__law_raise_late (T : Tx w K mg) : ∃ fd, FunD K d__law_raise_late.name d__law_raise_late.qual (defArgs s__law_raise_late) (defBody s__law_raise_late) (defScope s__law_raise_late) (d__law_raise_late.dvs K) (d__law_raise_late.kws K) (He.fAd K d__law_raise_late.at_) fd := T.d.def_ 27 (d := d__law_raise_late) rfl
theorem Tx.f__law_caught (T : Tx w K mg) : ∃ fd, FunD K d__law_caught.name d__law_caught.qual (defArgs s__law_caught) (defBody s__law_caught) (defScope s__law_caught) (d__law_caught.dvs K) (d__law_caught.kws K) (He.fAd K d__law_caught.at_) fd := T.d.def_ 28 (d := d__law_caught) rfl
theorem Tx.f__law_like (T : Tx w K mg) : ∃ fd, FunD K d__law_like.name d__law_like.qual (defArgs s__law_like) (defBody s__law_like) (defScope s__law_like) (d__law_like.dvs K) (d__law_like.kws K) (He.fAd K d__law_like.at_) fd := T.d.def_ 29 (d := d__law_like) rfl
theorem Tx.f_law (T : Tx w K mg) : ∃ fd, FunD K d_law.name d_law.qual (defArgs s_law) (defBody s_law) (defScope s_law) (d_law.dvs K) (d_law.kws K) (He.fAd K d_law.at_) fd := T.d.def_ 30 (d := d_law) rfl
end
abbrev R : PySem.W.OpenRow := PySem.W.OpenLaw.row PySem.Challenge.rw_keysthroughtext_k98_errors_made
abbrev hk : PySem.W.Hook := He.hookX 6 fa fn [] [] extra
def ob (s : PySem.W.SharedT) : He.AlX := He.obsX 6 fa fn [] [] extra (HandSHeadRun.getT s)
theorem ob_eq (s : PySem.W.SharedT) : ob s = hk.obs s.abs := He.obsX_eq (HandSHeadRun.getT_eq s)
theorem run (w : World) : HandSHeadRun.RunEq R (PySem.W.view R.prog [33]) hk ob 30000 ["KeysError", "BadKey", "DoubleKey", "NoKey", "NotText", "TooDeep", "BadOption", "Unwritable", "Unreadable", "Refused", "BadCondition", "BadLabel", "NoLabel", "BadStep", "WrongNumber", "TooMuch", "NoGuard", "_law_source", "_law_more", "_law_draw", "_law_key", "_law_text", "_law_path", "_law_given", "_law_made", "_law_fields", "_law_classes", "_law_raise_early", "_law_raise_late", "_law_caught", "_law_like"] w := by
  intro os
  kernel_rfl
section
variable {w : World} {K : PySem.W.Frag} {mg : Str → Option Value}
theorem Tx.ex' (T : Tx w K mg) {x : Str} (h : x ∈ cn) : ExAll K (He.ga K x) (He.ma K (He.ga K x) "__init__") :=
  exAllB_ok (List.all_eq_true.mp (Bool.and_eq_true_iff.mp T.m).1 x h)
theorem Tx.kit (T : Tx w K mg) {x y : Str} (h : x ∈ cn) (h' : y ∈ cn) : PySem.W.kitOne K (.ref (He.ga K x)) (.ref (He.ga K y)) = some (decide (x = y)) :=
  of_decide_eq_true (List.all_eq_true.mp (List.all_eq_true.mp (Bool.and_eq_true_iff.mp (Bool.and_eq_true_iff.mp T.m).2).1 x h) y h')
theorem Tx.kitK (T : Tx w K mg) {x : Str} (h : x ∈ cn) : PySem.W.kitOne K (.ref (He.ga K x)) (.ref (He.ga K "KeysError")) = some true :=
  of_decide_eq_true (Bool.and_eq_true_iff.mp (List.all_eq_true.mp (Bool.and_eq_true_iff.mp (Bool.and_eq_true_iff.mp T.m).2).2 x h)).1
theorem Tx.kitV (T : Tx w K mg) {x : Str} (h : x ∈ cn) : PySem.W.kitOne K (.ref (He.ga K x)) (.type "ValueError") = some true :=
  of_decide_eq_true (Bool.and_eq_true_iff.mp (Bool.and_eq_true_iff.mp (List.all_eq_true.mp (Bool.and_eq_true_iff.mp (Bool.and_eq_true_iff.mp T.m).2).2 x h)).2).1
theorem Tx.exm (T : Tx w K mg) {x : Str} (h : x ∈ cn) : PySem.W.exmOne K (.ref (He.ga K x)) (.ref (He.ga K "KeysError")) = some true :=
  of_decide_eq_true (Bool.and_eq_true_iff.mp (Bool.and_eq_true_iff.mp (List.all_eq_true.mp (Bool.and_eq_true_iff.mp (Bool.and_eq_true_iff.mp T.m).2).2 x h)).2).2
end
end Kt
set_option Elab.async false
set_option linter.all false
set_option maxRecDepth 100000
set_option maxHeartbeats 4000000
namespace Kt
open PySem PySem.Spec PyProof.Rows L2
section
variable {P : Program} {w : World} {K : PySem.W.Frag} {mg : Str → Option Value} {base : Heap}
theorem ok__law_more (T : Tx w K mg) : Gd P w K base mg CX0 1 (He.fAd K d__law_more.at_) ["_law_source_here"] [] spMore := by
  refine mkGd (T.f__law_more) sc__law_more (fun vs H Q E h => ?_) (fun _ _ _ _ _ _ us hl => match us, hl with | [_], _ => rfl) (fun cdv A outer s H vs Q E hr h => ?_)
  · obtain ⟨p, c, ns, ro, rfl, _⟩ := h
    rfl
  · have hu := hu_of hr
    obtain ⟨p, c, ns, ro, rfl, S, hl, k⟩ := h
    obtain ⟨a, r, sd, h1, ha, hrr⟩ := S.ex
    have np : c ≠ p := S.ne
    have hc := S.cs
    refine ⟨_, (pss_cons (ps_set (i := 1) sc__law_more.nd rfl (Or.inl rfl) (pe_dget hu (pv 0) pe_str (fun _ _ => rfl)))
      (pss_cons (ps_set (i := 2) sc__law_more.nd rfl (Or.inl rfl) (pe_dget hu (pv 0) pe_str (fun _ _ => rfl)))
      (pss_cons (ps_set (i := 3) sc__law_more.nd rfl (Or.inl rfl) (pv 2))
      (C8.pss_cut (ps_if (pt_cmpR op_lt (pv 2) (pe_callB call_len_seq (by rfl) T.n_len PySem.boot_len (pa_cons (pv 1) pa_nil)) (nomark _)) (pss_one (ps_set (i := 3) sc__law_more.nd rfl (Or.inl rfl) (pe_ix ix_list (pv 1) (pv 2) (fun _ _ => rfl)))) pss_nil)
      (pss_cons (ps_set (i := 4) sc__law_more.nd rfl (Or.inl rfl) (pe_op op_mod (pe_callTy call_int1 (by rfl) T.n_int (by decide +kernel) (pa_cons (pe_op op_add (pe_op op_add (pe_op op_mul (pv 3) pe_int) (pe_op op_mul (pe_dget hu (pv 0) pe_str (fun _ _ => rfl)) pe_int)) (pv 2)) pa_nil)) pe_int))
      (pss_cons (ps_dput hu (pv 0) pe_str (pe_op op_add (pv 2) pe_int) rfl)
      (pss_cons (ps_dput hu (pv 0) pe_str (pv 4) rfl)
      (pss_cons (ps_dput hu (pv 0) pe_str (pe_op op_add pe_int (pe_op op_mod (pe_callTy call_int1 (by rfl) T.n_int (by decide +kernel) (pa_cons (pe_op op_add (pe_op op_mul (pv 4) pe_int) pe_int) pa_nil)) pe_int)) rfl)
      (pss_one (ps_if (pt_cmpR op_ge (pe_callB call_abs (by rfl) T.n_abs (by decide +kernel) (pa_cons (pv 3) pa_nil)) (pe_op op_pow pe_int pe_int) (nomark _)) (pss_one (ps_dput hu (pv 0) pe_str (pe_callB call_abs (by rfl) T.n_abs (by decide +kernel) (pa_cons (pv 3) pa_nil)) rfl)) pss_nil)))))))))), ?_⟩
    refine ⟨_, rfl, p, _, rfl, src_cells h1, ?_⟩
    refine ⟨_, rfl, p, _, rfl, src_at h1, ?_⟩
    refine ⟨_, rfl, ?_⟩
    refine ⟨fun σ' H' => ∃ z, H' = H ∧ σ' = [some (.ref p), some (.ref c), some (.int a), some (.int z), none], ?_, ?_⟩
    · refine ⟨_, rfl, _, rfl, c, _, rfl, Or.inl (SqL.of S.cs), _, _, rfl, rfl, _, rfl, ?_⟩
      refine ite2 (fun hlt => ?_) (fun hlt => ⟨_, rfl, rfl⟩)
      have hlt : a < ((ns.map V.int).length : Int) := of_decide_eq_true hlt
      have hlt' : a.toNat < ns.length := by
        rw [List.length_map] at hlt
        omega
      exact ⟨_, rfl, _, rfl, c, _, a, V.int ns[a.toNat], rfl, rfl, SqL.of S.cs, at_of (j := a.toNat) (by omega) (by simp [hlt']), _, rfl, rfl⟩
    rintro σ' H' ⟨z, rfl, rfl⟩
    -- mixed
    refine ⟨_, rfl, _, _, rfl, rfl, Or.inr (by decide), ?_⟩
    refine ⟨_, rfl, p, _, rfl, src_seed h1, _, _, rfl, rfl, Or.inr (by decide), _, _, rfl, rfl, ?_⟩
    refine ⟨_, rfl, _, _, rfl, rfl, .inl ⟨_, rfl, _, _, rfl, rfl, (by show (0 : Int) < 2147483647; decide), ?_⟩⟩
    -- the three stores
    refine ⟨_, rfl, _, _, rfl, rfl, _, rfl, p, _, rfl, put_at h1, ?_⟩
    refine ⟨_, rfl, _, rfl, p, _, rfl, put_seed upd_same, ?_⟩
    refine ⟨_, rfl, _, _, rfl, rfl, Or.inr (by decide), _, _, rfl, rfl, .inl ⟨_, rfl, _, _, rfl, rfl, (by show (0 : Int) < 2147483399; decide), _, _, rfl, rfl, _, rfl, p, _, rfl, put_rest upd_same, ?_⟩⟩
    refine ⟨_, rfl, _, rfl, _, _, rfl, rfl, ⟨by decide, by decide, by decide⟩, _, _, rfl, rfl, _, rfl, ?_⟩
    refine ite2 (fun _ => ?_) (fun _ => ?_)
    · refine ⟨_, rfl, _, rfl, _, rfl, p, _, rfl, put_rest upd_same, ?_⟩
      exact k _ (S.to upd_same (by omega) (by split <;> omega) (((Sb.up.trans Sb.up).trans Sb.up).trans Sb.up)) (((Sb.up.trans Sb.up).trans Sb.up).trans Sb.up)
    · exact k _ (S.to upd_same (by omega) (by omega) ((Sb.up.trans Sb.up).trans Sb.up)) ((Sb.up.trans Sb.up).trans Sb.up)
theorem ok__law_draw (T : Tx w K mg) : Gd P w K base mg CX0 2 (He.fAd K d__law_draw.at_) ["_law_source_here", "_law_many"] [] spDraw := by
  have G__law_more := ok__law_more (P := P) (w := w) (base := base) T
  refine mkGd (T.f__law_draw) sc__law_draw (fun vs H Q E h => ?_) (fun _ _ _ _ _ _ us hl => match us, hl with | [_, _], _ => rfl) (fun cdv A outer s H vs Q E hr h => ?_)
  · obtain ⟨p, c, ns, ro, m, rfl, _⟩ := h
    rfl
  · have hu := hu_of hr
    obtain ⟨p, c, ns, ro, m, rfl, S, hl, hm0, hm1, k⟩ := h
    obtain ⟨a, r, sd, h1, ha, hrr⟩ := S.ex
    refine ⟨_, (C8.pss_cut (ps_if (pt_cmpR op_eq (pe_dget hu (pv 0) pe_str (fun _ _ => rfl)) pe_int (nomark _)) (pss_one (ps_expr (pe_callG G__law_more T.g__law_more (hr.mono (by decide)) pass0 (pa_cons (pv 0) pa_nil)))) pss_nil)
      (pss_cons (ps_set (i := 2) sc__law_draw.nd rfl (Or.inl rfl) (pe_op op_mod (pe_callTy call_int1 (by rfl) T.n_int (by decide +kernel) (pa_cons (pe_dget hu (pv 0) pe_str (fun _ _ => rfl)) pa_nil)) (pv 1)))
      (pss_cons (ps_dput hu (pv 0) pe_str (pe_op op_fdiv (pe_dget hu (pv 0) pe_str (fun _ _ => rfl)) (pv 1)) rfl)
      (pss_one (ps_ret (pv 2)))))), ?_⟩
    refine ⟨fun σ' H' => σ' = [some (.ref p), some (.int m), none] ∧ Src H' p c ns ro ∧ Sb p H H', ?_, ?_⟩
    · refine ⟨_, rfl, p, _, rfl, src_rest h1, rfl, _, rfl, ?_⟩
      refine ite2 (fun _ => ?_) (fun _ => ⟨rfl, S, Sb.refl⟩)
      exact ⟨_, rfl, p, c, ns, ro, rfl, S, hl, fun H' S' k' => ⟨rfl, S', k'⟩⟩
    rintro σ' H' ⟨rfl, S', k'⟩
    obtain ⟨a, r, sd, h1, ha, hrr⟩ := S'.ex
    refine ⟨_, rfl, p, _, rfl, src_rest h1, .inl ⟨_, rfl, _, rfl, _, _, rfl, rfl, hm0, ?_⟩⟩
    refine ⟨_, rfl, p, _, rfl, src_rest h1, _, rfl, _, _, rfl, rfl, ⟨hm0, hm1⟩, _, rfl, p, _, rfl, put_rest h1, ?_⟩
    refine ⟨_, rfl, k _ _ (Int.emod_nonneg _ (by omega)) (Int.emod_lt_of_pos _ hm0) (S'.to upd_same ha (Int.ediv_nonneg hrr (by omega)) Sb.up) (k'.trans Sb.up)⟩
theorem Same.mk' {H H' : Hp} {D : Addr} {o : HO} (e : Same H H') (h : H D = none) : Same H (upd H' D o) := fun b u q => by
  rw [upd_ne (ne_of_none q h)]
  exact e b u q
theorem Same.nu {H : Hp} {D : Addr} {o : HO} (h : H D = none) : Same H (upd H D o) := Same.mk' (Same.refl H) h
theorem Sb.mk {p : Addr} {H H' : Hp} {D : Addr} {o : HO} (e : Sb p H H') (h : H D = none) : Sb p H (upd H' D o) := fun b u n q => by
  rw [upd_ne (ne_of_none q h)]
  exact e b u n q
theorem Sb.of {p : Addr} {H H' : Hp} (e : Same H H') : Sb p H H' := fun b u _ q => e b u q
theorem Same.sb {p : Addr} {H H1 H2 : Hp} (a : Same H H1) (hn : H p = none) (b : Sb p H1 H2) : Same H H2 := fun c o e => b c o (ne_of_none e hn) (a c o e)
def spSource (K : PySem.W.Frag) : Sp := fun vs H Q _ => ∃ (a : Addr) (ns : List Int), vs = [.ref a] ∧ SqL K H a (ns.map V.int) ∧ ns.length ≤ 63 ∧
  ∀ p c H', H p = none → Src H' p c ns 0 → Same H H' → Q (.ref p) H'
theorem ok__law_source (T : Tx w K mg) : Gd P w K base mg CX0 1 (He.fAd K d__law_source.at_) ["_law_script"] [] (spSource K) := by
  refine mkGd (T.f__law_source) sc__law_source (fun vs H Q E h => ?_) (fun _ _ _ _ _ _ us hl => match us, hl with | [_], _ => rfl) (fun cdv A outer s H vs Q E hr h => ?_)
  · obtain ⟨a, ns, rfl, _⟩ := h
    rfl
  · have hu := hu_of hr
    obtain ⟨a, ns, rfl, hS, hl, k⟩ := h
    refine ⟨_, (pss_one (ps_ret (pe_disp (pps_cons pe_str (pe_lc (own := [("_law_cell", 1)]) (g := gName 1) (tt := tYes) rfl sc__law_source.nd (pi_list (pv 0)) (blkOk_by (own := [("_law_cell", 1)]) (N := N__law_source) (sc := defScope s__law_source) (by decide +kernel)) (fun _ _ _ _ _ => (pg_name (i := 1) sc__law_source.nd rfl (Or.inl rfl))) (fun _ _ _ _ _ => pts_nil) (fun _ _ _ _ _ => (pe_callTy call_int1 (by rfl) T.n_int (by decide +kernel) (pa_cons (pv 1) pa_nil)))) (pps_cons pe_str pe_int (pps_cons pe_str pe_int (pps_cons pe_str pe_int (pps_cons pe_str pe_int (pps_cons pe_str pe_int pps_nil)))))) (by rfl) (by rfl) (fun z => by cases z) (by decide)))), ?_⟩
    refine fun p hp => ⟨_, rfl, a, rfl, ⟨_, (Same.nu hp).seq hS⟩, fun D hD => lc_list (K := K) (a := a) (xs := ns.map V.int)
      (fun i H' => Same (upd H p (.dK [])) H' ∧ H' D = some (.lst ((ns.take i).map V.int))) ⟨Same.nu hD, upd_same⟩ (fun i H' _ h => ((Same.nu hp).trans h.1).seq hS) ?_ ?_⟩
    · rintro i x H' hx ⟨k1, k2⟩
      rw [List.getElem?_map] at hx
      cases e : ns[i]? with
      | none => rw [e] at hx; cases hx
      | some z =>
        rw [e] at hx
        cases hx
        have hi : i < ns.length := (List.getElem?_eq_some_iff.mp e).1
        refine ⟨rfl, _, rfl, .inl ⟨_, rfl, _, k2, ?_, Same.mk' k1 hD, ?_⟩⟩
        · rw [List.length_map, List.length_take]
          exact small1000 (by omega)
        · rw [upd_same, List.take_succ, e, Option.toList_some, List.map_append]
          rfl
    · rintro H' ⟨k1, k2⟩
      rw [List.length_map, List.take_length] at k2
      have np : D ≠ p := fun z => by rw [z, upd_same] at hD; cases hD
      refine ⟨k1 p _ upd_same, srcK D 0 0 7 0, rfl, (by show 6 ≤ 15; decide), ?_⟩
      refine k p D _ hp ⟨⟨0, 0, 7, upd_same, Int.le_refl _, Int.le_refl _⟩, by rw [upd_ne np]; exact k2⟩ fun b o e => ?_
      rw [upd_ne (ne_of_none e hp)]
      exact k1 b o (by rw [upd_ne (ne_of_none e hp)]; exact e)
theorem small_log {n : Int} (h : n.natAbs < 2 ^ 64) : n.natAbs.log2 < 1920 := by
  by_cases z : n.natAbs = 0
  · rw [z]
    decide
  · exact Nat.lt_of_lt_of_le ((Nat.log2_lt z).mpr h) (by decide)
theorem four {d : Int} (h0 : 0 ≤ d) (h1 : d < 4) : d = 0 ∨ d = 1 ∨ d = 2 ∨ d = 3 := by omega
/-- a key, or what stands for one: an int or a text -/
def KeyV (v : V) : Prop := (∃ i, v = .int i) ∨ ∃ s : String, v = .str (Str.ofString s)
def spKey : Sp := fun vs H Q _ => ∃ (p c : Addr) (ns : List Int) (ro : Int), vs = [.ref p] ∧ Src H p c ns ro ∧ ns.length ≤ 63 ∧ ∀ v H', KeyV v → Src H' p c ns ro → Sb p H H' → Q v H'
theorem ok__law_key (T : Tx w K mg) : Gd P w K base mg CX0 3 (He.fAd K d__law_key.at_) ["_law_source_here"] [] spKey := by
  have G__law_draw := ok__law_draw (P := P) (w := w) (base := base) T
  refine mkGd (T.f__law_key) sc__law_key (fun vs H Q E h => ?_) (fun _ _ _ _ _ _ us hl => match us, hl with | [_], _ => rfl) (fun cdv A outer s H vs Q E hr h => ?_)
  · obtain ⟨p, c, ns, ro, rfl, _⟩ := h
    rfl
  · have hu := hu_of hr
    obtain ⟨p, c, ns, ro, rfl, S, hl, k⟩ := h
    refine ⟨_, (pss_cons (ps_set (i := 1) sc__law_key.nd rfl (Or.inl rfl) (pe_op op_sub (pe_callG G__law_draw T.g__law_draw (hr.mono (by decide)) pass0 (pa_cons (pv 0) (pa_cons (pe_op op_pow pe_int pe_int) pa_nil))) pe_int))
      (pss_one (ps_ret (pe_ix ix_list (pe_lst (pa_cons (pv 1) (pa_cons (pe_callTy call_str_int (by rfl) T.n_str (by decide +kernel) (pa_cons (pv 1) pa_nil)) (pa_cons pe_str (pa_cons pe_str pa_nil))))) (pe_callG G__law_draw T.g__law_draw (hr.mono (by decide)) pass0 (pa_cons (pv 0) (pa_cons pe_int pa_nil))) (fun _ _ => rfl))))), ?_⟩
    refine ⟨_, rfl, _, _, rfl, rfl, ⟨by decide, by decide, by decide⟩, p, c, ns, ro, _, rfl, S, hl, by decide, by decide, fun d H1 h0 h1 S1 k1 => ⟨_, _, rfl, rfl, ?_⟩⟩
    have hd : (d - 500000).natAbs < 2 ^ 64 := by
      have : d < 10 ^ (6 : Nat) := h1
      omega
    refine ⟨_, rfl, _, rfl, _, rfl, small_log hd, (by show 4 ≤ sizeLine; decide), fun q hq => ?_⟩
    refine ⟨_, rfl, p, c, ns, ro, _, rfl, S1.keep (Same.nu hq), hl, by decide, by decide, fun d2 H2 g0 g1 S2 k2 => ?_⟩
    have hq2 := k2 q _ (fun z => by
      obtain ⟨_, _, _, e, _⟩ := S1.ex
      rw [z, e] at hq
      cases hq) upd_same
    have kk : Sb p H H2 := (k1.trans (Sb.new hq)).trans k2
    rcases four g0 g1 with rfl | rfl | rfl | rfl
    · exact ⟨q, _, _, _, rfl, rfl, SqL.of hq2, at_of (j := 0) rfl rfl, k _ _ (.inl ⟨_, rfl⟩) S2 kk⟩
    · exact ⟨q, _, _, _, rfl, rfl, SqL.of hq2, at_of (j := 1) rfl rfl, k _ _ (.inr ⟨_, rfl⟩) S2 kk⟩
    · exact ⟨q, _, _, _, rfl, rfl, SqL.of hq2, at_of (j := 2) rfl rfl, k _ _ (.inr ⟨_, rfl⟩) S2 kk⟩
    · exact ⟨q, _, _, _, rfl, rfl, SqL.of hq2, at_of (j := 3) rfl rfl, k _ _ (.inr ⟨_, rfl⟩) S2 kk⟩
end
end Kt
set_option Elab.async false
set_option linter.all false
set_option maxRecDepth 100000
set_option maxHeartbeats 4000000
namespace Kt
open PySem PySem.Spec PyProof.Rows L2
/-- an error of the class at C stands at a, its dict at dx with the fields fs -/
def ErrAt (H : Hp) (a C dx : Addr) (fs : List (Str × V)) : Prop := H a = some (exo a C (some dx)) ∧ H dx = some (exd dx fs)
/-- the start of an error class with the fields ns, in order -/
def spErr (K : PySem.W.Frag) (ns : List Str) : Sp := fun vs H Q _ => ∃ (a C : Addr) (ys : List V), vs = .ref a :: ys ∧ ys.length = ns.length ∧ H a = some (exo a C none) ∧ OexC K C ∧ (∀ f ∈ ns, PySem.W.findIn K (.ref C) f = some none) ∧
  ∀ dx H', H dx = none → dx ≠ a → ErrAt H' a C dx (ns.zip ys).reverse → (∀ b o, b ≠ a → H b = some o → H' b = some o) → Q .non H'
section
variable {P : Program} {w : World} {K : PySem.W.Frag} {mg : Str → Option Value} {base : Heap}
theorem ok_BadKey (T : Tx w K mg) : Gd P w K base mg CX0 1 (He.fAd K d_BadKey_init.at_) ["self", "key"] [] (spErr K ["key"]) := by
  refine mkGd (T.f_BadKey_init) sc_BadKey_init (fun vs H Q E h => ?_) (fun _ _ _ _ _ _ us hl => match us, hl with | [_, _], _ => rfl) (fun cdv A outer s H vs Q E hr h => ?_)
  · obtain ⟨a, C, ys, rfl, hl, _⟩ := h
    rw [List.length_cons, hl]
    rfl
  · obtain ⟨a, C, ys, rfl, hl, ha, O, hf, k⟩ := h
    match ys, hl with
    | [y0], _ =>
    refine ⟨_, (pss_one (ps_ost (pv 0) (pv 1))), ?_⟩
    refine ⟨_, rfl, _, rfl, a, C, rfl, O, hf _ (by simp), .inl ⟨ha, fun dx hd hn => ?_⟩⟩
    exact k dx _ hd hn ⟨upd_same, by rw [upd_ne hn]; exact upd_same⟩ fun b o hb e => by rw [upd_ne hb, upd_ne (ne_of_none e hd)]; exact e
theorem ok_DoubleKey (T : Tx w K mg) : Gd P w K base mg CX0 1 (He.fAd K d_DoubleKey_init.at_) ["self", "key"] [] (spErr K ["key"]) := by
  refine mkGd (T.f_DoubleKey_init) sc_DoubleKey_init (fun vs H Q E h => ?_) (fun _ _ _ _ _ _ us hl => match us, hl with | [_, _], _ => rfl) (fun cdv A outer s H vs Q E hr h => ?_)
  · obtain ⟨a, C, ys, rfl, hl, _⟩ := h
    rw [List.length_cons, hl]
    rfl
  · obtain ⟨a, C, ys, rfl, hl, ha, O, hf, k⟩ := h
    match ys, hl with
    | [y0], _ =>
    refine ⟨_, (pss_one (ps_ost (pv 0) (pv 1))), ?_⟩
    refine ⟨_, rfl, _, rfl, a, C, rfl, O, hf _ (by simp), .inl ⟨ha, fun dx hd hn => ?_⟩⟩
    exact k dx _ hd hn ⟨upd_same, by rw [upd_ne hn]; exact upd_same⟩ fun b o hb e => by rw [upd_ne hb, upd_ne (ne_of_none e hd)]; exact e
theorem ok_NoKey (T : Tx w K mg) : Gd P w K base mg CX0 1 (He.fAd K d_NoKey_init.at_) ["self", "key"] [] (spErr K ["key"]) := by
  refine mkGd (T.f_NoKey_init) sc_NoKey_init (fun vs H Q E h => ?_) (fun _ _ _ _ _ _ us hl => match us, hl with | [_, _], _ => rfl) (fun cdv A outer s H vs Q E hr h => ?_)
  · obtain ⟨a, C, ys, rfl, hl, _⟩ := h
    rw [List.length_cons, hl]
    rfl
  · obtain ⟨a, C, ys, rfl, hl, ha, O, hf, k⟩ := h
    match ys, hl with
    | [y0], _ =>
    refine ⟨_, (pss_one (ps_ost (pv 0) (pv 1))), ?_⟩
    refine ⟨_, rfl, _, rfl, a, C, rfl, O, hf _ (by simp), .inl ⟨ha, fun dx hd hn => ?_⟩⟩
    exact k dx _ hd hn ⟨upd_same, by rw [upd_ne hn]; exact upd_same⟩ fun b o hb e => by rw [upd_ne hb, upd_ne (ne_of_none e hd)]; exact e
theorem ok_NotText (T : Tx w K mg) : Gd P w K base mg CX0 1 (He.fAd K d_NotText_init.at_) ["self", "position"] [] (spErr K ["position"]) := by
  refine mkGd (T.f_NotText_init) sc_NotText_init (fun vs H Q E h => ?_) (fun _ _ _ _ _ _ us hl => match us, hl with | [_, _], _ => rfl) (fun cdv A outer s H vs Q E hr h => ?_)
  · obtain ⟨a, C, ys, rfl, hl, _⟩ := h
    rw [List.length_cons, hl]
    rfl
  · obtain ⟨a, C, ys, rfl, hl, ha, O, hf, k⟩ := h
    match ys, hl with
    | [y0], _ =>
    refine ⟨_, (pss_one (ps_ost (pv 0) (pv 1))), ?_⟩
    refine ⟨_, rfl, _, rfl, a, C, rfl, O, hf _ (by simp), .inl ⟨ha, fun dx hd hn => ?_⟩⟩
    exact k dx _ hd hn ⟨upd_same, by rw [upd_ne hn]; exact upd_same⟩ fun b o hb e => by rw [upd_ne hb, upd_ne (ne_of_none e hd)]; exact e
theorem ok_TooDeep (T : Tx w K mg) : Gd P w K base mg CX0 1 (He.fAd K d_TooDeep_init.at_) ["self", "position"] [] (spErr K ["position"]) := by
  refine mkGd (T.f_TooDeep_init) sc_TooDeep_init (fun vs H Q E h => ?_) (fun _ _ _ _ _ _ us hl => match us, hl with | [_, _], _ => rfl) (fun cdv A outer s H vs Q E hr h => ?_)
  · obtain ⟨a, C, ys, rfl, hl, _⟩ := h
    rw [List.length_cons, hl]
    rfl
  · obtain ⟨a, C, ys, rfl, hl, ha, O, hf, k⟩ := h
    match ys, hl with
    | [y0], _ =>
    refine ⟨_, (pss_one (ps_ost (pv 0) (pv 1))), ?_⟩
    refine ⟨_, rfl, _, rfl, a, C, rfl, O, hf _ (by simp), .inl ⟨ha, fun dx hd hn => ?_⟩⟩
    exact k dx _ hd hn ⟨upd_same, by rw [upd_ne hn]; exact upd_same⟩ fun b o hb e => by rw [upd_ne hb, upd_ne (ne_of_none e hd)]; exact e
theorem ok_BadOption (T : Tx w K mg) : Gd P w K base mg CX0 1 (He.fAd K d_BadOption_init.at_) ["self", "name", "value"] [] (spErr K ["name", "value"]) := by
  refine mkGd (T.f_BadOption_init) sc_BadOption_init (fun vs H Q E h => ?_) (fun _ _ _ _ _ _ us hl => match us, hl with | [_, _, _], _ => rfl) (fun cdv A outer s H vs Q E hr h => ?_)
  · obtain ⟨a, C, ys, rfl, hl, _⟩ := h
    rw [List.length_cons, hl]
    rfl
  · obtain ⟨a, C, ys, rfl, hl, ha, O, hf, k⟩ := h
    match ys, hl with
    | [y0, y1], _ =>
    refine ⟨_, (pss_cons (ps_ost (pv 0) (pv 1))
      (pss_one (ps_ost (pv 0) (pv 2)))), ?_⟩
    refine ⟨_, rfl, _, rfl, a, C, rfl, O, hf _ (by simp), .inl ⟨ha, fun dx hd hn => ?_⟩⟩
    refine ⟨_, rfl, _, rfl, a, C, rfl, O, hf _ (by simp), .inr ⟨dx, _, upd_same, (by rw [upd_ne hn]; exact upd_same), (by show 1 ≤ 900; decide), ?_⟩⟩
    exact k dx _ hd hn ⟨by rw [upd_ne hn.symm]; exact upd_same, upd_same⟩ fun b o hb e => by rw [upd_ne (ne_of_none e hd), upd_ne hb, upd_ne (ne_of_none e hd)]; exact e
theorem ok_Unwritable (T : Tx w K mg) : Gd P w K base mg CX0 1 (He.fAd K d_Unwritable_init.at_) ["self", "reason", "path"] [] (spErr K ["reason", "path"]) := by
  refine mkGd (T.f_Unwritable_init) sc_Unwritable_init (fun vs H Q E h => ?_) (fun _ _ _ _ _ _ us hl => match us, hl with | [_, _, _], _ => rfl) (fun cdv A outer s H vs Q E hr h => ?_)
  · obtain ⟨a, C, ys, rfl, hl, _⟩ := h
    rw [List.length_cons, hl]
    rfl
  · obtain ⟨a, C, ys, rfl, hl, ha, O, hf, k⟩ := h
    match ys, hl with
    | [y0, y1], _ =>
    refine ⟨_, (pss_cons (ps_ost (pv 0) (pv 1))
      (pss_one (ps_ost (pv 0) (pv 2)))), ?_⟩
    refine ⟨_, rfl, _, rfl, a, C, rfl, O, hf _ (by simp), .inl ⟨ha, fun dx hd hn => ?_⟩⟩
    refine ⟨_, rfl, _, rfl, a, C, rfl, O, hf _ (by simp), .inr ⟨dx, _, upd_same, (by rw [upd_ne hn]; exact upd_same), (by show 1 ≤ 900; decide), ?_⟩⟩
    exact k dx _ hd hn ⟨by rw [upd_ne hn.symm]; exact upd_same, upd_same⟩ fun b o hb e => by rw [upd_ne (ne_of_none e hd), upd_ne hb, upd_ne (ne_of_none e hd)]; exact e
theorem ok_Unreadable (T : Tx w K mg) : Gd P w K base mg CX0 1 (He.fAd K d_Unreadable_init.at_) ["self", "reason", "path"] [] (spErr K ["reason", "path"]) := by
  refine mkGd (T.f_Unreadable_init) sc_Unreadable_init (fun vs H Q E h => ?_) (fun _ _ _ _ _ _ us hl => match us, hl with | [_, _, _], _ => rfl) (fun cdv A outer s H vs Q E hr h => ?_)
  · obtain ⟨a, C, ys, rfl, hl, _⟩ := h
    rw [List.length_cons, hl]
    rfl
  · obtain ⟨a, C, ys, rfl, hl, ha, O, hf, k⟩ := h
    match ys, hl with
    | [y0, y1], _ =>
    refine ⟨_, (pss_cons (ps_ost (pv 0) (pv 1))
      (pss_one (ps_ost (pv 0) (pv 2)))), ?_⟩
    refine ⟨_, rfl, _, rfl, a, C, rfl, O, hf _ (by simp), .inl ⟨ha, fun dx hd hn => ?_⟩⟩
    refine ⟨_, rfl, _, rfl, a, C, rfl, O, hf _ (by simp), .inr ⟨dx, _, upd_same, (by rw [upd_ne hn]; exact upd_same), (by show 1 ≤ 900; decide), ?_⟩⟩
    exact k dx _ hd hn ⟨by rw [upd_ne hn.symm]; exact upd_same, upd_same⟩ fun b o hb e => by rw [upd_ne (ne_of_none e hd), upd_ne hb, upd_ne (ne_of_none e hd)]; exact e
theorem ok_Refused (T : Tx w K mg) : Gd P w K base mg CX0 1 (He.fAd K d_Refused_init.at_) ["self", "side", "reason", "path"] [] (spErr K ["side", "reason", "path"]) := by
  refine mkGd (T.f_Refused_init) sc_Refused_init (fun vs H Q E h => ?_) (fun _ _ _ _ _ _ us hl => match us, hl with | [_, _, _, _], _ => rfl) (fun cdv A outer s H vs Q E hr h => ?_)
  · obtain ⟨a, C, ys, rfl, hl, _⟩ := h
    rw [List.length_cons, hl]
    rfl
  · obtain ⟨a, C, ys, rfl, hl, ha, O, hf, k⟩ := h
    match ys, hl with
    | [y0, y1, y2], _ =>
    refine ⟨_, (pss_cons (ps_ost (pv 0) (pv 1))
      (pss_cons (ps_ost (pv 0) (pv 2))
      (pss_one (ps_ost (pv 0) (pv 3))))), ?_⟩
    refine ⟨_, rfl, _, rfl, a, C, rfl, O, hf _ (by simp), .inl ⟨ha, fun dx hd hn => ?_⟩⟩
    refine ⟨_, rfl, _, rfl, a, C, rfl, O, hf _ (by simp), .inr ⟨dx, _, upd_same, (by rw [upd_ne hn]; exact upd_same), (by show 1 ≤ 900; decide), ?_⟩⟩
    refine ⟨_, rfl, _, rfl, a, C, rfl, O, hf _ (by simp), .inr ⟨dx, _, (by rw [upd_ne hn.symm]; exact upd_same), upd_same, (by show 2 ≤ 900; decide), ?_⟩⟩
    exact k dx _ hd hn ⟨by rw [upd_ne hn.symm, upd_ne hn.symm]; exact upd_same, upd_same⟩ fun b o hb e => by rw [upd_ne (ne_of_none e hd), upd_ne (ne_of_none e hd), upd_ne hb, upd_ne (ne_of_none e hd)]; exact e
theorem ok_BadCondition (T : Tx w K mg) : Gd P w K base mg CX0 1 (He.fAd K d_BadCondition_init.at_) ["self", "value"] [] (spErr K ["value"]) := by
  refine mkGd (T.f_BadCondition_init) sc_BadCondition_init (fun vs H Q E h => ?_) (fun _ _ _ _ _ _ us hl => match us, hl with | [_, _], _ => rfl) (fun cdv A outer s H vs Q E hr h => ?_)
  · obtain ⟨a, C, ys, rfl, hl, _⟩ := h
    rw [List.length_cons, hl]
    rfl
  · obtain ⟨a, C, ys, rfl, hl, ha, O, hf, k⟩ := h
    match ys, hl with
    | [y0], _ =>
    refine ⟨_, (pss_one (ps_ost (pv 0) (pv 1))), ?_⟩
    refine ⟨_, rfl, _, rfl, a, C, rfl, O, hf _ (by simp), .inl ⟨ha, fun dx hd hn => ?_⟩⟩
    exact k dx _ hd hn ⟨upd_same, by rw [upd_ne hn]; exact upd_same⟩ fun b o hb e => by rw [upd_ne hb, upd_ne (ne_of_none e hd)]; exact e
theorem ok_BadLabel (T : Tx w K mg) : Gd P w K base mg CX0 1 (He.fAd K d_BadLabel_init.at_) ["self", "name"] [] (spErr K ["name"]) := by
  refine mkGd (T.f_BadLabel_init) sc_BadLabel_init (fun vs H Q E h => ?_) (fun _ _ _ _ _ _ us hl => match us, hl with | [_, _], _ => rfl) (fun cdv A outer s H vs Q E hr h => ?_)
  · obtain ⟨a, C, ys, rfl, hl, _⟩ := h
    rw [List.length_cons, hl]
    rfl
  · obtain ⟨a, C, ys, rfl, hl, ha, O, hf, k⟩ := h
    match ys, hl with
    | [y0], _ =>
    refine ⟨_, (pss_one (ps_ost (pv 0) (pv 1))), ?_⟩
    refine ⟨_, rfl, _, rfl, a, C, rfl, O, hf _ (by simp), .inl ⟨ha, fun dx hd hn => ?_⟩⟩
    exact k dx _ hd hn ⟨upd_same, by rw [upd_ne hn]; exact upd_same⟩ fun b o hb e => by rw [upd_ne hb, upd_ne (ne_of_none e hd)]; exact e
theorem ok_NoLabel (T : Tx w K mg) : Gd P w K base mg CX0 1 (He.fAd K d_NoLabel_init.at_) ["self", "label"] [] (spErr K ["label"]) := by
  refine mkGd (T.f_NoLabel_init) sc_NoLabel_init (fun vs H Q E h => ?_) (fun _ _ _ _ _ _ us hl => match us, hl with | [_, _], _ => rfl) (fun cdv A outer s H vs Q E hr h => ?_)
  · obtain ⟨a, C, ys, rfl, hl, _⟩ := h
    rw [List.length_cons, hl]
    rfl
  · obtain ⟨a, C, ys, rfl, hl, ha, O, hf, k⟩ := h
    match ys, hl with
    | [y0], _ =>
    refine ⟨_, (pss_one (ps_ost (pv 0) (pv 1))), ?_⟩
    refine ⟨_, rfl, _, rfl, a, C, rfl, O, hf _ (by simp), .inl ⟨ha, fun dx hd hn => ?_⟩⟩
    exact k dx _ hd hn ⟨upd_same, by rw [upd_ne hn]; exact upd_same⟩ fun b o hb e => by rw [upd_ne hb, upd_ne (ne_of_none e hd)]; exact e
theorem ok_BadStep (T : Tx w K mg) : Gd P w K base mg CX0 1 (He.fAd K d_BadStep_init.at_) ["self", "index"] [] (spErr K ["index"]) := by
  refine mkGd (T.f_BadStep_init) sc_BadStep_init (fun vs H Q E h => ?_) (fun _ _ _ _ _ _ us hl => match us, hl with | [_, _], _ => rfl) (fun cdv A outer s H vs Q E hr h => ?_)
  · obtain ⟨a, C, ys, rfl, hl, _⟩ := h
    rw [List.length_cons, hl]
    rfl
  · obtain ⟨a, C, ys, rfl, hl, ha, O, hf, k⟩ := h
    match ys, hl with
    | [y0], _ =>
    refine ⟨_, (pss_one (ps_ost (pv 0) (pv 1))), ?_⟩
    refine ⟨_, rfl, _, rfl, a, C, rfl, O, hf _ (by simp), .inl ⟨ha, fun dx hd hn => ?_⟩⟩
    exact k dx _ hd hn ⟨upd_same, by rw [upd_ne hn]; exact upd_same⟩ fun b o hb e => by rw [upd_ne hb, upd_ne (ne_of_none e hd)]; exact e
theorem ok_WrongNumber (T : Tx w K mg) : Gd P w K base mg CX0 1 (He.fAd K d_WrongNumber_init.at_) ["self", "wanted", "given"] [] (spErr K ["wanted", "given"]) := by
  refine mkGd (T.f_WrongNumber_init) sc_WrongNumber_init (fun vs H Q E h => ?_) (fun _ _ _ _ _ _ us hl => match us, hl with | [_, _, _], _ => rfl) (fun cdv A outer s H vs Q E hr h => ?_)
  · obtain ⟨a, C, ys, rfl, hl, _⟩ := h
    rw [List.length_cons, hl]
    rfl
  · obtain ⟨a, C, ys, rfl, hl, ha, O, hf, k⟩ := h
    match ys, hl with
    | [y0, y1], _ =>
    refine ⟨_, (pss_cons (ps_ost (pv 0) (pv 1))
      (pss_one (ps_ost (pv 0) (pv 2)))), ?_⟩
    refine ⟨_, rfl, _, rfl, a, C, rfl, O, hf _ (by simp), .inl ⟨ha, fun dx hd hn => ?_⟩⟩
    refine ⟨_, rfl, _, rfl, a, C, rfl, O, hf _ (by simp), .inr ⟨dx, _, upd_same, (by rw [upd_ne hn]; exact upd_same), (by show 1 ≤ 900; decide), ?_⟩⟩
    exact k dx _ hd hn ⟨by rw [upd_ne hn.symm]; exact upd_same, upd_same⟩ fun b o hb e => by rw [upd_ne (ne_of_none e hd), upd_ne hb, upd_ne (ne_of_none e hd)]; exact e
theorem ok_TooMuch (T : Tx w K mg) : Gd P w K base mg CX0 1 (He.fAd K d_TooMuch_init.at_) ["self", "what"] [] (spErr K ["what"]) := by
  refine mkGd (T.f_TooMuch_init) sc_TooMuch_init (fun vs H Q E h => ?_) (fun _ _ _ _ _ _ us hl => match us, hl with | [_, _], _ => rfl) (fun cdv A outer s H vs Q E hr h => ?_)
  · obtain ⟨a, C, ys, rfl, hl, _⟩ := h
    rw [List.length_cons, hl]
    rfl
  · obtain ⟨a, C, ys, rfl, hl, ha, O, hf, k⟩ := h
    match ys, hl with
    | [y0], _ =>
    refine ⟨_, (pss_one (ps_ost (pv 0) (pv 1))), ?_⟩
    refine ⟨_, rfl, _, rfl, a, C, rfl, O, hf _ (by simp), .inl ⟨ha, fun dx hd hn => ?_⟩⟩
    exact k dx _ hd hn ⟨upd_same, by rw [upd_ne hn]; exact upd_same⟩ fun b o hb e => by rw [upd_ne hb, upd_ne (ne_of_none e hd)]; exact e
theorem ok_NoGuard (T : Tx w K mg) : Gd P w K base mg CX0 1 (He.fAd K d_NoGuard_init.at_) ["self", "name"] [] (spErr K ["name"]) := by
  refine mkGd (T.f_NoGuard_init) sc_NoGuard_init (fun vs H Q E h => ?_) (fun _ _ _ _ _ _ us hl => match us, hl with | [_, _], _ => rfl) (fun cdv A outer s H vs Q E hr h => ?_)
  · obtain ⟨a, C, ys, rfl, hl, _⟩ := h
    rw [List.length_cons, hl]
    rfl
  · obtain ⟨a, C, ys, rfl, hl, ha, O, hf, k⟩ := h
    match ys, hl with
    | [y0], _ =>
    refine ⟨_, (pss_one (ps_ost (pv 0) (pv 1))), ?_⟩
    refine ⟨_, rfl, _, rfl, a, C, rfl, O, hf _ (by simp), .inl ⟨ha, fun dx hd hn => ?_⟩⟩
    exact k dx _ hd hn ⟨upd_same, by rw [upd_ne hn]; exact upd_same⟩ fun b o hb e => by rw [upd_ne hb, upd_ne (ne_of_none e hd)]; exact e
end
end Kt
set_option Elab.async false
set_option linter.all false
set_option maxRecDepth 100000
set_option maxHeartbeats 4000000
namespace Kt
open PySem PySem.Spec PyProof.Rows L2
/-- the fields of the n-th error class; its name -/
def fns : Nat → List Str
  | 0 => ["key"]
  | 1 => ["key"]
  | 2 => ["key"]
  | 3 => ["position"]
  | 4 => ["position"]
  | 5 => ["name", "value"]
  | 6 => ["reason", "path"]
  | 7 => ["reason", "path"]
  | 8 => ["side", "reason", "path"]
  | 9 => ["value"]
  | 10 => ["name"]
  | 11 => ["label"]
  | 12 => ["index"]
  | 13 => ["wanted", "given"]
  | 14 => ["what"]
  | 15 => ["name"]
  | _ => []
def cnm : Nat → Str
  | 0 => "BadKey"
  | 1 => "DoubleKey"
  | 2 => "NoKey"
  | 3 => "NotText"
  | 4 => "TooDeep"
  | 5 => "BadOption"
  | 6 => "Unwritable"
  | 7 => "Unreadable"
  | 8 => "Refused"
  | 9 => "BadCondition"
  | 10 => "BadLabel"
  | 11 => "NoLabel"
  | 12 => "BadStep"
  | 13 => "WrongNumber"
  | 14 => "TooMuch"
  | 15 => "NoGuard"
  | _ => ""
theorem cnm_mem : ∀ {n : Nat}, n < 16 → cnm n ∈ cn := by
  intro n h
  match n, h with
  | 0, _ => decide +kernel
  | 1, _ => decide +kernel
  | 2, _ => decide +kernel
  | 3, _ => decide +kernel
  | 4, _ => decide +kernel
  | 5, _ => decide +kernel
  | 6, _ => decide +kernel
  | 7, _ => decide +kernel
  | 8, _ => decide +kernel
  | 9, _ => decide +kernel
  | 10, _ => decide +kernel
  | 11, _ => decide +kernel
  | 12, _ => decide +kernel
  | 13, _ => decide +kernel
  | 14, _ => decide +kernel
  | 15, _ => decide +kernel
  | n + 16, h => omega
theorem cnm_inj : ∀ {n m : Nat}, n < 16 → m < 16 → (cnm n = cnm m ↔ n = m) := by
  have key : ∀ n < 16, ∀ m < 16, (cnm n = cnm m ↔ n = m) := by decide +kernel
  intro n m hn hm
  exact key n hn m hm
def flv (n : Nat) (a b c : V) : List (Str × V) := ((fns n).zip [a, b, c]).reverse
abbrev ca (K : PySem.W.Frag) (n : Nat) : Addr := He.ga K (cnm n)
theorem natk {n : Nat} {m : Nat} (h : decide (V.int (n : Int) = V.int (m : Int)) = true) : n = m := by
  have e : (n : Int) = m := V.int.inj (of_decide_eq_true h)
  exact Int.ofNat.inj e
theorem natn {n : Nat} {m : Nat} (h : ¬ decide (V.int (n : Int) = V.int (m : Int)) = true) : n ≠ m := fun e => h (by rw [e]; simp)
theorem made_end {H H1 : Hp} {x C D dx q : Addr} {fs : List (Str × V)} {o : HO} (hx : H x = none) (he : ErrAt H1 x C dx fs) (hk : ∀ b o, b ≠ x → (upd H x (exo x D none)) b = some o → H1 b = some o) (hq : H1 q = none) :
    ErrAt (upd H1 q o) x C dx fs ∧ Same H (upd H1 q o) := by
  refine ⟨⟨by rw [upd_ne (ne_of_none he.1 hq)]; exact he.1, by rw [upd_ne (ne_of_none he.2 hq)]; exact he.2⟩, fun b u e => ?_⟩
  rw [upd_ne (ne_of_none (hk b u (ne_of_none e hx) (by rw [upd_ne (ne_of_none e hx)]; exact e)) hq)]
  exact hk b u (ne_of_none e hx) (by rw [upd_ne (ne_of_none e hx)]; exact e)
def spMade (K : PySem.W.Frag) : Sp := fun vs H Q _ => ∃ (n : Nat) (a b c : V), vs = [.int (n : Int), a, b, c] ∧ n < 16 ∧
  ∀ q x dx H', H' q = some (.tup [.ref x, .int ((fns n).length : Int)]) → ErrAt H' x (ca K n) dx (flv n a b c) → H x = none → Same H H' → Q (.ref q) H'
section
variable {P : Program} {w : World} {K : PySem.W.Frag} {mg : Str → Option Value} {base : Heap}
theorem ok__law_made (T : Tx w K mg) : Gd P w K base mg CX0 3 (He.fAd K d__law_made.at_) ["_law_which", "_law_a", "_law_b", "_law_c"] [] (spMade K) := by
  have G_BadKey := ok_BadKey (P := P) (w := w) (base := base) T
  have G_DoubleKey := ok_DoubleKey (P := P) (w := w) (base := base) T
  have G_NoKey := ok_NoKey (P := P) (w := w) (base := base) T
  have G_NotText := ok_NotText (P := P) (w := w) (base := base) T
  have G_TooDeep := ok_TooDeep (P := P) (w := w) (base := base) T
  have G_BadOption := ok_BadOption (P := P) (w := w) (base := base) T
  have G_Unwritable := ok_Unwritable (P := P) (w := w) (base := base) T
  have G_Unreadable := ok_Unreadable (P := P) (w := w) (base := base) T
  have G_Refused := ok_Refused (P := P) (w := w) (base := base) T
  have G_BadCondition := ok_BadCondition (P := P) (w := w) (base := base) T
  have G_BadLabel := ok_BadLabel (P := P) (w := w) (base := base) T
  have G_NoLabel := ok_NoLabel (P := P) (w := w) (base := base) T
  have G_BadStep := ok_BadStep (P := P) (w := w) (base := base) T
  have G_WrongNumber := ok_WrongNumber (P := P) (w := w) (base := base) T
  have G_TooMuch := ok_TooMuch (P := P) (w := w) (base := base) T
  have G_NoGuard := ok_NoGuard (P := P) (w := w) (base := base) T
  refine mkGd (T.f__law_made) sc__law_made (fun vs H Q E h => ?_) (fun _ _ _ _ _ _ us hl => match us, hl with | [_, _, _, _], _ => rfl) (fun cdv A outer s H vs Q E hr h => ?_)
  · obtain ⟨n, a, b, c, rfl, _⟩ := h
    rfl
  · have hu := hu_of hr
    obtain ⟨n, a, b, c, rfl, hn, k⟩ := h
    refine ⟨_, (pss_cons (ps_if (pt_cmpR op_eq (pv 0) pe_int (nomark _)) (pss_one (ps_ret (pe_tup (pa_cons (pe_mkG (T.ex' (x := "BadKey") (by decide +kernel)) G_BadKey T.g_BadKey (hr.mono (by decide)) pass0 (pa_cons (pv 1) pa_nil)) (pa_cons pe_int pa_nil))))) pss_nil)
      (pss_cons (ps_if (pt_cmpR op_eq (pv 0) pe_int (nomark _)) (pss_one (ps_ret (pe_tup (pa_cons (pe_mkG (T.ex' (x := "DoubleKey") (by decide +kernel)) G_DoubleKey T.g_DoubleKey (hr.mono (by decide)) pass0 (pa_cons (pv 1) pa_nil)) (pa_cons pe_int pa_nil))))) pss_nil)
      (pss_cons (ps_if (pt_cmpR op_eq (pv 0) pe_int (nomark _)) (pss_one (ps_ret (pe_tup (pa_cons (pe_mkG (T.ex' (x := "NoKey") (by decide +kernel)) G_NoKey T.g_NoKey (hr.mono (by decide)) pass0 (pa_cons (pv 1) pa_nil)) (pa_cons pe_int pa_nil))))) pss_nil)
      (pss_cons (ps_if (pt_cmpR op_eq (pv 0) pe_int (nomark _)) (pss_one (ps_ret (pe_tup (pa_cons (pe_mkG (T.ex' (x := "NotText") (by decide +kernel)) G_NotText T.g_NotText (hr.mono (by decide)) pass0 (pa_cons (pv 1) pa_nil)) (pa_cons pe_int pa_nil))))) pss_nil)
      (pss_cons (ps_if (pt_cmpR op_eq (pv 0) pe_int (nomark _)) (pss_one (ps_ret (pe_tup (pa_cons (pe_mkG (T.ex' (x := "TooDeep") (by decide +kernel)) G_TooDeep T.g_TooDeep (hr.mono (by decide)) pass0 (pa_cons (pv 1) pa_nil)) (pa_cons pe_int pa_nil))))) pss_nil)
      (pss_cons (ps_if (pt_cmpR op_eq (pv 0) pe_int (nomark _)) (pss_one (ps_ret (pe_tup (pa_cons (pe_mkG (T.ex' (x := "BadOption") (by decide +kernel)) G_BadOption T.g_BadOption (hr.mono (by decide)) pass0 (pa_cons (pv 1) (pa_cons (pv 2) pa_nil))) (pa_cons pe_int pa_nil))))) pss_nil)
      (pss_cons (ps_if (pt_cmpR op_eq (pv 0) pe_int (nomark _)) (pss_one (ps_ret (pe_tup (pa_cons (pe_mkG (T.ex' (x := "Unwritable") (by decide +kernel)) G_Unwritable T.g_Unwritable (hr.mono (by decide)) pass0 (pa_cons (pv 1) (pa_cons (pv 2) pa_nil))) (pa_cons pe_int pa_nil))))) pss_nil)
      (pss_cons (ps_if (pt_cmpR op_eq (pv 0) pe_int (nomark _)) (pss_one (ps_ret (pe_tup (pa_cons (pe_mkG (T.ex' (x := "Unreadable") (by decide +kernel)) G_Unreadable T.g_Unreadable (hr.mono (by decide)) pass0 (pa_cons (pv 1) (pa_cons (pv 2) pa_nil))) (pa_cons pe_int pa_nil))))) pss_nil)
      (pss_cons (ps_if (pt_cmpR op_eq (pv 0) pe_int (nomark _)) (pss_one (ps_ret (pe_tup (pa_cons (pe_mkG (T.ex' (x := "Refused") (by decide +kernel)) G_Refused T.g_Refused (hr.mono (by decide)) pass0 (pa_cons (pv 1) (pa_cons (pv 2) (pa_cons (pv 3) pa_nil)))) (pa_cons pe_int pa_nil))))) pss_nil)
      (pss_cons (ps_if (pt_cmpR op_eq (pv 0) pe_int (nomark _)) (pss_one (ps_ret (pe_tup (pa_cons (pe_mkG (T.ex' (x := "BadCondition") (by decide +kernel)) G_BadCondition T.g_BadCondition (hr.mono (by decide)) pass0 (pa_cons (pv 1) pa_nil)) (pa_cons pe_int pa_nil))))) pss_nil)
      (pss_cons (ps_if (pt_cmpR op_eq (pv 0) pe_int (nomark _)) (pss_one (ps_ret (pe_tup (pa_cons (pe_mkG (T.ex' (x := "BadLabel") (by decide +kernel)) G_BadLabel T.g_BadLabel (hr.mono (by decide)) pass0 (pa_cons (pv 1) pa_nil)) (pa_cons pe_int pa_nil))))) pss_nil)
      (pss_cons (ps_if (pt_cmpR op_eq (pv 0) pe_int (nomark _)) (pss_one (ps_ret (pe_tup (pa_cons (pe_mkG (T.ex' (x := "NoLabel") (by decide +kernel)) G_NoLabel T.g_NoLabel (hr.mono (by decide)) pass0 (pa_cons (pv 1) pa_nil)) (pa_cons pe_int pa_nil))))) pss_nil)
      (pss_cons (ps_if (pt_cmpR op_eq (pv 0) pe_int (nomark _)) (pss_one (ps_ret (pe_tup (pa_cons (pe_mkG (T.ex' (x := "BadStep") (by decide +kernel)) G_BadStep T.g_BadStep (hr.mono (by decide)) pass0 (pa_cons (pv 1) pa_nil)) (pa_cons pe_int pa_nil))))) pss_nil)
      (pss_cons (ps_if (pt_cmpR op_eq (pv 0) pe_int (nomark _)) (pss_one (ps_ret (pe_tup (pa_cons (pe_mkG (T.ex' (x := "WrongNumber") (by decide +kernel)) G_WrongNumber T.g_WrongNumber (hr.mono (by decide)) pass0 (pa_cons (pv 1) (pa_cons (pv 2) pa_nil))) (pa_cons pe_int pa_nil))))) pss_nil)
      (pss_cons (ps_if (pt_cmpR op_eq (pv 0) pe_int (nomark _)) (pss_one (ps_ret (pe_tup (pa_cons (pe_mkG (T.ex' (x := "TooMuch") (by decide +kernel)) G_TooMuch T.g_TooMuch (hr.mono (by decide)) pass0 (pa_cons (pv 1) pa_nil)) (pa_cons pe_int pa_nil))))) pss_nil)
      (pss_one (ps_ret (pe_tup (pa_cons (pe_mkG (T.ex' (x := "NoGuard") (by decide +kernel)) G_NoGuard T.g_NoGuard (hr.mono (by decide)) pass0 (pa_cons (pv 1) pa_nil)) (pa_cons pe_int pa_nil)))))))))))))))))))), ?_⟩
    refine ⟨_, rfl, rfl, _, rfl, ite2 (fun h => ?_) (fun h0 => ?_)⟩
    · obtain rfl : n = 0 := natk (m := 0) h
      refine ⟨_, rfl, (by show 1 ≤ 1000; decide), fun x hx => ⟨x, _, _, rfl, rfl, upd_same, (T.ex' (x := "BadKey") (by decide +kernel)).o, ?_, fun dx H1 _ _ he hk => ⟨rfl, (by show 2 ≤ sizeLine; decide), fun q hq => ?_⟩⟩⟩
      · intro f hf
        simp only [List.mem_cons, List.mem_nil_iff, or_false] at hf
        subst hf
        exact T.a_BadKey_key
      · obtain ⟨e1, e2⟩ := made_end (q := q) (o := .tup [.ref x, .int 1]) hx he hk hq
        exact k q x dx _ upd_same e1 hx e2
    refine ⟨_, rfl, rfl, _, rfl, ite2 (fun h => ?_) (fun h1 => ?_)⟩
    · obtain rfl : n = 1 := natk (m := 1) h
      refine ⟨_, rfl, (by show 1 ≤ 1000; decide), fun x hx => ⟨x, _, _, rfl, rfl, upd_same, (T.ex' (x := "DoubleKey") (by decide +kernel)).o, ?_, fun dx H1 _ _ he hk => ⟨rfl, (by show 2 ≤ sizeLine; decide), fun q hq => ?_⟩⟩⟩
      · intro f hf
        simp only [List.mem_cons, List.mem_nil_iff, or_false] at hf
        subst hf
        exact T.a_DoubleKey_key
      · obtain ⟨e1, e2⟩ := made_end (q := q) (o := .tup [.ref x, .int 1]) hx he hk hq
        exact k q x dx _ upd_same e1 hx e2
    refine ⟨_, rfl, rfl, _, rfl, ite2 (fun h => ?_) (fun h2 => ?_)⟩
    · obtain rfl : n = 2 := natk (m := 2) h
      refine ⟨_, rfl, (by show 1 ≤ 1000; decide), fun x hx => ⟨x, _, _, rfl, rfl, upd_same, (T.ex' (x := "NoKey") (by decide +kernel)).o, ?_, fun dx H1 _ _ he hk => ⟨rfl, (by show 2 ≤ sizeLine; decide), fun q hq => ?_⟩⟩⟩
      · intro f hf
        simp only [List.mem_cons, List.mem_nil_iff, or_false] at hf
        subst hf
        exact T.a_NoKey_key
      · obtain ⟨e1, e2⟩ := made_end (q := q) (o := .tup [.ref x, .int 1]) hx he hk hq
        exact k q x dx _ upd_same e1 hx e2
    refine ⟨_, rfl, rfl, _, rfl, ite2 (fun h => ?_) (fun h3 => ?_)⟩
    · obtain rfl : n = 3 := natk (m := 3) h
      refine ⟨_, rfl, (by show 1 ≤ 1000; decide), fun x hx => ⟨x, _, _, rfl, rfl, upd_same, (T.ex' (x := "NotText") (by decide +kernel)).o, ?_, fun dx H1 _ _ he hk => ⟨rfl, (by show 2 ≤ sizeLine; decide), fun q hq => ?_⟩⟩⟩
      · intro f hf
        simp only [List.mem_cons, List.mem_nil_iff, or_false] at hf
        subst hf
        exact T.a_NotText_position
      · obtain ⟨e1, e2⟩ := made_end (q := q) (o := .tup [.ref x, .int 1]) hx he hk hq
        exact k q x dx _ upd_same e1 hx e2
    refine ⟨_, rfl, rfl, _, rfl, ite2 (fun h => ?_) (fun h4 => ?_)⟩
    · obtain rfl : n = 4 := natk (m := 4) h
      refine ⟨_, rfl, (by show 1 ≤ 1000; decide), fun x hx => ⟨x, _, _, rfl, rfl, upd_same, (T.ex' (x := "TooDeep") (by decide +kernel)).o, ?_, fun dx H1 _ _ he hk => ⟨rfl, (by show 2 ≤ sizeLine; decide), fun q hq => ?_⟩⟩⟩
      · intro f hf
        simp only [List.mem_cons, List.mem_nil_iff, or_false] at hf
        subst hf
        exact T.a_TooDeep_position
      · obtain ⟨e1, e2⟩ := made_end (q := q) (o := .tup [.ref x, .int 1]) hx he hk hq
        exact k q x dx _ upd_same e1 hx e2
    refine ⟨_, rfl, rfl, _, rfl, ite2 (fun h => ?_) (fun h5 => ?_)⟩
    · obtain rfl : n = 5 := natk (m := 5) h
      refine ⟨_, rfl, _, rfl, (by show 2 ≤ 1000; decide), fun x hx => ⟨x, _, _, rfl, rfl, upd_same, (T.ex' (x := "BadOption") (by decide +kernel)).o, ?_, fun dx H1 _ _ he hk => ⟨rfl, (by show 2 ≤ sizeLine; decide), fun q hq => ?_⟩⟩⟩
      · intro f hf
        simp only [List.mem_cons, List.mem_nil_iff, or_false] at hf
        rcases hf with rfl | rfl
        · exact T.a_BadOption_name
        · exact T.a_BadOption_value
      · obtain ⟨e1, e2⟩ := made_end (q := q) (o := .tup [.ref x, .int 2]) hx he hk hq
        exact k q x dx _ upd_same e1 hx e2
    refine ⟨_, rfl, rfl, _, rfl, ite2 (fun h => ?_) (fun h6 => ?_)⟩
    · obtain rfl : n = 6 := natk (m := 6) h
      refine ⟨_, rfl, _, rfl, (by show 2 ≤ 1000; decide), fun x hx => ⟨x, _, _, rfl, rfl, upd_same, (T.ex' (x := "Unwritable") (by decide +kernel)).o, ?_, fun dx H1 _ _ he hk => ⟨rfl, (by show 2 ≤ sizeLine; decide), fun q hq => ?_⟩⟩⟩
      · intro f hf
        simp only [List.mem_cons, List.mem_nil_iff, or_false] at hf
        rcases hf with rfl | rfl
        · exact T.a_Unwritable_reason
        · exact T.a_Unwritable_path
      · obtain ⟨e1, e2⟩ := made_end (q := q) (o := .tup [.ref x, .int 2]) hx he hk hq
        exact k q x dx _ upd_same e1 hx e2
    refine ⟨_, rfl, rfl, _, rfl, ite2 (fun h => ?_) (fun h7 => ?_)⟩
    · obtain rfl : n = 7 := natk (m := 7) h
      refine ⟨_, rfl, _, rfl, (by show 2 ≤ 1000; decide), fun x hx => ⟨x, _, _, rfl, rfl, upd_same, (T.ex' (x := "Unreadable") (by decide +kernel)).o, ?_, fun dx H1 _ _ he hk => ⟨rfl, (by show 2 ≤ sizeLine; decide), fun q hq => ?_⟩⟩⟩
      · intro f hf
        simp only [List.mem_cons, List.mem_nil_iff, or_false] at hf
        rcases hf with rfl | rfl
        · exact T.a_Unreadable_reason
        · exact T.a_Unreadable_path
      · obtain ⟨e1, e2⟩ := made_end (q := q) (o := .tup [.ref x, .int 2]) hx he hk hq
        exact k q x dx _ upd_same e1 hx e2
    refine ⟨_, rfl, rfl, _, rfl, ite2 (fun h => ?_) (fun h8 => ?_)⟩
    · obtain rfl : n = 8 := natk (m := 8) h
      refine ⟨_, rfl, _, rfl, _, rfl, (by show 3 ≤ 1000; decide), fun x hx => ⟨x, _, _, rfl, rfl, upd_same, (T.ex' (x := "Refused") (by decide +kernel)).o, ?_, fun dx H1 _ _ he hk => ⟨rfl, (by show 2 ≤ sizeLine; decide), fun q hq => ?_⟩⟩⟩
      · intro f hf
        simp only [List.mem_cons, List.mem_nil_iff, or_false] at hf
        rcases hf with rfl | rfl | rfl
        · exact T.a_Refused_side
        · exact T.a_Refused_reason
        · exact T.a_Refused_path
      · obtain ⟨e1, e2⟩ := made_end (q := q) (o := .tup [.ref x, .int 3]) hx he hk hq
        exact k q x dx _ upd_same e1 hx e2
    refine ⟨_, rfl, rfl, _, rfl, ite2 (fun h => ?_) (fun h9 => ?_)⟩
    · obtain rfl : n = 9 := natk (m := 9) h
      refine ⟨_, rfl, (by show 1 ≤ 1000; decide), fun x hx => ⟨x, _, _, rfl, rfl, upd_same, (T.ex' (x := "BadCondition") (by decide +kernel)).o, ?_, fun dx H1 _ _ he hk => ⟨rfl, (by show 2 ≤ sizeLine; decide), fun q hq => ?_⟩⟩⟩
      · intro f hf
        simp only [List.mem_cons, List.mem_nil_iff, or_false] at hf
        subst hf
        exact T.a_BadCondition_value
      · obtain ⟨e1, e2⟩ := made_end (q := q) (o := .tup [.ref x, .int 1]) hx he hk hq
        exact k q x dx _ upd_same e1 hx e2
    refine ⟨_, rfl, rfl, _, rfl, ite2 (fun h => ?_) (fun h10 => ?_)⟩
    · obtain rfl : n = 10 := natk (m := 10) h
      refine ⟨_, rfl, (by show 1 ≤ 1000; decide), fun x hx => ⟨x, _, _, rfl, rfl, upd_same, (T.ex' (x := "BadLabel") (by decide +kernel)).o, ?_, fun dx H1 _ _ he hk => ⟨rfl, (by show 2 ≤ sizeLine; decide), fun q hq => ?_⟩⟩⟩
      · intro f hf
        simp only [List.mem_cons, List.mem_nil_iff, or_false] at hf
        subst hf
        exact T.a_BadLabel_name
      · obtain ⟨e1, e2⟩ := made_end (q := q) (o := .tup [.ref x, .int 1]) hx he hk hq
        exact k q x dx _ upd_same e1 hx e2
    refine ⟨_, rfl, rfl, _, rfl, ite2 (fun h => ?_) (fun h11 => ?_)⟩
    · obtain rfl : n = 11 := natk (m := 11) h
      refine ⟨_, rfl, (by show 1 ≤ 1000; decide), fun x hx => ⟨x, _, _, rfl, rfl, upd_same, (T.ex' (x := "NoLabel") (by decide +kernel)).o, ?_, fun dx H1 _ _ he hk => ⟨rfl, (by show 2 ≤ sizeLine; decide), fun q hq => ?_⟩⟩⟩
      · intro f hf
        simp only [List.mem_cons, List.mem_nil_iff, or_false] at hf
        subst hf
        exact T.a_NoLabel_label
      · obtain ⟨e1, e2⟩ := made_end (q := q) (o := .tup [.ref x, .int 1]) hx he hk hq
        exact k q x dx _ upd_same e1 hx e2
    refine ⟨_, rfl, rfl, _, rfl, ite2 (fun h => ?_) (fun h12 => ?_)⟩
    · obtain rfl : n = 12 := natk (m := 12) h
      refine ⟨_, rfl, (by show 1 ≤ 1000; decide), fun x hx => ⟨x, _, _, rfl, rfl, upd_same, (T.ex' (x := "BadStep") (by decide +kernel)).o, ?_, fun dx H1 _ _ he hk => ⟨rfl, (by show 2 ≤ sizeLine; decide), fun q hq => ?_⟩⟩⟩
      · intro f hf
        simp only [List.mem_cons, List.mem_nil_iff, or_false] at hf
        subst hf
        exact T.a_BadStep_index
      · obtain ⟨e1, e2⟩ := made_end (q := q) (o := .tup [.ref x, .int 1]) hx he hk hq
        exact k q x dx _ upd_same e1 hx e2
    refine ⟨_, rfl, rfl, _, rfl, ite2 (fun h => ?_) (fun h13 => ?_)⟩
    · obtain rfl : n = 13 := natk (m := 13) h
      refine ⟨_, rfl, _, rfl, (by show 2 ≤ 1000; decide), fun x hx => ⟨x, _, _, rfl, rfl, upd_same, (T.ex' (x := "WrongNumber") (by decide +kernel)).o, ?_, fun dx H1 _ _ he hk => ⟨rfl, (by show 2 ≤ sizeLine; decide), fun q hq => ?_⟩⟩⟩
      · intro f hf
        simp only [List.mem_cons, List.mem_nil_iff, or_false] at hf
        rcases hf with rfl | rfl
        · exact T.a_WrongNumber_wanted
        · exact T.a_WrongNumber_given
      · obtain ⟨e1, e2⟩ := made_end (q := q) (o := .tup [.ref x, .int 2]) hx he hk hq
        exact k q x dx _ upd_same e1 hx e2
    refine ⟨_, rfl, rfl, _, rfl, ite2 (fun h => ?_) (fun h14 => ?_)⟩
    · obtain rfl : n = 14 := natk (m := 14) h
      refine ⟨_, rfl, (by show 1 ≤ 1000; decide), fun x hx => ⟨x, _, _, rfl, rfl, upd_same, (T.ex' (x := "TooMuch") (by decide +kernel)).o, ?_, fun dx H1 _ _ he hk => ⟨rfl, (by show 2 ≤ sizeLine; decide), fun q hq => ?_⟩⟩⟩
      · intro f hf
        simp only [List.mem_cons, List.mem_nil_iff, or_false] at hf
        subst hf
        exact T.a_TooMuch_what
      · obtain ⟨e1, e2⟩ := made_end (q := q) (o := .tup [.ref x, .int 1]) hx he hk hq
        exact k q x dx _ upd_same e1 hx e2
    obtain rfl : n = 15 := by
      have := natn (m := 0) h0
      have := natn (m := 1) h1
      have := natn (m := 2) h2
      have := natn (m := 3) h3
      have := natn (m := 4) h4
      have := natn (m := 5) h5
      have := natn (m := 6) h6
      have := natn (m := 7) h7
      have := natn (m := 8) h8
      have := natn (m := 9) h9
      have := natn (m := 10) h10
      have := natn (m := 11) h11
      have := natn (m := 12) h12
      have := natn (m := 13) h13
      have := natn (m := 14) h14
      omega
    refine ⟨_, rfl, (by show 1 ≤ 1000; decide), fun x hx => ⟨x, _, _, rfl, rfl, upd_same, (T.ex' (x := "NoGuard") (by decide +kernel)).o, ?_, fun dx H1 _ _ he hk => ⟨rfl, (by show 2 ≤ sizeLine; decide), fun q hq => ?_⟩⟩⟩
    · intro f hf
      simp only [List.mem_cons, List.mem_nil_iff, or_false] at hf
      subst hf
      exact T.a_NoGuard_name
    · obtain ⟨e1, e2⟩ := made_end (q := q) (o := .tup [.ref x, .int 1]) hx he hk hq
      exact k q x dx _ upd_same e1 hx e2
end
end Kt
set_option Elab.async false
set_option linter.all false
set_option maxRecDepth 100000
set_option maxHeartbeats 4000000
namespace Kt
open PySem PySem.Spec PyProof.Rows L2
def spFields (K : PySem.W.Frag) : Sp := fun vs H Q _ => ∃ (n : Nat) (x dx : Addr) (a b c : V), vs = [.int (n : Int), .ref x] ∧ n < 16 ∧ ErrAt H x (ca K n) dx (flv n a b c) ∧
  ∀ l H', H' l = some (.lst ([a, b, c].take (fns n).length)) → Same H H' → H l = none → Q (.ref l) H'
theorem natlt {n : Nat} {m : Nat} (h : decide ((n : Int) < (m : Int)) = true) : n < m := Int.ofNat_lt.mp (of_decide_eq_true h)
theorem natge {n : Nat} {m : Nat} (h : ¬ decide ((n : Int) < (m : Int)) = true) : m ≤ n := by
  have h' : ¬ (n : Int) < (m : Int) := fun z => h (decide_eq_true z)
  omega
section
variable {P : Program} {w : World} {K : PySem.W.Frag} {mg : Str → Option Value} {base : Heap}
theorem ok__law_fields (T : Tx w K mg) : Gd P w K base mg CX0 1 (He.fAd K d__law_fields.at_) ["_law_which", "_law_x"] [] (spFields K) := by
  refine mkGd (T.f__law_fields) sc__law_fields (fun vs H Q E h => ?_) (fun _ _ _ _ _ _ us hl => match us, hl with | [_, _], _ => rfl) (fun cdv A outer s H vs Q E hr h => ?_)
  · obtain ⟨n, x, dx, a, b, c, rfl, _⟩ := h
    rfl
  · have hu := hu_of hr
    obtain ⟨n, x, dx, a, b, c, rfl, hn, he, k⟩ := h
    refine ⟨_, (pss_cons (ps_if (pt_cmpR op_lt (pv 0) pe_int (nomark _)) (pss_one (ps_ret (pe_lst (pa_cons (pe_xat (pv 1)) pa_nil)))) pss_nil)
      (pss_cons (ps_if (pt_cmpR op_lt (pv 0) pe_int (nomark _)) (pss_one (ps_ret (pe_lst (pa_cons (pe_xat (pv 1)) pa_nil)))) pss_nil)
      (pss_cons (ps_if (pt_cmpR op_eq (pv 0) pe_int (nomark _)) (pss_one (ps_ret (pe_lst (pa_cons (pe_xat (pv 1)) (pa_cons (pe_xat (pv 1)) pa_nil))))) pss_nil)
      (pss_cons (ps_if (pt_cmpR op_lt (pv 0) pe_int (nomark _)) (pss_one (ps_ret (pe_lst (pa_cons (pe_xat (pv 1)) (pa_cons (pe_xat (pv 1)) pa_nil))))) pss_nil)
      (pss_cons (ps_if (pt_cmpR op_eq (pv 0) pe_int (nomark _)) (pss_one (ps_ret (pe_lst (pa_cons (pe_xat (pv 1)) (pa_cons (pe_xat (pv 1)) (pa_cons (pe_xat (pv 1)) pa_nil)))))) pss_nil)
      (pss_cons (ps_if (pt_cmpR op_eq (pv 0) pe_int (nomark _)) (pss_one (ps_ret (pe_lst (pa_cons (pe_xat (pv 1)) pa_nil)))) pss_nil)
      (pss_cons (ps_if (PW.pt (pw_or (pt_cmpR op_eq (pv 0) pe_int (nomark _)) (pw_or1 (pt_cmpR op_eq (pv 0) pe_int (nomark _))))) (pss_one (ps_ret (pe_lst (pa_cons (pe_xat (pv 1)) pa_nil)))) pss_nil)
      (pss_cons (ps_if (pt_cmpR op_eq (pv 0) pe_int (nomark _)) (pss_one (ps_ret (pe_lst (pa_cons (pe_xat (pv 1)) pa_nil)))) pss_nil)
      (pss_cons (ps_if (pt_cmpR op_eq (pv 0) pe_int (nomark _)) (pss_one (ps_ret (pe_lst (pa_cons (pe_xat (pv 1)) pa_nil)))) pss_nil)
      (pss_cons (ps_if (pt_cmpR op_eq (pv 0) pe_int (nomark _)) (pss_one (ps_ret (pe_lst (pa_cons (pe_xat (pv 1)) (pa_cons (pe_xat (pv 1)) pa_nil))))) pss_nil)
      (pss_one (ps_ret (pe_lst (pa_cons (pe_xat (pv 1)) pa_nil)))))))))))))), ?_⟩
    refine ⟨_, rfl, _, _, rfl, rfl, _, rfl, ite2 (fun h => ?_) (fun h => ?_)⟩
    · have h := natlt (m := 3) h
      have hc : n = 0 ∨ n = 1 ∨ n = 2 := by omega
      rcases hc with rfl | rfl | rfl
      · exact ⟨_, rfl, x, _, dx, _, _, rfl, (T.ex' (x := "BadKey") (by decide +kernel)).x, T.a_BadKey_key, he.1, he.2, rfl, (by show 1 ≤ sizeLine; decide), fun l hl => k l _ upd_same (Same.nu hl) hl⟩
      · exact ⟨_, rfl, x, _, dx, _, _, rfl, (T.ex' (x := "DoubleKey") (by decide +kernel)).x, T.a_DoubleKey_key, he.1, he.2, rfl, (by show 1 ≤ sizeLine; decide), fun l hl => k l _ upd_same (Same.nu hl) hl⟩
      · exact ⟨_, rfl, x, _, dx, _, _, rfl, (T.ex' (x := "NoKey") (by decide +kernel)).x, T.a_NoKey_key, he.1, he.2, rfl, (by show 1 ≤ sizeLine; decide), fun l hl => k l _ upd_same (Same.nu hl) hl⟩
    have h3 := natge (m := 3) h
    refine ⟨_, rfl, _, _, rfl, rfl, _, rfl, ite2 (fun h => ?_) (fun h => ?_)⟩
    · have h := natlt (m := 5) h
      have hc : n = 3 ∨ n = 4 := by omega
      rcases hc with rfl | rfl
      · exact ⟨_, rfl, x, _, dx, _, _, rfl, (T.ex' (x := "NotText") (by decide +kernel)).x, T.a_NotText_position, he.1, he.2, rfl, (by show 1 ≤ sizeLine; decide), fun l hl => k l _ upd_same (Same.nu hl) hl⟩
      · exact ⟨_, rfl, x, _, dx, _, _, rfl, (T.ex' (x := "TooDeep") (by decide +kernel)).x, T.a_TooDeep_position, he.1, he.2, rfl, (by show 1 ≤ sizeLine; decide), fun l hl => k l _ upd_same (Same.nu hl) hl⟩
    have h5 := natge (m := 5) h
    refine ⟨_, rfl, rfl, _, rfl, ite2 (fun h => ?_) (fun h => ?_)⟩
    · have h := natk (m := 5) h
      obtain rfl : n = 5 := by omega
      exact ⟨_, rfl, x, _, dx, _, _, rfl, (T.ex' (x := "BadOption") (by decide +kernel)).x, T.a_BadOption_name, he.1, he.2, rfl, _, rfl, x, _, dx, _, _, rfl, (T.ex' (x := "BadOption") (by decide +kernel)).x, T.a_BadOption_value, he.1, he.2, rfl, (by show 2 ≤ sizeLine; decide), fun l hl => k l _ upd_same (Same.nu hl) hl⟩
    have q5 := natn (m := 5) h
    refine ⟨_, rfl, _, _, rfl, rfl, _, rfl, ite2 (fun h => ?_) (fun h => ?_)⟩
    · have h := natlt (m := 8) h
      have hc : n = 6 ∨ n = 7 := by omega
      rcases hc with rfl | rfl
      · exact ⟨_, rfl, x, _, dx, _, _, rfl, (T.ex' (x := "Unwritable") (by decide +kernel)).x, T.a_Unwritable_reason, he.1, he.2, rfl, _, rfl, x, _, dx, _, _, rfl, (T.ex' (x := "Unwritable") (by decide +kernel)).x, T.a_Unwritable_path, he.1, he.2, rfl, (by show 2 ≤ sizeLine; decide), fun l hl => k l _ upd_same (Same.nu hl) hl⟩
      · exact ⟨_, rfl, x, _, dx, _, _, rfl, (T.ex' (x := "Unreadable") (by decide +kernel)).x, T.a_Unreadable_reason, he.1, he.2, rfl, _, rfl, x, _, dx, _, _, rfl, (T.ex' (x := "Unreadable") (by decide +kernel)).x, T.a_Unreadable_path, he.1, he.2, rfl, (by show 2 ≤ sizeLine; decide), fun l hl => k l _ upd_same (Same.nu hl) hl⟩
    have h8 := natge (m := 8) h
    refine ⟨_, rfl, rfl, _, rfl, ite2 (fun h => ?_) (fun h => ?_)⟩
    · have h := natk (m := 8) h
      obtain rfl : n = 8 := by omega
      exact ⟨_, rfl, x, _, dx, _, _, rfl, (T.ex' (x := "Refused") (by decide +kernel)).x, T.a_Refused_side, he.1, he.2, rfl, _, rfl, x, _, dx, _, _, rfl, (T.ex' (x := "Refused") (by decide +kernel)).x, T.a_Refused_reason, he.1, he.2, rfl, _, rfl, x, _, dx, _, _, rfl, (T.ex' (x := "Refused") (by decide +kernel)).x, T.a_Refused_path, he.1, he.2, rfl, (by show 3 ≤ sizeLine; decide), fun l hl => k l _ upd_same (Same.nu hl) hl⟩
    have q8 := natn (m := 8) h
    refine ⟨_, rfl, rfl, _, rfl, ite2 (fun h => ?_) (fun h => ?_)⟩
    · have h := natk (m := 9) h
      obtain rfl : n = 9 := by omega
      exact ⟨_, rfl, x, _, dx, _, _, rfl, (T.ex' (x := "BadCondition") (by decide +kernel)).x, T.a_BadCondition_value, he.1, he.2, rfl, (by show 1 ≤ sizeLine; decide), fun l hl => k l _ upd_same (Same.nu hl) hl⟩
    have q9 := natn (m := 9) h
    refine ⟨_, rfl, rfl, _, rfl, ite2 (fun h => iteT ?_) (fun h => ?_)⟩
    · have h := natk (m := 10) h
      obtain rfl : n = 10 := by omega
      exact ⟨_, rfl, x, _, dx, _, _, rfl, (T.ex' (x := "BadLabel") (by decide +kernel)).x, T.a_BadLabel_name, he.1, he.2, rfl, (by show 1 ≤ sizeLine; decide), fun l hl => k l _ upd_same (Same.nu hl) hl⟩
    have q10 := natn (m := 10) h
    refine ⟨_, rfl, rfl, _, rfl, ite2 (fun h => ?_) (fun h => ?_)⟩
    · have h := natk (m := 15) h
      obtain rfl : n = 15 := by omega
      exact ⟨_, rfl, x, _, dx, _, _, rfl, (T.ex' (x := "NoGuard") (by decide +kernel)).x, T.a_NoGuard_name, he.1, he.2, rfl, (by show 1 ≤ sizeLine; decide), fun l hl => k l _ upd_same (Same.nu hl) hl⟩
    have q15 := natn (m := 15) h
    refine ⟨_, rfl, rfl, _, rfl, ite2 (fun h => ?_) (fun h => ?_)⟩
    · have h := natk (m := 11) h
      obtain rfl : n = 11 := by omega
      exact ⟨_, rfl, x, _, dx, _, _, rfl, (T.ex' (x := "NoLabel") (by decide +kernel)).x, T.a_NoLabel_label, he.1, he.2, rfl, (by show 1 ≤ sizeLine; decide), fun l hl => k l _ upd_same (Same.nu hl) hl⟩
    have q11 := natn (m := 11) h
    refine ⟨_, rfl, rfl, _, rfl, ite2 (fun h => ?_) (fun h => ?_)⟩
    · have h := natk (m := 12) h
      obtain rfl : n = 12 := by omega
      exact ⟨_, rfl, x, _, dx, _, _, rfl, (T.ex' (x := "BadStep") (by decide +kernel)).x, T.a_BadStep_index, he.1, he.2, rfl, (by show 1 ≤ sizeLine; decide), fun l hl => k l _ upd_same (Same.nu hl) hl⟩
    have q12 := natn (m := 12) h
    refine ⟨_, rfl, rfl, _, rfl, ite2 (fun h => ?_) (fun h => ?_)⟩
    · have h := natk (m := 13) h
      obtain rfl : n = 13 := by omega
      exact ⟨_, rfl, x, _, dx, _, _, rfl, (T.ex' (x := "WrongNumber") (by decide +kernel)).x, T.a_WrongNumber_wanted, he.1, he.2, rfl, _, rfl, x, _, dx, _, _, rfl, (T.ex' (x := "WrongNumber") (by decide +kernel)).x, T.a_WrongNumber_given, he.1, he.2, rfl, (by show 2 ≤ sizeLine; decide), fun l hl => k l _ upd_same (Same.nu hl) hl⟩
    have q13 := natn (m := 13) h
    obtain rfl : n = 14 := by omega
    exact ⟨_, rfl, x, _, dx, _, _, rfl, (T.ex' (x := "TooMuch") (by decide +kernel)).x, T.a_TooMuch_what, he.1, he.2, rfl, (by show 1 ≤ sizeLine; decide), fun l hl => k l _ upd_same (Same.nu hl) hl⟩
/-- what the law hands over: scalars, or tuples that stand -/
def Okv (K : PySem.W.Frag) (H : Hp) (v : V) : Prop := v = .non ∨ (∃ b, v = .bl b) ∨ (∃ i, v = .int i) ∨ (∃ s, v = .str s) ∨ ∃ t ys, v = .ref t ∧ H t = some (.tup ys) ∧ ys.length ≤ 3 ∧ ∀ y ∈ ys, KeyV y
end
end Kt
set_option Elab.async false
set_option linter.all false
set_option maxRecDepth 100000
set_option maxHeartbeats 4000000
namespace Kt
open PySem PySem.Spec PyProof.Rows L2
section
variable {P : Program} {w : World} {K : PySem.W.Frag} {mg : Str → Option Value} {base : Heap}
theorem strOk_of (s : String) : PyData.strOk (Str.ofString s) = true := by
  rw [Str.ofString_eq_toList]
  unfold PyData.strOk
  simp only [List.all_toArray, List.all_eq_true, List.mem_map, decide_eq_true_eq]
  rintro x ⟨c, _, rfl⟩
  have h := c.valid
  unfold UInt32.isValidChar Nat.isValidChar at h
  show c.val.toNat < 0x110000
  omega
theorem key_dp {H : Hp} {v : V} (h : KeyV v) : ∃ d, Dp K H v d ∧ d.canLay0 = true ∧ d.depth = 0 := by
  rcases h with ⟨i, rfl⟩ | ⟨s, rfl⟩
  · exact ⟨_, Dp.int i, rfl, rfl⟩
  · exact ⟨_, Dp.str _, strOk_of s, rfl⟩
theorem keys_dp {H : Hp} : ∀ {ys : List V}, (∀ y ∈ ys, KeyV y) → ∃ ds, DpAll K H ys ds ∧ PyData.canLayAll0 ds = true ∧ PyData.depthAll ds = 0
  | [], _ => ⟨[], .nil, rfl, rfl⟩
  | y :: r, h => by
    obtain ⟨d, h1, h2, h3⟩ := key_dp (K := K) (H := H) (h y List.mem_cons_self)
    obtain ⟨ds, g1, g2, g3⟩ := keys_dp (H := H) (ys := r) fun z hz => h z (List.mem_cons_of_mem _ hz)
    exact ⟨d :: ds, .cons h1 g1, by simp only [PyData.canLayAll0, h2, g2, Bool.and_self], by simp only [PyData.depthAll, h3, g3, Nat.max_self]⟩
theorem kb : ∀ {t : String} {b : Bool}, kitB t "bool" = some b → PySem.W.kitOne K (.type t) (.type "bool") = some b := fun h => kit_ty h
theorem okv_ty {H : Hp} {v : V} (h : Okv K H v) : ∃ t b, TyX K H v t ∧ PySem.W.kitOne K t (.type "bool") = some b ∧ ((b = true ∧ ∃ c, v = .bl c) ∨ (b = false ∧ ((scal v v = true) ∨ ∃ t ys, v = .ref t ∧ H t = some (.tup ys) ∧ ys.length ≤ 3 ∧ ∀ y ∈ ys, KeyV y))) := by
  rcases h with rfl | ⟨c, rfl⟩ | ⟨i, rfl⟩ | ⟨s, rfl⟩ | ⟨t, ys, rfl, ht, hl, hk⟩
  · exact ⟨_, false, .base .non, kb (by decide +kernel), .inr ⟨rfl, .inl rfl⟩⟩
  · exact ⟨_, true, .base (.bl c), kb (by decide +kernel), .inl ⟨rfl, c, rfl⟩⟩
  · exact ⟨_, false, .base (.int i), kb (by decide +kernel), .inr ⟨rfl, .inl rfl⟩⟩
  · exact ⟨_, false, .base (.str s), kb (by decide +kernel), .inr ⟨rfl, .inl rfl⟩⟩
  · exact ⟨_, false, .base (.tup ht), kb (by decide +kernel), .inr ⟨rfl, .inr ⟨t, ys, rfl, ht, hl, hk⟩⟩⟩
def spLike (K : PySem.W.Frag) : Sp := fun vs H Q _ => ∃ v, vs = [v, v] ∧ Okv K H v ∧ Q (.bl true) H
theorem ok__law_like (T : Tx w K mg) : Gd P w K base mg CX0 1 (He.fAd K d__law_like.at_) ["_law_one", "_law_two"] [] (spLike K) := by
  refine mkGd (T.f__law_like) sc__law_like (fun vs H Q E h => ?_) (fun _ _ _ _ _ _ us hl => match us, hl with | [_, _], _ => rfl) (fun cdv A outer s H vs Q E hr h => ?_)
  · obtain ⟨v, rfl, _⟩ := h
    rfl
  · have hu := hu_of hr
    obtain ⟨v, rfl, ho, k⟩ := h
    obtain ⟨t, b, hty, hk, hb⟩ := okv_ty ho
    refine ⟨_, (pss_cons (ps_if (PW.pt (pw_or (pt_val (pe_callB call_isi (by rfl) T.n_isinstance (by decide +kernel) (pa_cons (pv 0) (pa_cons (pe_bltn (v := .ty "bool") (u := .type "bool") (by rfl) T.n_bool (by decide +kernel) rfl) pa_nil)))) (pw_or1 (pt_val (pe_callB call_isi (by rfl) T.n_isinstance (by decide +kernel) (pa_cons (pv 1) (pa_cons (pe_bltn (v := .ty "bool") (u := .type "bool") (by rfl) T.n_bool (by decide +kernel) rfl) pa_nil))))))) (pss_one (ps_ret (pe_and (pe_callB call_isi (by rfl) T.n_isinstance (by decide +kernel) (pa_cons (pv 0) (pa_cons (pe_bltn (v := .ty "bool") (u := .type "bool") (by rfl) T.n_bool (by decide +kernel) rfl) pa_nil))) (pe_and (pe_callB call_isi (by rfl) T.n_isinstance (by decide +kernel) (pa_cons (pv 1) (pa_cons (pe_bltn (v := .ty "bool") (u := .type "bool") (by rfl) T.n_bool (by decide +kernel) rfl) pa_nil))) (pe_one (pe_cmpR (op_eq.or (op_eqD hr.units)) (pv 0) (pv 1) (nomark _))))))) pss_nil)
      (pss_one (ps_ret (pe_cmpR (op_eq.or (op_eqD hr.units)) (pv 0) (pv 1) (nomark _))))), ?_⟩
    have same : ∀ {Q' : VK}, Q' (.bl true) H → (rEq v v H Q' ∨ rEqD K v v H Q') := fun {Q'} q => by
      rcases hb with ⟨_, c, rfl⟩ | ⟨_, h | ⟨a, ys, rfl, ha, hl, hy⟩⟩
      · exact .inl ⟨rfl, by rw [decide_eq_true rfl]; exact q⟩
      · exact .inl ⟨h, by rw [decide_eq_true rfl]; exact q⟩
      · obtain ⟨ds, g1, g2, g3⟩ := keys_dp (K := K) (H := H) hy
        have g4 : (PyData.tuple ds).canLay0 = true := g2
        have sh : SeqAt.shaped (.tuple ds) = true := by
          show ((PyData.tuple ds).canLay0 && decide ((PyData.tuple ds).depth ≤ 64)) = true
          rw [g4, Bool.true_and, decide_eq_true_eq]
          show PyData.depthAll ds + 1 ≤ 64
          rw [g3]
          decide
        exact .inr ⟨_, _, .tup (SqT.of ha) g1, .tup (SqT.of ha) g1, sh, sh, by rw [SeqAt.eqv_refl _ g4]; exact q⟩
    rcases hb with ⟨rfl, c, rfl⟩ | ⟨rfl, h⟩
    · refine ⟨_, rfl, _, _, _, _, _, rfl, .ty _, hty, hk, _, rfl, iteT (iteT ?_)⟩
      refine ⟨_, rfl, _, _, _, _, _, rfl, .ty _, hty, hk, _, rfl, iteT ?_⟩
      refine ⟨_, rfl, _, _, _, _, _, rfl, .ty _, hty, hk, _, rfl, iteT ?_⟩
      exact ⟨_, rfl, _, rfl, same k⟩
    · refine ⟨_, rfl, _, _, _, _, _, rfl, .ty _, hty, hk, _, rfl, iteF ?_⟩
      refine ⟨_, rfl, _, _, _, _, _, rfl, .ty _, hty, hk, _, rfl, iteF ?_⟩
      exact ⟨_, rfl, _, rfl, same k⟩
end
end Kt
set_option Elab.async false
set_option linter.all false
set_option maxRecDepth 100000
set_option maxHeartbeats 4000000
namespace Kt
open PySem PySem.Spec PyProof.Rows L2
section
variable {P : Program} {w : World} {K : PySem.W.Frag} {mg : Str → Option Value} {base : Heap}
theorem Okv.sb {H H' : Hp} {p c : Addr} {ns : List Int} {ro : Int} {v : V} (h : Okv K H v) (S : Src H p c ns ro) (k : Sb p H H') : Okv K H' v := by
  rcases h with h | h | h | h | ⟨t, ys, rfl, ht, h1, h2⟩
  · exact .inl h
  · exact .inr (.inl h)
  · exact .inr (.inr (.inl h))
  · exact .inr (.inr (.inr (.inl h)))
  · obtain ⟨_, _, _, e, _⟩ := S.ex
    exact .inr (.inr (.inr (.inr ⟨t, ys, rfl, k t _ (ne_of ht e (by intro z; cases z)) ht, h1, h2⟩)))
theorem Okv.same {H H' : Hp} {v : V} (h : Okv K H v) (k : Same H H') : Okv K H' v := by
  rcases h with h | h | h | h | ⟨t, ys, rfl, ht, h1, h2⟩
  · exact .inl h
  · exact .inr (.inl h)
  · exact .inr (.inr (.inl h))
  · exact .inr (.inr (.inr (.inl h)))
  · exact .inr (.inr (.inr (.inr ⟨t, ys, rfl, k t _ ht, h1, h2⟩)))
theorem Okv.key {H : Hp} {v : V} (h : KeyV v) : Okv K H v := by
  rcases h with ⟨i, rfl⟩ | ⟨s, rfl⟩
  · exact .inr (.inr (.inl ⟨i, rfl⟩))
  · exact .inr (.inr (.inr (.inl ⟨_, rfl⟩)))
theorem Src.dne {H : Hp} {p c D : Addr} {ns : List Int} {ro : Int} (S : Src H p c ns ro) (h : H D = none) : D ≠ p := by
  obtain ⟨_, _, _, e, _⟩ := S.ex
  exact fun z => by rw [z, e] at h; cases h
def spText : Sp := fun vs H Q _ => ∃ (p c : Addr) (ns : List Int) (ro : Int), vs = [.ref p] ∧ Src H p c ns ro ∧ ns.length ≤ 63 ∧ ∀ s H', Src H' p c ns ro → Sb p H H' → Q (.str s) H'
theorem sumlen : ∀ {ys : List Str}, (∀ y ∈ ys, y.length = 1) → (ys.map (·.length)).sum = ys.length
  | [], _ => rfl
  | y :: r, h => by
    rw [List.map_cons, List.sum_cons, List.length_cons, h y List.mem_cons_self, sumlen fun z hz => h z (List.mem_cons_of_mem _ hz)]
    omega
theorem at_of' {α : Type} {xs : List α} {z : Int} {j : Nat} {v : α} (e : z = (j : Int)) (h : xs[j]? = some v) : atI xs z = some v := by
  rw [e]
  exact atI_nat h
theorem ok__law_text (T : Tx w K mg) : Gd P w K base mg CX0 3 (He.fAd K d__law_text.at_) ["_law_source_here"] [] spText := by
  have G__law_draw := ok__law_draw (P := P) (w := w) (base := base) T
  refine mkGd (T.f__law_text) sc__law_text (fun vs H Q E h => ?_) (fun _ _ _ _ _ _ us hl => match us, hl with | [_], _ => rfl) (fun cdv A outer s H vs Q E hr h => ?_)
  · obtain ⟨p, c, ns, ro, rfl, _⟩ := h
    rfl
  · have hu := hu_of hr
    obtain ⟨p, c, ns, ro, rfl, S, hl, k⟩ := h
    refine ⟨_, (pss_one (ps_ret (pe_join pe_str (pe_lc (own := [("_law_k", 1)]) (g := gName 1) (tt := tYes) rfl sc__law_text.nd (pi_range1 rfl T.n_range (pa_cons (pe_callG G__law_draw T.g__law_draw (hr.mono (by decide)) pass0 (pa_cons (pv 0) (pa_cons pe_int pa_nil))) pa_nil)) (blkOk_by (own := [("_law_k", 1)]) (N := N__law_text) (sc := defScope s__law_text) (by decide +kernel)) (fun _ _ _ _ _ => (pg_name (i := 1) sc__law_text.nd rfl (Or.inl rfl))) (fun _ _ _ _ _ => pts_nil) (fun _ _ _ _ _ => (pe_ix ix_str pe_str (pe_callG G__law_draw T.g__law_draw (hr.mono (by decide)) pass0 (pa_cons (pv 0) (pa_cons pe_int pa_nil))) (fun _ _ => rfl))))))), ?_⟩
    refine ⟨⟨_, rfl⟩, _, rfl, p, c, ns, ro, _, rfl, S, hl, by decide, by decide, fun d H1 h0 h1 S1 k1 => ⟨_, rfl, by omega, by omega, fun D hD => ?_⟩⟩
    have nD := S1.dne hD
    refine lc_range (lo := 0) (n := d.toNat) (fun i H' => ∃ ys : List Str, H' D = some (.lst (ys.map V.str)) ∧ ys.length = i ∧ (∀ y ∈ ys, y.length = 1) ∧ Src H' p c ns ro ∧ Sb p H1 H')
      ⟨[], upd_same, rfl, (fun y hy => by cases hy), S1.keep (Same.nu hD), Sb.new hD⟩ ?_ ?_
    · rintro i H' hi ⟨ys, e1, e2, e3, S', k'⟩
      refine ⟨rfl, _, rfl, p, c, ns, ro, _, rfl, S', hl, by decide, by decide, fun d2 H2 g0 g1 S2 k2 => ?_⟩
      have f2 : H2 D = some (.lst (ys.map V.str)) := k2 D _ nD e1
      have hsix : d2 = 0 ∨ d2 = 1 ∨ d2 = 2 ∨ d2 = 3 ∨ d2 = 4 ∨ d2 = 5 := by omega
      have fin : ∀ x : Str, x.length = 1 → ∃ zs : List Str, (upd H2 D (.lst (ys.map V.str ++ [V.str x]))) D = some (.lst (zs.map V.str)) ∧ zs.length = i + 1 ∧ (∀ y ∈ zs, y.length = 1) ∧ Src (upd H2 D (.lst (ys.map V.str ++ [V.str x]))) p c ns ro ∧ Sb p H1 (upd H2 D (.lst (ys.map V.str ++ [V.str x]))) := fun x hx =>
        ⟨ys ++ [x], by rw [upd_same, List.map_append]; rfl, by rw [List.length_append, e2]; rfl, (fun y hy => by
          rcases List.mem_append.mp hy with h | h
          · exact e3 y h
          · rw [List.mem_singleton.mp h]; exact hx), by
          obtain ⟨a, r, s, q1, q2, q3⟩ := S2.ex
          exact ⟨⟨a, r, s, by rw [upd_ne nD.symm]; exact q1, q2, q3⟩, by rw [upd_ne (ne_of_none S1.cs hD)]; exact S2.cs⟩, Sb.mk (k'.trans k2) hD⟩
      have hz : (ys.map V.str).length < sizeLine := by
        rw [List.length_map, e2]
        exact small1000 (by omega)
      rcases hsix with rfl | rfl | rfl | rfl | rfl | rfl
      · exact ⟨_, 0, _, rfl, rfl, (by decide +kernel), at_of' (j := 0) rfl rfl, _, f2, hz, fin _ rfl⟩
      · exact ⟨_, 1, _, rfl, rfl, (by decide +kernel), at_of' (j := 1) rfl rfl, _, f2, hz, fin _ rfl⟩
      · exact ⟨_, 2, _, rfl, rfl, (by decide +kernel), at_of' (j := 2) rfl rfl, _, f2, hz, fin _ rfl⟩
      · exact ⟨_, 3, _, rfl, rfl, (by decide +kernel), at_of' (j := 3) rfl rfl, _, f2, hz, fin _ rfl⟩
      · exact ⟨_, 4, _, rfl, rfl, (by decide +kernel), at_of' (j := 4) rfl rfl, _, f2, hz, fin _ rfl⟩
      · exact ⟨_, 5, _, rfl, rfl, (by decide +kernel), at_of' (j := 5) rfl rfl, _, f2, hz, fin _ rfl⟩
    · rintro H' ⟨ys, e1, e2, e3, S', k'⟩
      refine ⟨_, D, ys, rfl, rfl, .inl (SqL.of e1), ?_, k _ _ S' (k1.trans k')⟩
      rw [sumlen e3, e2]
      show d.toNat + d.toNat * 0 ≤ 16777216
      omega
def spPath : Sp := fun vs H Q _ => ∃ (p c : Addr) (ns : List Int) (ro : Int), vs = [.ref p] ∧ Src H p c ns ro ∧ ns.length ≤ 63 ∧
  ∀ t ys H', H' t = some (.tup ys) → ys.length ≤ 3 → (∀ y ∈ ys, KeyV y) → Src H' p c ns ro → Sb p H H' → Q (.ref t) H'
theorem ok__law_path (T : Tx w K mg) : Gd P w K base mg CX0 4 (He.fAd K d__law_path.at_) ["_law_source_here"] [] spPath := by
  have G__law_draw := ok__law_draw (P := P) (w := w) (base := base) T
  have G__law_key := ok__law_key (P := P) (w := w) (base := base) T
  refine mkGd (T.f__law_path) sc__law_path (fun vs H Q E h => ?_) (fun _ _ _ _ _ _ us hl => match us, hl with | [_], _ => rfl) (fun cdv A outer s H vs Q E hr h => ?_)
  · obtain ⟨p, c, ns, ro, rfl, _⟩ := h
    rfl
  · have hu := hu_of hr
    obtain ⟨p, c, ns, ro, rfl, S, hl, k⟩ := h
    refine ⟨_, (pss_one (ps_ret (pe_callTy call_tuple_of (by rfl) T.n_tuple (by decide +kernel) (pa_cons (pe_lc (own := [("_law_k", 1)]) (g := gName 1) (tt := tYes) rfl sc__law_path.nd (pi_range1 rfl T.n_range (pa_cons (pe_callG G__law_draw T.g__law_draw (hr.mono (by decide)) pass0 (pa_cons (pv 0) (pa_cons pe_int pa_nil))) pa_nil)) (blkOk_by (own := [("_law_k", 1)]) (N := N__law_path) (sc := defScope s__law_path) (by decide +kernel)) (fun _ _ _ _ _ => (pg_name (i := 1) sc__law_path.nd rfl (Or.inl rfl))) (fun _ _ _ _ _ => pts_nil) (fun _ _ _ _ _ => (pe_callG G__law_key T.g__law_key (hr.mono (by decide)) pass0 (pa_cons (pv 0) pa_nil)))) pa_nil)))), ?_⟩
    refine ⟨_, rfl, p, c, ns, ro, _, rfl, S, hl, by decide, by decide, fun d H1 h0 h1 S1 k1 => ⟨_, rfl, by omega, by omega, fun D hD => ?_⟩⟩
    have nD := S1.dne hD
    refine lc_range (lo := 0) (n := d.toNat) (fun i H' => ∃ ys : List V, H' D = some (.lst ys) ∧ ys.length = i ∧ (∀ y ∈ ys, KeyV y) ∧ Src H' p c ns ro ∧ Sb p H1 H')
      ⟨[], upd_same, rfl, (fun y hy => by cases hy), S1.keep (Same.nu hD), Sb.new hD⟩ ?_ ?_
    · rintro i H' hi ⟨ys, e1, e2, e3, S', k'⟩
      refine ⟨rfl, _, rfl, p, c, ns, ro, rfl, S', hl, fun v H2 hv S2 k2 => ?_⟩
      have f2 : H2 D = some (.lst ys) := k2 D _ nD e1
      refine ⟨_, f2, small1000 (by omega), ys ++ [v], upd_same, by rw [List.length_append, e2]; rfl, (fun y hy => ?_), ?_, Sb.mk (k'.trans k2) hD⟩
      · rcases List.mem_append.mp hy with h | h
        · exact e3 y h
        · rw [List.mem_singleton.mp h]
          exact hv
      · obtain ⟨a, r, s, q1, q2, q3⟩ := S2.ex
        exact ⟨⟨a, r, s, by rw [upd_ne nD.symm]; exact q1, q2, q3⟩, by rw [upd_ne (ne_of_none S1.cs hD)]; exact S2.cs⟩
    · rintro H' ⟨ys, e1, e2, e3, S', k'⟩
      refine ⟨_, ys, rfl, .inl ⟨SqL.of e1, fun t ht => ?_⟩⟩
      exact k t ys _ upd_same (by omega) e3 (S'.keep (Same.nu ht)) ((k1.trans k').trans (Sb.new ht))
end
end Kt
set_option Elab.async false
set_option linter.all false
set_option maxRecDepth 100000
set_option maxHeartbeats 4000000
namespace Kt
open PySem PySem.Spec PyProof.Rows L2
section
variable {P : Program} {w : World} {K : PySem.W.Frag} {mg : Str → Option Value} {base : Heap}
def spGiven (K : PySem.W.Frag) : Sp := fun vs H Q _ => ∃ (p c : Addr) (ns : List Int) (ro n : Int), vs = [.ref p, .int n] ∧ Src H p c ns ro ∧ ns.length ≤ 63 ∧
  ∀ l a b d H', H' l = some (.lst [a, b, d]) → Okv K H' a → Okv K H' b → Okv K H' d → Src H' p c ns ro → Sb p H H' → Q (.ref l) H'
theorem Okv.i {H : Hp} {i : Int} : Okv K H (.int i) := .inr (.inr (.inl ⟨i, rfl⟩))
theorem Okv.s {H : Hp} {s : Str} : Okv K H (.str s) := .inr (.inr (.inr (.inl ⟨s, rfl⟩)))
theorem ok__law_given (T : Tx w K mg) : Gd P w K base mg CX0 5 (He.fAd K d__law_given.at_) ["_law_source_here", "_law_which"] [] (spGiven K) := by
  have G__law_draw := ok__law_draw (P := P) (w := w) (base := base) T
  have G__law_key := ok__law_key (P := P) (w := w) (base := base) T
  have G__law_text := ok__law_text (P := P) (w := w) (base := base) T
  have G__law_path := ok__law_path (P := P) (w := w) (base := base) T
  refine mkGd (T.f__law_given) sc__law_given (fun vs H Q E h => ?_) (fun _ _ _ _ _ _ us hl => match us, hl with | [_, _], _ => rfl) (fun cdv A outer s H vs Q E hr h => ?_)
  · obtain ⟨p, c, ns, ro, n, rfl, _⟩ := h
    rfl
  · have hu := hu_of hr
    obtain ⟨p, c, ns, ro, n, rfl, S, hl, k⟩ := h
    refine ⟨_, (pss_cons (ps_set (i := 2) sc__law_given.nd rfl (Or.inl rfl) (pe_lst (pa_cons (pe_callG G__law_draw T.g__law_draw (hr.mono (by decide)) pass0 (pa_cons (pv 0) (pa_cons (pe_op op_pow pe_int pe_int) pa_nil))) (pa_cons (pe_callG G__law_draw T.g__law_draw (hr.mono (by decide)) pass0 (pa_cons (pv 0) (pa_cons (pe_op op_pow pe_int pe_int) pa_nil))) pa_nil))))
      (pss_cons (ps_if (pt_cmpR op_eq (pv 1) pe_int (nomark _)) (pss_one (ps_ret (pe_lst (pa_cons (pe_ix ix_list (pe_lst (pa_cons pe_non (pa_cons pe_bl (pa_cons (pe_tup (pa_cons pe_int (pa_cons pe_int pa_nil))) (pa_cons (pe_callG G__law_key T.g__law_key (hr.mono (by decide)) pass0 (pa_cons (pv 0) pa_nil)) pa_nil))))) (pe_callG G__law_draw T.g__law_draw (hr.mono (by decide)) pass0 (pa_cons (pv 0) (pa_cons pe_int pa_nil))) (fun _ _ => rfl)) (pa_cons pe_int (pa_cons pe_int pa_nil)))))) pss_nil)
      (pss_cons (ps_if (pt_cmpR op_lt (pv 1) pe_int (nomark _)) (pss_one (ps_ret (pe_lst (pa_cons (pe_callG G__law_key T.g__law_key (hr.mono (by decide)) pass0 (pa_cons (pv 0) pa_nil)) (pa_cons pe_int (pa_cons pe_int pa_nil)))))) pss_nil)
      (pss_cons (ps_if (pt_cmpR op_in_seq (pv 1) (pe_lst (pa_cons pe_int (pa_cons pe_int (pa_cons pe_int (pa_cons pe_int pa_nil))))) (by rfl)) (pss_one (ps_ret (pe_op op_cat (pv 2) (pe_lst (pa_cons pe_int pa_nil))))) pss_nil)
      (pss_cons (ps_if (PW.pt (pw_or (pt_cmpR op_eq (pv 1) pe_int (nomark _)) (pw_or1 (pt_cmpR op_eq (pv 1) pe_int (nomark _))))) (pss_one (ps_ret (pe_lst (pa_cons (pe_callG G__law_text T.g__law_text (hr.mono (by decide)) pass0 (pa_cons (pv 0) pa_nil)) (pa_cons (pe_callG G__law_path T.g__law_path (hr.mono (by decide)) pass0 (pa_cons (pv 0) pa_nil)) (pa_cons pe_int pa_nil)))))) pss_nil)
      (pss_cons (ps_if (pt_cmpR op_eq (pv 1) pe_int (nomark _)) (pss_one (ps_ret (pe_lst (pa_cons (pe_callG G__law_text T.g__law_text (hr.mono (by decide)) pass0 (pa_cons (pv 0) pa_nil)) (pa_cons (pe_callG G__law_text T.g__law_text (hr.mono (by decide)) pass0 (pa_cons (pv 0) pa_nil)) (pa_cons (pe_callG G__law_path T.g__law_path (hr.mono (by decide)) pass0 (pa_cons (pv 0) pa_nil)) pa_nil)))))) pss_nil)
      (pss_cons (ps_if (PW.pt (pw_and (pt_cmpR op_eq (pv 1) pe_int (nomark _)) (pw_and1 (pt_cmpR op_eq (pe_callG G__law_draw T.g__law_draw (hr.mono (by decide)) pass0 (pa_cons (pv 0) (pa_cons pe_int pa_nil))) pe_int (nomark _))))) (pss_one (ps_ret (pe_op op_cat (pv 2) (pe_lst (pa_cons pe_int pa_nil))))) pss_nil)
      (pss_one (ps_ret (pe_lst (pa_cons (pe_callG G__law_text T.g__law_text (hr.mono (by decide)) pass0 (pa_cons (pv 0) pa_nil)) (pa_cons (pe_callG G__law_text T.g__law_text (hr.mono (by decide)) pass0 (pa_cons (pv 0) pa_nil)) (pa_cons pe_int pa_nil))))))))))))), ?_⟩
    refine ⟨_, rfl, _, _, rfl, rfl, ⟨by decide, by decide, by decide⟩, p, c, ns, ro, _, rfl, S, hl, by decide, by decide, fun d1 H1 _ _ S1 k1 => ?_⟩
    refine ⟨_, rfl, _, _, rfl, rfl, ⟨by decide, by decide, by decide⟩, p, c, ns, ro, _, rfl, S1, hl, by decide, by decide, fun d2 H2 _ _ S2 k2 => ?_⟩
    refine ⟨(by show 2 ≤ sizeLine; decide), fun L hL => ?_⟩
    have S3 : Src (upd H2 L (.lst [.int d1, .int d2])) p c ns ro := S2.keep (Same.nu hL)
    have k3 : Sb p H (upd H2 L (.lst [.int d1, .int d2])) := (k1.trans k2).trans (Sb.new hL)
    have eL : (upd H2 L (.lst [.int d1, .int d2])) L = some (.lst [.int d1, .int d2]) := upd_same
    generalize upd H2 L (.lst [.int d1, .int d2]) = H3 at S3 k3 eL
    have fin : ∀ (a b d : V) (H' : Hp), Okv K H' a → Okv K H' b → Okv K H' d → Src H' p c ns ro → Sb p H3 H' → ∀ l, H' l = none → Q (.ref l) (upd H' l (.lst [a, b, d])) := fun a b d H' ha hb hd S' k' l hn =>
      k l a b d _ upd_same (ha.same (Same.nu hn)) (hb.same (Same.nu hn)) (hd.same (Same.nu hn)) (S'.keep (Same.nu hn)) ((k3.trans k').trans (Sb.new hn))
    -- which == 0
    refine ⟨_, rfl, rfl, _, rfl, ite2 (fun _ => ?_) (fun _ => ?_)⟩
    · refine ⟨(by show 2 ≤ sizeLine; decide), fun t ht => ⟨_, rfl, p, c, ns, ro, rfl, S3.keep (Same.nu ht), hl, fun v H4 hv S4 k4 => ⟨(by show 4 ≤ sizeLine; decide), fun q hq => ?_⟩⟩⟩
      have t4 : H4 t = some (.tup [.int 1, .int 2]) := k4 t _ (S3.dne ht) upd_same
      refine ⟨_, rfl, p, c, ns, ro, _, rfl, S4.keep (Same.nu hq), hl, by decide, by decide, fun d H5 g0 g1 S5 k5 => ?_⟩
      have q5 := k5 q _ (S4.dne hq) upd_same
      have t5 : H5 t = some (.tup [.int 1, .int 2]) := k5 t _ ((S3.dne ht)) (by rw [upd_ne (ne_of_none t4 hq)]; exact t4)
      have kk : Sb p H3 H5 := (((Sb.new ht).trans k4).trans (Sb.new hq)).trans k5
      rcases four g0 g1 with rfl | rfl | rfl | rfl
      · exact ⟨q, _, _, _, rfl, rfl, SqL.of q5, at_of (j := 0) rfl rfl, (by show 3 ≤ sizeLine; decide), fin _ _ _ _ (.inl rfl) .i .i S5 kk⟩
      · exact ⟨q, _, _, _, rfl, rfl, SqL.of q5, at_of (j := 1) rfl rfl, (by show 3 ≤ sizeLine; decide), fin _ _ _ _ (.inr (.inl ⟨_, rfl⟩)) .i .i S5 kk⟩
      · exact ⟨q, _, _, _, rfl, rfl, SqL.of q5, at_of (j := 2) rfl rfl, (by show 3 ≤ sizeLine; decide), fin _ _ _ _ (.inr (.inr (.inr (.inr ⟨t, _, rfl, t5, by decide, by
          intro y hy
          simp only [List.mem_cons, List.mem_nil_iff, or_false] at hy
          rcases hy with rfl | rfl <;> exact .inl ⟨_, rfl⟩⟩)))) .i .i S5 kk⟩
      · exact ⟨q, _, _, _, rfl, rfl, SqL.of q5, at_of (j := 3) rfl rfl, (by show 3 ≤ sizeLine; decide), fin _ _ _ _ (.key hv) .i .i S5 kk⟩
    -- which < 3
    refine ⟨_, rfl, _, _, rfl, rfl, _, rfl, ite2 (fun _ => ?_) (fun _ => ?_)⟩
    · exact ⟨_, rfl, p, c, ns, ro, rfl, S3, hl, fun v H4 hv S4 k4 => ⟨(by show 3 ≤ sizeLine; decide), fin _ _ _ _ (.key hv) .i .i S4 k4⟩⟩
    -- in the list
    refine ⟨_, rfl, (by show 4 ≤ sizeLine; decide), fun M hM => ⟨M, _, rfl, .inl (SqL.of upd_same), rfl, rfl, _, rfl, ite2 (fun _ => ?_) (fun _ => ?_)⟩⟩
    · refine ⟨_, rfl, (by show 1 ≤ sizeLine; decide), fun z hz => ⟨L, z, _, _, rfl, rfl, (Same.nu hz) _ _ ((Same.nu hM) _ _ eL), upd_same, (by show 2 + 1 ≤ sizeLine; decide), fun l hn => ?_⟩⟩
      exact fin _ _ _ _ .i .i .i ((S3.keep (Same.nu hM)).keep (Same.nu hz)) ((Sb.new hM).trans (Sb.new hz)) l hn
    have S4 := S3.keep (H' := upd H3 M (.lst [.int 3, .int 4, .int 12, .int 13])) (Same.nu hM)
    have k4 : Sb p H3 (upd H3 M (.lst [.int 3, .int 4, .int 12, .int 13])) := Sb.new hM
    have L4 := (Same.nu (o := HO.lst [.int 3, .int 4, .int 12, .int 13]) hM) _ _ eL
    -- 6 or 7
    refine ⟨_, rfl, rfl, _, rfl, ite2 (fun _ => iteT ?_) (fun _ => ⟨_, rfl, rfl, _, rfl, ite2 (fun _ => ?_) (fun _ => ?_)⟩)⟩
    · refine ⟨_, rfl, p, c, ns, ro, rfl, S4, hl, fun s H5 S5 k5 => ⟨_, rfl, p, c, ns, ro, rfl, S5, hl, fun t ys H6 e1 e2 e3 S6 k6 => ⟨(by show 3 ≤ sizeLine; decide), ?_⟩⟩⟩
      exact fin _ _ _ _ .s (.inr (.inr (.inr (.inr ⟨t, ys, rfl, e1, e2, e3⟩)))) .i S6 ((k4.trans k5).trans k6)
    · refine ⟨_, rfl, p, c, ns, ro, rfl, S4, hl, fun s H5 S5 k5 => ⟨_, rfl, p, c, ns, ro, rfl, S5, hl, fun t ys H6 e1 e2 e3 S6 k6 => ⟨(by show 3 ≤ sizeLine; decide), ?_⟩⟩⟩
      exact fin _ _ _ _ .s (.inr (.inr (.inr (.inr ⟨t, ys, rfl, e1, e2, e3⟩)))) .i S6 ((k4.trans k5).trans k6)
    -- 8
    refine ⟨_, rfl, rfl, _, rfl, ite2 (fun _ => ?_) (fun _ => ?_)⟩
    · refine ⟨_, rfl, p, c, ns, ro, rfl, S4, hl, fun s H5 S5 k5 => ⟨_, rfl, p, c, ns, ro, rfl, S5, hl, fun s2 H6 S6 k6 => ⟨_, rfl, p, c, ns, ro, rfl, S6, hl, fun t ys H7 e1 e2 e3 S7 k7 => ⟨(by show 3 ≤ sizeLine; decide), ?_⟩⟩⟩⟩
      exact fin _ _ _ _ .s .s (.inr (.inr (.inr (.inr ⟨t, ys, rfl, e1, e2, e3⟩)))) S7 (((k4.trans k5).trans k6).trans k7)
    -- 9 and a draw
    have last : ∀ H5, Src H5 p c ns ro → Sb p H3 H5 → ∀ s H6, Src H6 p c ns ro → Sb p H5 H6 → ∀ s2 H7, Src H7 p c ns ro → Sb p H6 H7 → ∀ l, H7 l = none → Q (.ref l) (upd H7 l (.lst [.str s, .str s2, .int 0])) :=
      fun H5 S5 k5 s H6 S6 k6 s2 H7 S7 k7 l hn => fin _ _ _ _ .s .s .i S7 ((k5.trans k6).trans k7) l hn
    refine ⟨_, rfl, rfl, _, rfl, ite2 (fun _ => ?_) (fun _ => iteF ?_)⟩
    · refine ⟨_, rfl, p, c, ns, ro, _, rfl, S4, hl, by decide, by decide, fun d H5 g0 g1 S5 k5 => ⟨rfl, _, rfl, ite2 (fun _ => ?_) (fun _ => ?_)⟩⟩
      · refine ⟨_, rfl, (by show 1 ≤ sizeLine; decide), fun z hz => ⟨L, z, _, _, rfl, rfl, (Same.nu hz) _ _ (k5 _ _ (by
          intro e
          obtain ⟨_, _, _, e1, _⟩ := S3.ex
          rw [e, e1] at eL
          cases eL) L4), upd_same, (by show 2 + 1 ≤ sizeLine; decide), fun l hn => ?_⟩⟩
        exact fin _ _ _ _ .i .i .i (S5.keep (Same.nu hz)) ((k4.trans k5).trans (Sb.new hz)) l hn
      · exact ⟨_, rfl, p, c, ns, ro, rfl, S5, hl, fun s H6 S6 k6 => ⟨_, rfl, p, c, ns, ro, rfl, S6, hl, fun s2 H7 S7 k7 => ⟨(by show 3 ≤ sizeLine; decide), last H5 S5 (k4.trans k5) s H6 S6 k6 s2 H7 S7 k7⟩⟩⟩
    · exact ⟨_, rfl, p, c, ns, ro, rfl, S4, hl, fun s H6 S6 k6 => ⟨_, rfl, p, c, ns, ro, rfl, S6, hl, fun s2 H7 S7 k7 => ⟨(by show 3 ≤ sizeLine; decide), last _ S4 k4 s H6 S6 k6 s2 H7 S7 k7⟩⟩⟩
end
end Kt
set_option Elab.async false
set_option linter.all false
set_option maxRecDepth 100000
set_option maxHeartbeats 4000000
namespace Kt
open PySem PySem.Spec PyProof.Rows L2
section
variable {P : Program} {w : World} {K : PySem.W.Frag} {mg : Str → Option Value} {base : Heap}
/-- what is wished of an error that a def raises -/
def spRaise (K : PySem.W.Frag) (lo hi : Nat) (three : Bool) : Sp := fun vs H _ E => ∃ (n : Nat) (a b c : V), vs = (if three then [.int (n : Int), a, b, c] else [.int (n : Int), a, b]) ∧ lo ≤ n ∧ n < hi ∧
  ∀ d H', H d = none → H' d = some (.xd (flv n a b c)) → Same H H' → E (.ref (ca K n)) (some d) H'
theorem rais_end {H H2 : Hp} {a D d : Addr} {fs : List (Str × V)} (ha : H a = none) (hd : (upd H a (exo a D none)) d = none) (hk : ∀ b o, b ≠ a → (upd H a (exo a D none)) b = some o → H2 b = some o) :
    H d = none ∧ Same H (upd (del H2 a) d (.xd fs)) := by
  have e : d ≠ a := fun z => by
    rw [z, upd_same] at hd
    cases hd
  have hd' : H d = none := by
    rw [upd_ne e] at hd
    exact hd
  refine ⟨hd', fun b o q => ?_⟩
  have nb : b ≠ a := ne_of_none q ha
  rw [upd_ne (ne_of_none q hd'), del_ne nb]
  exact hk b o nb (by rw [upd_ne nb]; exact q)
theorem ok__law_raise_early (T : Tx w K mg) : Gd P w K base mg (CX P w) 3 (He.fAd K d__law_raise_early.at_) ["_law_which", "_law_a", "_law_b", "_law_c"] [] (spRaise K 0 9 true) := by
  have G_BadKey := ok_BadKey (P := P) (w := w) (base := base) T
  have G_DoubleKey := ok_DoubleKey (P := P) (w := w) (base := base) T
  have G_NoKey := ok_NoKey (P := P) (w := w) (base := base) T
  have G_NotText := ok_NotText (P := P) (w := w) (base := base) T
  have G_TooDeep := ok_TooDeep (P := P) (w := w) (base := base) T
  have G_BadOption := ok_BadOption (P := P) (w := w) (base := base) T
  have G_Unwritable := ok_Unwritable (P := P) (w := w) (base := base) T
  have G_Unreadable := ok_Unreadable (P := P) (w := w) (base := base) T
  have G_Refused := ok_Refused (P := P) (w := w) (base := base) T
  refine mkGdX (T.f__law_raise_early) sc__law_raise_early (fun vs H Q E h => ?_) (fun _ _ _ _ _ _ us hl => match us, hl with | [_, _, _, _], _ => rfl) (fun cdv A outer s H vs Q E hr h => ?_)
  · obtain ⟨n, a, b, c, rfl, _⟩ := h
    rfl
  · have hu := hu_of hr
    obtain ⟨n, a, b, c, rfl, hlo, hhi, k⟩ := h
    refine ⟨_, (pss_cons (ps_if (pt_cmpR op_eq (pv 0) pe_int (nomark _)) (pss_one (ps_raise rfl (takes_of rfl rfl rfl rfl) (pmk_G (T.ex' (x := "BadKey") (by decide +kernel)) G_BadKey T.g_BadKey (hr.mono (by decide)) pass0 (pa_cons (pv 1) pa_nil)))) pss_nil)
      (pss_cons (ps_if (pt_cmpR op_eq (pv 0) pe_int (nomark _)) (pss_one (ps_raise rfl (takes_of rfl rfl rfl rfl) (pmk_G (T.ex' (x := "DoubleKey") (by decide +kernel)) G_DoubleKey T.g_DoubleKey (hr.mono (by decide)) pass0 (pa_cons (pv 1) pa_nil)))) pss_nil)
      (pss_cons (ps_if (pt_cmpR op_eq (pv 0) pe_int (nomark _)) (pss_one (ps_raise rfl (takes_of rfl rfl rfl rfl) (pmk_G (T.ex' (x := "NoKey") (by decide +kernel)) G_NoKey T.g_NoKey (hr.mono (by decide)) pass0 (pa_cons (pv 1) pa_nil)))) pss_nil)
      (pss_cons (ps_if (pt_cmpR op_eq (pv 0) pe_int (nomark _)) (pss_one (ps_raise rfl (takes_of rfl rfl rfl rfl) (pmk_G (T.ex' (x := "NotText") (by decide +kernel)) G_NotText T.g_NotText (hr.mono (by decide)) pass0 (pa_cons (pv 1) pa_nil)))) pss_nil)
      (pss_cons (ps_if (pt_cmpR op_eq (pv 0) pe_int (nomark _)) (pss_one (ps_raise rfl (takes_of rfl rfl rfl rfl) (pmk_G (T.ex' (x := "TooDeep") (by decide +kernel)) G_TooDeep T.g_TooDeep (hr.mono (by decide)) pass0 (pa_cons (pv 1) pa_nil)))) pss_nil)
      (pss_cons (ps_if (pt_cmpR op_eq (pv 0) pe_int (nomark _)) (pss_one (ps_raise rfl (takes_of rfl rfl rfl rfl) (pmk_G (T.ex' (x := "BadOption") (by decide +kernel)) G_BadOption T.g_BadOption (hr.mono (by decide)) pass0 (pa_cons (pv 1) (pa_cons (pv 2) pa_nil))))) pss_nil)
      (pss_cons (ps_if (pt_cmpR op_eq (pv 0) pe_int (nomark _)) (pss_one (ps_raise rfl (takes_of rfl rfl rfl rfl) (pmk_G (T.ex' (x := "Unwritable") (by decide +kernel)) G_Unwritable T.g_Unwritable (hr.mono (by decide)) pass0 (pa_cons (pv 1) (pa_cons (pv 2) pa_nil))))) pss_nil)
      (pss_cons (ps_if (pt_cmpR op_eq (pv 0) pe_int (nomark _)) (pss_one (ps_raise rfl (takes_of rfl rfl rfl rfl) (pmk_G (T.ex' (x := "Unreadable") (by decide +kernel)) G_Unreadable T.g_Unreadable (hr.mono (by decide)) pass0 (pa_cons (pv 1) (pa_cons (pv 2) pa_nil))))) pss_nil)
      (pss_one (ps_raise rfl (takes_of rfl rfl rfl rfl) (pmk_G (T.ex' (x := "Refused") (by decide +kernel)) G_Refused T.g_Refused (hr.mono (by decide)) pass0 (pa_cons (pv 1) (pa_cons (pv 2) (pa_cons (pv 3) pa_nil)))))))))))))), ?_⟩
    refine ⟨_, rfl, rfl, _, rfl, ite2 (fun h => ?_) (fun h0 => ?_)⟩
    · obtain rfl : n = 0 := natk (m := 0) h
      exact ⟨_, rfl, (by show 1 ≤ 1000; decide), fun x hx => ⟨x, _, _, rfl, rfl, upd_same, (T.ex' (x := "BadKey") (by decide +kernel)).o, by
          intro f hf
          simp only [List.mem_cons, List.mem_nil_iff, or_false] at hf
          subst hf; exact T.a_BadKey_key, fun dx H1 hdx _ he hk => ⟨rfl, dx, _, he.1, he.2, (rais_end (fs := []) hx hdx hk).1, k dx _ (rais_end (fs := []) hx hdx hk).1 upd_same (rais_end hx hdx hk).2⟩⟩⟩
    refine ⟨_, rfl, rfl, _, rfl, ite2 (fun h => ?_) (fun h1 => ?_)⟩
    · obtain rfl : n = 1 := natk (m := 1) h
      exact ⟨_, rfl, (by show 1 ≤ 1000; decide), fun x hx => ⟨x, _, _, rfl, rfl, upd_same, (T.ex' (x := "DoubleKey") (by decide +kernel)).o, by
          intro f hf
          simp only [List.mem_cons, List.mem_nil_iff, or_false] at hf
          subst hf; exact T.a_DoubleKey_key, fun dx H1 hdx _ he hk => ⟨rfl, dx, _, he.1, he.2, (rais_end (fs := []) hx hdx hk).1, k dx _ (rais_end (fs := []) hx hdx hk).1 upd_same (rais_end hx hdx hk).2⟩⟩⟩
    refine ⟨_, rfl, rfl, _, rfl, ite2 (fun h => ?_) (fun h2 => ?_)⟩
    · obtain rfl : n = 2 := natk (m := 2) h
      exact ⟨_, rfl, (by show 1 ≤ 1000; decide), fun x hx => ⟨x, _, _, rfl, rfl, upd_same, (T.ex' (x := "NoKey") (by decide +kernel)).o, by
          intro f hf
          simp only [List.mem_cons, List.mem_nil_iff, or_false] at hf
          subst hf; exact T.a_NoKey_key, fun dx H1 hdx _ he hk => ⟨rfl, dx, _, he.1, he.2, (rais_end (fs := []) hx hdx hk).1, k dx _ (rais_end (fs := []) hx hdx hk).1 upd_same (rais_end hx hdx hk).2⟩⟩⟩
    refine ⟨_, rfl, rfl, _, rfl, ite2 (fun h => ?_) (fun h3 => ?_)⟩
    · obtain rfl : n = 3 := natk (m := 3) h
      exact ⟨_, rfl, (by show 1 ≤ 1000; decide), fun x hx => ⟨x, _, _, rfl, rfl, upd_same, (T.ex' (x := "NotText") (by decide +kernel)).o, by
          intro f hf
          simp only [List.mem_cons, List.mem_nil_iff, or_false] at hf
          subst hf; exact T.a_NotText_position, fun dx H1 hdx _ he hk => ⟨rfl, dx, _, he.1, he.2, (rais_end (fs := []) hx hdx hk).1, k dx _ (rais_end (fs := []) hx hdx hk).1 upd_same (rais_end hx hdx hk).2⟩⟩⟩
    refine ⟨_, rfl, rfl, _, rfl, ite2 (fun h => ?_) (fun h4 => ?_)⟩
    · obtain rfl : n = 4 := natk (m := 4) h
      exact ⟨_, rfl, (by show 1 ≤ 1000; decide), fun x hx => ⟨x, _, _, rfl, rfl, upd_same, (T.ex' (x := "TooDeep") (by decide +kernel)).o, by
          intro f hf
          simp only [List.mem_cons, List.mem_nil_iff, or_false] at hf
          subst hf; exact T.a_TooDeep_position, fun dx H1 hdx _ he hk => ⟨rfl, dx, _, he.1, he.2, (rais_end (fs := []) hx hdx hk).1, k dx _ (rais_end (fs := []) hx hdx hk).1 upd_same (rais_end hx hdx hk).2⟩⟩⟩
    refine ⟨_, rfl, rfl, _, rfl, ite2 (fun h => ?_) (fun h5 => ?_)⟩
    · obtain rfl : n = 5 := natk (m := 5) h
      exact ⟨_, rfl, _, rfl, (by show 2 ≤ 1000; decide), fun x hx => ⟨x, _, _, rfl, rfl, upd_same, (T.ex' (x := "BadOption") (by decide +kernel)).o, by
          intro f hf
          simp only [List.mem_cons, List.mem_nil_iff, or_false] at hf
          rcases hf with rfl | rfl
          · exact T.a_BadOption_name
          · exact T.a_BadOption_value
          , fun dx H1 hdx _ he hk => ⟨rfl, dx, _, he.1, he.2, (rais_end (fs := []) hx hdx hk).1, k dx _ (rais_end (fs := []) hx hdx hk).1 upd_same (rais_end hx hdx hk).2⟩⟩⟩
    refine ⟨_, rfl, rfl, _, rfl, ite2 (fun h => ?_) (fun h6 => ?_)⟩
    · obtain rfl : n = 6 := natk (m := 6) h
      exact ⟨_, rfl, _, rfl, (by show 2 ≤ 1000; decide), fun x hx => ⟨x, _, _, rfl, rfl, upd_same, (T.ex' (x := "Unwritable") (by decide +kernel)).o, by
          intro f hf
          simp only [List.mem_cons, List.mem_nil_iff, or_false] at hf
          rcases hf with rfl | rfl
          · exact T.a_Unwritable_reason
          · exact T.a_Unwritable_path
          , fun dx H1 hdx _ he hk => ⟨rfl, dx, _, he.1, he.2, (rais_end (fs := []) hx hdx hk).1, k dx _ (rais_end (fs := []) hx hdx hk).1 upd_same (rais_end hx hdx hk).2⟩⟩⟩
    refine ⟨_, rfl, rfl, _, rfl, ite2 (fun h => ?_) (fun h7 => ?_)⟩
    · obtain rfl : n = 7 := natk (m := 7) h
      exact ⟨_, rfl, _, rfl, (by show 2 ≤ 1000; decide), fun x hx => ⟨x, _, _, rfl, rfl, upd_same, (T.ex' (x := "Unreadable") (by decide +kernel)).o, by
          intro f hf
          simp only [List.mem_cons, List.mem_nil_iff, or_false] at hf
          rcases hf with rfl | rfl
          · exact T.a_Unreadable_reason
          · exact T.a_Unreadable_path
          , fun dx H1 hdx _ he hk => ⟨rfl, dx, _, he.1, he.2, (rais_end (fs := []) hx hdx hk).1, k dx _ (rais_end (fs := []) hx hdx hk).1 upd_same (rais_end hx hdx hk).2⟩⟩⟩
    obtain rfl : n = 8 := by
      have := natn (m := 0) h0
      have := natn (m := 1) h1
      have := natn (m := 2) h2
      have := natn (m := 3) h3
      have := natn (m := 4) h4
      have := natn (m := 5) h5
      have := natn (m := 6) h6
      have := natn (m := 7) h7
      omega
    exact ⟨_, rfl, _, rfl, _, rfl, (by show 3 ≤ 1000; decide), fun x hx => ⟨x, _, _, rfl, rfl, upd_same, (T.ex' (x := "Refused") (by decide +kernel)).o, by
          intro f hf
          simp only [List.mem_cons, List.mem_nil_iff, or_false] at hf
          rcases hf with rfl | rfl | rfl
          · exact T.a_Refused_side
          · exact T.a_Refused_reason
          · exact T.a_Refused_path
          , fun dx H1 hdx _ he hk => ⟨rfl, dx, _, he.1, he.2, (rais_end (fs := []) hx hdx hk).1, k dx _ (rais_end (fs := []) hx hdx hk).1 upd_same (rais_end hx hdx hk).2⟩⟩⟩
theorem ok__law_raise_late (T : Tx w K mg) : Gd P w K base mg (CX P w) 3 (He.fAd K d__law_raise_late.at_) ["_law_which", "_law_a", "_law_b"] [] (spRaise K 9 16 false) := by
  have G_BadCondition := ok_BadCondition (P := P) (w := w) (base := base) T
  have G_BadLabel := ok_BadLabel (P := P) (w := w) (base := base) T
  have G_NoLabel := ok_NoLabel (P := P) (w := w) (base := base) T
  have G_BadStep := ok_BadStep (P := P) (w := w) (base := base) T
  have G_WrongNumber := ok_WrongNumber (P := P) (w := w) (base := base) T
  have G_TooMuch := ok_TooMuch (P := P) (w := w) (base := base) T
  have G_NoGuard := ok_NoGuard (P := P) (w := w) (base := base) T
  refine mkGdX (T.f__law_raise_late) sc__law_raise_late (fun vs H Q E h => ?_) (fun _ _ _ _ _ _ us hl => match us, hl with | [_, _, _], _ => rfl) (fun cdv A outer s H vs Q E hr h => ?_)
  · obtain ⟨n, a, b, c, rfl, _⟩ := h
    rfl
  · have hu := hu_of hr
    obtain ⟨n, a, b, c, rfl, hlo, hhi, k⟩ := h
    refine ⟨_, (pss_cons (ps_if (pt_cmpR op_eq (pv 0) pe_int (nomark _)) (pss_one (ps_raise rfl (takes_of rfl rfl rfl rfl) (pmk_G (T.ex' (x := "BadCondition") (by decide +kernel)) G_BadCondition T.g_BadCondition (hr.mono (by decide)) pass0 (pa_cons (pv 1) pa_nil)))) pss_nil)
      (pss_cons (ps_if (pt_cmpR op_eq (pv 0) pe_int (nomark _)) (pss_one (ps_raise rfl (takes_of rfl rfl rfl rfl) (pmk_G (T.ex' (x := "BadLabel") (by decide +kernel)) G_BadLabel T.g_BadLabel (hr.mono (by decide)) pass0 (pa_cons (pv 1) pa_nil)))) pss_nil)
      (pss_cons (ps_if (pt_cmpR op_eq (pv 0) pe_int (nomark _)) (pss_one (ps_raise rfl (takes_of rfl rfl rfl rfl) (pmk_G (T.ex' (x := "NoLabel") (by decide +kernel)) G_NoLabel T.g_NoLabel (hr.mono (by decide)) pass0 (pa_cons (pv 1) pa_nil)))) pss_nil)
      (pss_cons (ps_if (pt_cmpR op_eq (pv 0) pe_int (nomark _)) (pss_one (ps_raise rfl (takes_of rfl rfl rfl rfl) (pmk_G (T.ex' (x := "BadStep") (by decide +kernel)) G_BadStep T.g_BadStep (hr.mono (by decide)) pass0 (pa_cons (pv 1) pa_nil)))) pss_nil)
      (pss_cons (ps_if (pt_cmpR op_eq (pv 0) pe_int (nomark _)) (pss_one (ps_raise rfl (takes_of rfl rfl rfl rfl) (pmk_G (T.ex' (x := "WrongNumber") (by decide +kernel)) G_WrongNumber T.g_WrongNumber (hr.mono (by decide)) pass0 (pa_cons (pv 1) (pa_cons (pv 2) pa_nil))))) pss_nil)
      (pss_cons (ps_if (pt_cmpR op_eq (pv 0) pe_int (nomark _)) (pss_one (ps_raise rfl (takes_of rfl rfl rfl rfl) (pmk_G (T.ex' (x := "TooMuch") (by decide +kernel)) G_TooMuch T.g_TooMuch (hr.mono (by decide)) pass0 (pa_cons (pv 1) pa_nil)))) pss_nil)
      (pss_one (ps_raise rfl (takes_of rfl rfl rfl rfl) (pmk_G (T.ex' (x := "NoGuard") (by decide +kernel)) G_NoGuard T.g_NoGuard (hr.mono (by decide)) pass0 (pa_cons (pv 1) pa_nil)))))))))), ?_⟩
    refine ⟨_, rfl, rfl, _, rfl, ite2 (fun h => ?_) (fun h9 => ?_)⟩
    · obtain rfl : n = 9 := natk (m := 9) h
      exact ⟨_, rfl, (by show 1 ≤ 1000; decide), fun x hx => ⟨x, _, _, rfl, rfl, upd_same, (T.ex' (x := "BadCondition") (by decide +kernel)).o, by
          intro f hf
          simp only [List.mem_cons, List.mem_nil_iff, or_false] at hf
          subst hf; exact T.a_BadCondition_value, fun dx H1 hdx _ he hk => ⟨rfl, dx, _, he.1, he.2, (rais_end (fs := []) hx hdx hk).1, k dx _ (rais_end (fs := []) hx hdx hk).1 upd_same (rais_end hx hdx hk).2⟩⟩⟩
    refine ⟨_, rfl, rfl, _, rfl, ite2 (fun h => ?_) (fun h10 => ?_)⟩
    · obtain rfl : n = 10 := natk (m := 10) h
      exact ⟨_, rfl, (by show 1 ≤ 1000; decide), fun x hx => ⟨x, _, _, rfl, rfl, upd_same, (T.ex' (x := "BadLabel") (by decide +kernel)).o, by
          intro f hf
          simp only [List.mem_cons, List.mem_nil_iff, or_false] at hf
          subst hf; exact T.a_BadLabel_name, fun dx H1 hdx _ he hk => ⟨rfl, dx, _, he.1, he.2, (rais_end (fs := []) hx hdx hk).1, k dx _ (rais_end (fs := []) hx hdx hk).1 upd_same (rais_end hx hdx hk).2⟩⟩⟩
    refine ⟨_, rfl, rfl, _, rfl, ite2 (fun h => ?_) (fun h11 => ?_)⟩
    · obtain rfl : n = 11 := natk (m := 11) h
      exact ⟨_, rfl, (by show 1 ≤ 1000; decide), fun x hx => ⟨x, _, _, rfl, rfl, upd_same, (T.ex' (x := "NoLabel") (by decide +kernel)).o, by
          intro f hf
          simp only [List.mem_cons, List.mem_nil_iff, or_false] at hf
          subst hf; exact T.a_NoLabel_label, fun dx H1 hdx _ he hk => ⟨rfl, dx, _, he.1, he.2, (rais_end (fs := []) hx hdx hk).1, k dx _ (rais_end (fs := []) hx hdx hk).1 upd_same (rais_end hx hdx hk).2⟩⟩⟩
    refine ⟨_, rfl, rfl, _, rfl, ite2 (fun h => ?_) (fun h12 => ?_)⟩
    · obtain rfl : n = 12 := natk (m := 12) h
      exact ⟨_, rfl, (by show 1 ≤ 1000; decide), fun x hx => ⟨x, _, _, rfl, rfl, upd_same, (T.ex' (x := "BadStep") (by decide +kernel)).o, by
          intro f hf
          simp only [List.mem_cons, List.mem_nil_iff, or_false] at hf
          subst hf; exact T.a_BadStep_index, fun dx H1 hdx _ he hk => ⟨rfl, dx, _, he.1, he.2, (rais_end (fs := []) hx hdx hk).1, k dx _ (rais_end (fs := []) hx hdx hk).1 upd_same (rais_end hx hdx hk).2⟩⟩⟩
    refine ⟨_, rfl, rfl, _, rfl, ite2 (fun h => ?_) (fun h13 => ?_)⟩
    · obtain rfl : n = 13 := natk (m := 13) h
      exact ⟨_, rfl, _, rfl, (by show 2 ≤ 1000; decide), fun x hx => ⟨x, _, _, rfl, rfl, upd_same, (T.ex' (x := "WrongNumber") (by decide +kernel)).o, by
          intro f hf
          simp only [List.mem_cons, List.mem_nil_iff, or_false] at hf
          rcases hf with rfl | rfl
          · exact T.a_WrongNumber_wanted
          · exact T.a_WrongNumber_given
          , fun dx H1 hdx _ he hk => ⟨rfl, dx, _, he.1, he.2, (rais_end (fs := []) hx hdx hk).1, k dx _ (rais_end (fs := []) hx hdx hk).1 upd_same (rais_end hx hdx hk).2⟩⟩⟩
    refine ⟨_, rfl, rfl, _, rfl, ite2 (fun h => ?_) (fun h14 => ?_)⟩
    · obtain rfl : n = 14 := natk (m := 14) h
      exact ⟨_, rfl, (by show 1 ≤ 1000; decide), fun x hx => ⟨x, _, _, rfl, rfl, upd_same, (T.ex' (x := "TooMuch") (by decide +kernel)).o, by
          intro f hf
          simp only [List.mem_cons, List.mem_nil_iff, or_false] at hf
          subst hf; exact T.a_TooMuch_what, fun dx H1 hdx _ he hk => ⟨rfl, dx, _, he.1, he.2, (rais_end (fs := []) hx hdx hk).1, k dx _ (rais_end (fs := []) hx hdx hk).1 upd_same (rais_end hx hdx hk).2⟩⟩⟩
    obtain rfl : n = 15 := by
      have := natn (m := 9) h9
      have := natn (m := 10) h10
      have := natn (m := 11) h11
      have := natn (m := 12) h12
      have := natn (m := 13) h13
      have := natn (m := 14) h14
      omega
    exact ⟨_, rfl, (by show 1 ≤ 1000; decide), fun x hx => ⟨x, _, _, rfl, rfl, upd_same, (T.ex' (x := "NoGuard") (by decide +kernel)).o, by
          intro f hf
          simp only [List.mem_cons, List.mem_nil_iff, or_false] at hf
          subst hf; exact T.a_NoGuard_name, fun dx H1 hdx _ he hk => ⟨rfl, dx, _, he.1, he.2, (rais_end (fs := []) hx hdx hk).1, k dx _ (rais_end (fs := []) hx hdx hk).1 upd_same (rais_end hx hdx hk).2⟩⟩⟩
/-- isinstance of the error that a suite holds, its class told by the reading -/
def rIsD2 (K : PySem.W.Frag) (cls : Value) (a : Addr) (d : Option Addr) : List V → Hp → VK → Prop := fun xs H Q => ∃ (D : Addr) (c : V) (cv : Value) (b : Bool) (dd : Addr) (fs : List (Str × V)),
  cls = .ref D ∧ ExcC K D ∧ xs = [.ref a, c] ∧ (∀ u, RelV c u → u = cv) ∧ d = some dd ∧ H dd = some (.xd fs) ∧ PySem.W.kitOne K (.ref D) cv = some b ∧ Q (.bl b) H
theorem call_isD2 {X : Cx} {a : Addr} {cls : Value} {d : Option Addr} {oe : Obj} {pn : List (Addr × Obj)} (hz : Zc cls d oe) (hf : ∃ vs, oe.data = .fields vs) :
    CallR (X.suite a ((a, oe) :: pn)) (.builtin "isinstance") (rIsD2 X.K cls a d) := by
  intro pins s σ H xs us Q I r h
  obtain ⟨D, c, cv, b, dd, fs, rfl, C, rest⟩ := h
  exact call_isD C hz hf pins s σ H xs us Q I r ⟨c, cv, b, dd, fs, rest⟩
theorem pe_callXS {X : Cx} {CX : CXT} {k : Nat} {f : Addr} {ps : List Str} {sp : Sp} {E : L2.St → XK} {x : Str} {p pos : Pos} {e : Expr} {es : List Expr} {t : TA}
    (F : Gd X.prog X.w X.K X.base X.mg CX k f ps [] sp) (hm : X.mg x = some (.ref f)) (hr : Room k X.A) (hx : ∀ σ, PassesAt CX X σ (E σ)) (ha : PA X (e :: es) t) (hg : Gl X x := by rfl)
    (hdb : (x == ("__debug__" : Str)) = false := by decide) (he : starEach (e :: es) X.env = (false, eval e X.env) :: starEach es X.env := by rfl)
    (hpl : (backTo pos (starEach es X.env)).any (·.1) = false := by rfl) : PE X (.Call (.Name x p) (e :: es) [] pos) (tCallS sp E t) := by
  obtain ⟨fd, dv, F1, hd, hb⟩ := F.ok
  cases hd
  exact pe_callS F1 hr hg hm F.kp hb hx ha hdb he hpl
def spCaught : Sp := fun vs H Q _ => ∃ (n : Nat) (a b c : V), vs = [.int (n : Int), a, b, c] ∧ n < 16 ∧ ∀ H', Same H H' → Q (.bl true) H'
theorem ok__law_caught (T : Tx w K mg) : Gd P w K base mg CX0 5 (He.fAd K d__law_caught.at_) ["_law_which", "_law_a", "_law_b", "_law_c"] [] spCaught := by
  refine mkGd (T.f__law_caught) sc__law_caught (fun vs H Q E h => ?_) (fun _ _ _ _ _ _ us hl => match us, hl with | [_, _, _, _], _ => rfl) (fun cdv A outer s H vs Q E hr h => ?_)
  · obtain ⟨n, a, b, c, rfl, _⟩ := h
    rfl
  · have hu := hu_of hr
    obtain ⟨n, a, b, c, rfl, hn, k⟩ := h
    have G_early := ok__law_raise_early (P := P) (w := w) (base := base) T
    have G_late := ok__law_raise_late (P := P) (w := w) (base := base) T
    refine ⟨_, (pss_cons (ps_try_as (i := 4) rfl rfl sc__law_caught.nd rfl rfl ⟨rfl, by decide, .inl T.g_KeysError⟩ takes0 (fun W pn xe tk _ => pss_one (ps_if (pt_cmpR op_lt (pv 0) pe_int (nomark _)) (pss_one (ps_expr (pe_callXS G_early T.g__law_raise_early (hr.mono (by decide)) (fun σ => passAt tk σ) (pa_cons (pv 0) (pa_cons (pv 1) (pa_cons (pv 2) (pa_cons (pv 3) pa_nil))))))) (pss_one (ps_expr (pe_callXS G_late T.g__law_raise_late (hr.mono (by decide)) (fun σ => passAt tk σ) (pa_cons (pv 0) (pa_cons (pv 1) (pa_cons (pv 2) pa_nil)))))))) (fun a oe cls d pn hz hf => pss_one (ps_ret (pe_callB (call_isD2 hz hf) (by rfl) T.n_isinstance (by decide +kernel) (pa_cons (pv 4) (pa_cons (pe_bltn (v := .ty "ValueError") (u := .type "ValueError") (by rfl) T.n_ValueError (by decide +kernel) rfl) pa_nil))))))
      (pss_one (ps_ret pe_bl))), ?_⟩
    have end_ : ∀ {d : Addr} {H' : Hp} {fs : List (Str × V)}, H' d = some (.xd fs) → Same H H' → True := fun _ _ => trivial
    refine ⟨_, rfl, _, _, rfl, rfl, _, rfl, ite2 (fun h => ?_) (fun h => ?_)⟩
    · have h := natlt (m := 9) h
      refine ⟨_, rfl, _, rfl, _, rfl, _, rfl, n, a, b, c, rfl, Nat.zero_le _, h, fun d H' hd he hk => ⟨true, T.exm (cnm_mem hn), fun _ a0 ha0 => ?_, fun q => nomatch q⟩⟩
      exact ⟨_, rfl, _, _, _, _, _, _, rfl, (T.ex' (cnm_mem hn)).e, rfl, (fun u h => h), rfl, he, T.kitV (cnm_mem hn), k _ hk⟩
    · have h := natge (m := 9) h
      refine ⟨_, rfl, _, rfl, _, rfl, n, a, b, c, rfl, h, hn, fun d H' hd he hk => ⟨true, T.exm (cnm_mem hn), fun _ a0 ha0 => ?_, fun q => nomatch q⟩⟩
      exact ⟨_, rfl, _, _, _, _, _, _, rfl, (T.ex' (cnm_mem hn)).e, rfl, (fun u h => h), rfl, he, T.kitV (cnm_mem hn), k _ hk⟩
end
end Kt
set_option Elab.async false
set_option linter.all false
set_option maxRecDepth 100000
set_option maxHeartbeats 4000000
namespace Kt
open PySem PySem.Spec PyProof.Rows L2
section
variable {P : Program} {w : World} {K : PySem.W.Frag} {mg : Str → Option Value} {base : Heap}
def l16 (n m : Nat) : List V := (List.range m).map fun j => V.bl (decide (n = j))
def spClasses (K : PySem.W.Frag) : Sp := fun vs H Q _ => ∃ (n : Nat) (x dx : Addr) (fs : List (Str × V)), vs = [.ref x] ∧ n < 16 ∧ ErrAt H x (ca K n) dx fs ∧
  ∀ l H', H' l = some (.lst (l16 n 16)) → Same H H' → Q (.ref l) H'
theorem Tx.kitn (T : Tx w K mg) {n m : Nat} (hn : n < 16) (hm : m < 16) : PySem.W.kitOne K (.ref (ca K n)) (.ref (ca K m)) = some (decide (n = m)) := by
  rw [T.kit (cnm_mem hn) (cnm_mem hm)]
  have e := cnm_inj hn hm
  by_cases h : n = m
  · rw [decide_eq_true h, decide_eq_true (e.mpr h)]
  · rw [decide_eq_false h, decide_eq_false fun z => h (e.mp z)]
theorem ErrAt.same {H H' : Hp} {x C dx : Addr} {fs : List (Str × V)} (h : ErrAt H x C dx fs) (k : Same H H') : ErrAt H' x C dx fs := ⟨k _ _ h.1, k _ _ h.2⟩
theorem ok__law_classes (T : Tx w K mg) : Gd P w K base mg CX0 1 (He.fAd K d__law_classes.at_) ["_law_x"] [] (spClasses K) := by
  refine mkGd (T.f__law_classes) sc__law_classes (fun vs H Q E h => ?_) (fun _ _ _ _ _ _ us hl => match us, hl with | [_], _ => rfl) (fun cdv A outer s H vs Q E hr h => ?_)
  · obtain ⟨n, x, dx, fs, rfl, _⟩ := h
    rfl
  · have hu := hu_of hr
    obtain ⟨n, x, dx, fs, rfl, hn, he, k⟩ := h
    refine ⟨_, (pss_cons (ps_set (i := 1) sc__law_classes.nd rfl (Or.inl rfl) (pe_lst (pa_cons (pe_callB call_isV (by rfl) T.n_isinstance (by decide +kernel) (pa_cons (pv 0) (pa_cons (pe_glob (v := .ref (He.ga K "BadKey")) rfl T.g_BadKey rfl) pa_nil))) (pa_cons (pe_callB call_isV (by rfl) T.n_isinstance (by decide +kernel) (pa_cons (pv 0) (pa_cons (pe_glob (v := .ref (He.ga K "DoubleKey")) rfl T.g_DoubleKey rfl) pa_nil))) (pa_cons (pe_callB call_isV (by rfl) T.n_isinstance (by decide +kernel) (pa_cons (pv 0) (pa_cons (pe_glob (v := .ref (He.ga K "NoKey")) rfl T.g_NoKey rfl) pa_nil))) (pa_cons (pe_callB call_isV (by rfl) T.n_isinstance (by decide +kernel) (pa_cons (pv 0) (pa_cons (pe_glob (v := .ref (He.ga K "NotText")) rfl T.g_NotText rfl) pa_nil))) pa_nil))))))
      (pss_cons (ps_set (i := 1) sc__law_classes.nd rfl (Or.inl rfl) (pe_op op_cat (pv 1) (pe_lst (pa_cons (pe_callB call_isV (by rfl) T.n_isinstance (by decide +kernel) (pa_cons (pv 0) (pa_cons (pe_glob (v := .ref (He.ga K "TooDeep")) rfl T.g_TooDeep rfl) pa_nil))) (pa_cons (pe_callB call_isV (by rfl) T.n_isinstance (by decide +kernel) (pa_cons (pv 0) (pa_cons (pe_glob (v := .ref (He.ga K "BadOption")) rfl T.g_BadOption rfl) pa_nil))) (pa_cons (pe_callB call_isV (by rfl) T.n_isinstance (by decide +kernel) (pa_cons (pv 0) (pa_cons (pe_glob (v := .ref (He.ga K "Unwritable")) rfl T.g_Unwritable rfl) pa_nil))) pa_nil))))))
      (pss_cons (ps_set (i := 1) sc__law_classes.nd rfl (Or.inl rfl) (pe_op op_cat (pv 1) (pe_lst (pa_cons (pe_callB call_isV (by rfl) T.n_isinstance (by decide +kernel) (pa_cons (pv 0) (pa_cons (pe_glob (v := .ref (He.ga K "Unreadable")) rfl T.g_Unreadable rfl) pa_nil))) (pa_cons (pe_callB call_isV (by rfl) T.n_isinstance (by decide +kernel) (pa_cons (pv 0) (pa_cons (pe_glob (v := .ref (He.ga K "Refused")) rfl T.g_Refused rfl) pa_nil))) (pa_cons (pe_callB call_isV (by rfl) T.n_isinstance (by decide +kernel) (pa_cons (pv 0) (pa_cons (pe_glob (v := .ref (He.ga K "BadCondition")) rfl T.g_BadCondition rfl) pa_nil))) pa_nil))))))
      (pss_cons (ps_set (i := 1) sc__law_classes.nd rfl (Or.inl rfl) (pe_op op_cat (pv 1) (pe_lst (pa_cons (pe_callB call_isV (by rfl) T.n_isinstance (by decide +kernel) (pa_cons (pv 0) (pa_cons (pe_glob (v := .ref (He.ga K "BadLabel")) rfl T.g_BadLabel rfl) pa_nil))) (pa_cons (pe_callB call_isV (by rfl) T.n_isinstance (by decide +kernel) (pa_cons (pv 0) (pa_cons (pe_glob (v := .ref (He.ga K "NoLabel")) rfl T.g_NoLabel rfl) pa_nil))) (pa_cons (pe_callB call_isV (by rfl) T.n_isinstance (by decide +kernel) (pa_cons (pv 0) (pa_cons (pe_glob (v := .ref (He.ga K "BadStep")) rfl T.g_BadStep rfl) pa_nil))) pa_nil))))))
      (pss_one (ps_ret (pe_op op_cat (pv 1) (pe_lst (pa_cons (pe_callB call_isV (by rfl) T.n_isinstance (by decide +kernel) (pa_cons (pv 0) (pa_cons (pe_glob (v := .ref (He.ga K "WrongNumber")) rfl T.g_WrongNumber rfl) pa_nil))) (pa_cons (pe_callB call_isV (by rfl) T.n_isinstance (by decide +kernel) (pa_cons (pv 0) (pa_cons (pe_glob (v := .ref (He.ga K "TooMuch")) rfl T.g_TooMuch rfl) pa_nil))) (pa_cons (pe_callB call_isV (by rfl) T.n_isinstance (by decide +kernel) (pa_cons (pv 0) (pa_cons (pe_glob (v := .ref (He.ga K "NoGuard")) rfl T.g_NoGuard rfl) pa_nil))) pa_nil))))))))))), ?_⟩
    refine ⟨_, rfl, x, _, dx, _, _, _, _, rfl, (T.ex' (cnm_mem hn)).e, he.1, he.2, (fun u h => h), T.kitn (m := 0) hn (by decide), _, rfl, x, _, dx, _, _, _, _, rfl, (T.ex' (cnm_mem hn)).e, he.1, he.2, (fun u h => h), T.kitn (m := 1) hn (by decide), _, rfl, x, _, dx, _, _, _, _, rfl, (T.ex' (cnm_mem hn)).e, he.1, he.2, (fun u h => h), T.kitn (m := 2) hn (by decide), _, rfl, x, _, dx, _, _, _, _, rfl, (T.ex' (cnm_mem hn)).e, he.1, he.2, (fun u h => h), T.kitn (m := 3) hn (by decide), (by show 4 ≤ sizeLine; decide), fun l0 n0 => ?_⟩
    refine ⟨_, rfl, _, rfl, x, _, dx, _, _, _, _, rfl, (T.ex' (cnm_mem hn)).e, (Same.nu n0 _ _ he.1), (Same.nu n0 _ _ he.2), (fun u h => h), T.kitn (m := 4) hn (by decide), _, rfl, x, _, dx, _, _, _, _, rfl, (T.ex' (cnm_mem hn)).e, (Same.nu n0 _ _ he.1), (Same.nu n0 _ _ he.2), (fun u h => h), T.kitn (m := 5) hn (by decide), _, rfl, x, _, dx, _, _, _, _, rfl, (T.ex' (cnm_mem hn)).e, (Same.nu n0 _ _ he.1), (Same.nu n0 _ _ he.2), (fun u h => h), T.kitn (m := 6) hn (by decide), (by show 3 ≤ sizeLine; decide), fun t0 nt0 => ⟨l0, t0, _, _, rfl, rfl, Same.nu nt0 _ _ upd_same, upd_same, (by show 4 + 3 ≤ sizeLine; decide), fun m0 nm0 => ?_⟩⟩
    refine ⟨_, rfl, _, rfl, x, _, dx, _, _, _, _, rfl, (T.ex' (cnm_mem hn)).e, (Same.nu nm0 _ _ (Same.nu nt0 _ _ (Same.nu n0 _ _ he.1))), (Same.nu nm0 _ _ (Same.nu nt0 _ _ (Same.nu n0 _ _ he.2))), (fun u h => h), T.kitn (m := 7) hn (by decide), _, rfl, x, _, dx, _, _, _, _, rfl, (T.ex' (cnm_mem hn)).e, (Same.nu nm0 _ _ (Same.nu nt0 _ _ (Same.nu n0 _ _ he.1))), (Same.nu nm0 _ _ (Same.nu nt0 _ _ (Same.nu n0 _ _ he.2))), (fun u h => h), T.kitn (m := 8) hn (by decide), _, rfl, x, _, dx, _, _, _, _, rfl, (T.ex' (cnm_mem hn)).e, (Same.nu nm0 _ _ (Same.nu nt0 _ _ (Same.nu n0 _ _ he.1))), (Same.nu nm0 _ _ (Same.nu nt0 _ _ (Same.nu n0 _ _ he.2))), (fun u h => h), T.kitn (m := 9) hn (by decide), (by show 3 ≤ sizeLine; decide), fun t1 nt1 => ⟨m0, t1, _, _, rfl, rfl, Same.nu nt1 _ _ upd_same, upd_same, (by show 7 + 3 ≤ sizeLine; decide), fun m1 nm1 => ?_⟩⟩
    refine ⟨_, rfl, _, rfl, x, _, dx, _, _, _, _, rfl, (T.ex' (cnm_mem hn)).e, (Same.nu nm1 _ _ (Same.nu nt1 _ _ (Same.nu nm0 _ _ (Same.nu nt0 _ _ (Same.nu n0 _ _ he.1))))), (Same.nu nm1 _ _ (Same.nu nt1 _ _ (Same.nu nm0 _ _ (Same.nu nt0 _ _ (Same.nu n0 _ _ he.2))))), (fun u h => h), T.kitn (m := 10) hn (by decide), _, rfl, x, _, dx, _, _, _, _, rfl, (T.ex' (cnm_mem hn)).e, (Same.nu nm1 _ _ (Same.nu nt1 _ _ (Same.nu nm0 _ _ (Same.nu nt0 _ _ (Same.nu n0 _ _ he.1))))), (Same.nu nm1 _ _ (Same.nu nt1 _ _ (Same.nu nm0 _ _ (Same.nu nt0 _ _ (Same.nu n0 _ _ he.2))))), (fun u h => h), T.kitn (m := 11) hn (by decide), _, rfl, x, _, dx, _, _, _, _, rfl, (T.ex' (cnm_mem hn)).e, (Same.nu nm1 _ _ (Same.nu nt1 _ _ (Same.nu nm0 _ _ (Same.nu nt0 _ _ (Same.nu n0 _ _ he.1))))), (Same.nu nm1 _ _ (Same.nu nt1 _ _ (Same.nu nm0 _ _ (Same.nu nt0 _ _ (Same.nu n0 _ _ he.2))))), (fun u h => h), T.kitn (m := 12) hn (by decide), (by show 3 ≤ sizeLine; decide), fun t2 nt2 => ⟨m1, t2, _, _, rfl, rfl, Same.nu nt2 _ _ upd_same, upd_same, (by show 10 + 3 ≤ sizeLine; decide), fun m2 nm2 => ?_⟩⟩
    refine ⟨_, rfl, _, rfl, x, _, dx, _, _, _, _, rfl, (T.ex' (cnm_mem hn)).e, (Same.nu nm2 _ _ (Same.nu nt2 _ _ (Same.nu nm1 _ _ (Same.nu nt1 _ _ (Same.nu nm0 _ _ (Same.nu nt0 _ _ (Same.nu n0 _ _ he.1))))))), (Same.nu nm2 _ _ (Same.nu nt2 _ _ (Same.nu nm1 _ _ (Same.nu nt1 _ _ (Same.nu nm0 _ _ (Same.nu nt0 _ _ (Same.nu n0 _ _ he.2))))))), (fun u h => h), T.kitn (m := 13) hn (by decide), _, rfl, x, _, dx, _, _, _, _, rfl, (T.ex' (cnm_mem hn)).e, (Same.nu nm2 _ _ (Same.nu nt2 _ _ (Same.nu nm1 _ _ (Same.nu nt1 _ _ (Same.nu nm0 _ _ (Same.nu nt0 _ _ (Same.nu n0 _ _ he.1))))))), (Same.nu nm2 _ _ (Same.nu nt2 _ _ (Same.nu nm1 _ _ (Same.nu nt1 _ _ (Same.nu nm0 _ _ (Same.nu nt0 _ _ (Same.nu n0 _ _ he.2))))))), (fun u h => h), T.kitn (m := 14) hn (by decide), _, rfl, x, _, dx, _, _, _, _, rfl, (T.ex' (cnm_mem hn)).e, (Same.nu nm2 _ _ (Same.nu nt2 _ _ (Same.nu nm1 _ _ (Same.nu nt1 _ _ (Same.nu nm0 _ _ (Same.nu nt0 _ _ (Same.nu n0 _ _ he.1))))))), (Same.nu nm2 _ _ (Same.nu nt2 _ _ (Same.nu nm1 _ _ (Same.nu nt1 _ _ (Same.nu nm0 _ _ (Same.nu nt0 _ _ (Same.nu n0 _ _ he.2))))))), (fun u h => h), T.kitn (m := 15) hn (by decide), (by show 3 ≤ sizeLine; decide), fun t3 nt3 => ⟨m2, t3, _, _, rfl, rfl, Same.nu nt3 _ _ upd_same, upd_same, (by show 13 + 3 ≤ sizeLine; decide), fun m3 nm3 => ?_⟩⟩
    exact k m3 _ upd_same (((((((((Same.nu n0).trans (Same.nu nt0)).trans (Same.nu nm0)).trans (Same.nu nt1)).trans (Same.nu nm1)).trans (Same.nu nt2)).trans (Same.nu nm2)).trans (Same.nu nt3)).trans (Same.nu nm3))
end
end Kt
set_option Elab.async false
set_option linter.all false
set_option maxRecDepth 100000
set_option maxHeartbeats 4000000
namespace Kt
open PySem PySem.Spec PyProof.Rows L2
section
variable {P : Program} {w : World} {K : PySem.W.Frag} {mg : Str → Option Value} {base : Heap}
theorem l16_succ (n j : Nat) : l16 n (j + 1) = l16 n j ++ [.bl (decide (n = j))] := by
  unfold l16
  rw [List.range_succ, List.map_append]
  rfl
theorem dp_bools {H : Hp} : ∀ bs : List Bool, DpAll K H (bs.map V.bl) (bs.map PyData.bool)
  | [] => .nil
  | b :: r => .cons (.bl b) (dp_bools r)
theorem lay_bools : ∀ bs : List Bool, PyData.canLayAll0 (bs.map PyData.bool) = true ∧ PyData.depthAll (bs.map PyData.bool) = 0
  | [] => ⟨rfl, rfl⟩
  | b :: r => by
    obtain ⟨h1, h2⟩ := lay_bools r
    refine ⟨?_, ?_⟩
    · rw [List.map_cons]
      simp only [PyData.canLayAll0, h1, PyData.canLay0, Bool.and_self]
    · rw [List.map_cons]
      simp only [PyData.depthAll, h2, PyData.depth, Nat.max_self]
theorem inV_true : ∀ m : Nat, inV (.bl false) (List.replicate m (V.bl true)) = false
  | 0 => rfl
  | m + 1 => by
    have ih := inV_true m
    unfold inV at ih ⊢
    rw [List.replicate_succ, List.any_cons, ih]
    rfl
theorem flat_true : ∀ m : Nat, (List.replicate m (V.bl true)).all flatV = true
  | 0 => rfl
  | m + 1 => by
    rw [List.replicate_succ, List.all_cons, flat_true m]
    rfl
theorem fns_le : ∀ n : Nat, (fns n).length ≤ 3 := by
  intro n
  unfold fns
  split <;> decide
def spLaw (K : PySem.W.Frag) : Sp := fun vs H Q _ => ∃ (a : Addr) (ns : List Int), vs = [.ref a] ∧ SqL K H a (ns.map V.int) ∧ ns.length ≤ 63 ∧ ∀ H', Q (.bl true) H'
theorem ok_law (T : Tx w K mg) {fd : FuncData} (F : FunD K d_law.name d_law.qual (defArgs s_law) (defBody s_law) (defScope s_law) (d_law.dvs K) (d_law.kws K) (He.fAd K d_law.at_) fd) : FnOk P w K mg base CX0 7 (He.fAd K d_law.at_) fd ["_law_script"] (spLaw K) := by
  have G__law_source := ok__law_source (P := P) (w := w) (base := base) T
  have G__law_given := ok__law_given (P := P) (w := w) (base := base) T
  have G__law_made := ok__law_made (P := P) (w := w) (base := base) T
  have G__law_fields := ok__law_fields (P := P) (w := w) (base := base) T
  have G__law_like := ok__law_like (P := P) (w := w) (base := base) T
  have G__law_classes := ok__law_classes (P := P) (w := w) (base := base) T
  have G__law_caught := ok__law_caught (P := P) (w := w) (base := base) T
  refine F.ok sc_law (fun vs H Q E h => ?_) (fun cdv A outer s H vs Q E hr h => Exists.elim (?_ : ∃ t, PSs (cxOf CX0 P w K mg base N_law d_law.qual (defScope s_law) (He.fAd K d_law.at_) cdv A outer s H E).nox (defBody s_law) t ∧ t { nx := fun _ H2 => Q .non H2, rt := Q } (start N_law vs) H) fun t z => ⟨t, z.1.nox, z.2⟩)
  · obtain ⟨a, ns, rfl, _⟩ := h
    rfl
  · have hu := hu_of hr
    obtain ⟨a0, ns, rfl, hS, hl, k⟩ := h
    refine ⟨_, (pss_cons (ps_set (i := 1) sc_law.nd rfl (Or.inl rfl) (pe_callG G__law_source T.g__law_source (hr.mono (by decide)) pass0 (pa_cons (pv 0) pa_nil)))
      (pss_cons (ps_for PassesOwn.never rfl (pi_range1 rfl T.n_range (pa_cons pe_int pa_nil)) (pg_name (i := 2) sc_law.nd rfl (Or.inr rfl))
      (pss_cons (ps_set (i := 3) sc_law.nd rfl (Or.inr rfl) (pe_callG G__law_given T.g__law_given (hr.mono (by decide)) pass0 (pa_cons (pv 1) (pa_cons (pv 2) pa_nil))))
      (pss_cons (ps_asg (pe_callG G__law_made T.g__law_made (hr.mono (by decide)) pass0 (pa_cons (pv 2) (pa_cons (pe_ix (r := rIxL K) ix_list (pv 3) pe_int (fun _ _ => rfl)) (pa_cons (pe_ix (r := rIxL K) ix_list (pv 3) pe_int (fun _ _ => rfl)) (pa_cons (pe_ix (r := rIxL K) ix_list (pv 3) pe_int (fun _ _ => rfl)) pa_nil))))) (pg_tup rfl (pgs_cons (pg_name (i := 4) sc_law.nd rfl (Or.inl rfl)) (pgs_cons (pg_name (i := 5) sc_law.nd rfl (Or.inl rfl)) pgs_nil))))
      (pss_cons (ps_set (i := 6) sc_law.nd rfl (Or.inr rfl) (pe_callG G__law_fields T.g__law_fields (hr.mono (by decide)) pass0 (pa_cons (pv 2) (pa_cons (pv 4) pa_nil))))
      (pss_cons (ps_if (PW.pt (pw_or (pt_cmpR op_ne (pe_callB call_len_seq (by rfl) T.n_len PySem.boot_len (pa_cons (pv 6) pa_nil)) (pv 5) (nomark _)) (pw_or1 (pt_cmpR op_in_seq pe_bl (pe_lc (own := [("_law_k", 7)]) (g := gName 7) (tt := tYes) rfl sc_law.nd (pi_range1 rfl T.n_range (pa_cons (pv 5) pa_nil)) (blkOk_by (own := [("_law_k", 7)]) (N := N_law) (sc := defScope s_law) (by decide +kernel)) (fun _ _ _ _ _ => (pg_name (i := 7) sc_law.nd rfl (Or.inl rfl))) (fun _ _ _ _ _ => pts_nil) (fun _ _ _ _ _ => (pe_callG G__law_like T.g__law_like (hr.mono (by decide)) pass0 (pa_cons (pe_ix (r := rIxL K) ix_list (pv 6) (pv 7) (fun _ _ => rfl)) (pa_cons (pe_ix (r := rIxL K) ix_list (pv 3) (pv 7) (fun _ _ => rfl)) pa_nil))))) (by rfl))))) (pss_one (ps_ret pe_bl)) pss_nil)
      (pss_cons (ps_if (pt_cmpR (op_neD hr.units) (pe_callG G__law_classes T.g__law_classes (hr.mono (by decide)) pass0 (pa_cons (pv 4) pa_nil)) (pe_lc (own := [("_law_k", 7)]) (g := gName 7) (tt := tYes) rfl sc_law.nd (pi_range1 rfl T.n_range (pa_cons pe_int pa_nil)) (blkOk_by (own := [("_law_k", 7)]) (N := N_law) (sc := defScope s_law) (by decide +kernel)) (fun _ _ _ _ _ => (pg_name (i := 7) sc_law.nd rfl (Or.inl rfl))) (fun _ _ _ _ _ => pts_nil) (fun _ _ _ _ _ => (pe_cmpR op_eq (pv 7) (pv 2) (nomark _)))) (nomark _)) (pss_one (ps_ret pe_bl)) pss_nil)
      (pss_one (ps_if (PW.pt (pw_or (pt_not (pt_val (pe_callB call_isV (by rfl) T.n_isinstance (by decide +kernel) (pa_cons (pv 4) (pa_cons (pe_glob (v := .ref (He.ga K "KeysError")) rfl T.g_KeysError rfl) pa_nil))))) (pw_or1 (pt_not (pt_val (pe_callG G__law_caught T.g__law_caught (hr.mono (by decide)) pass0 (pa_cons (pv 2) (pa_cons (pe_ix (r := rIxL K) ix_list (pv 3) pe_int (fun _ _ => rfl)) (pa_cons (pe_ix (r := rIxL K) ix_list (pv 3) pe_int (fun _ _ => rfl)) (pa_cons (pe_ix (r := rIxL K) ix_list (pv 3) pe_int (fun _ _ => rfl)) pa_nil)))))))))) (pss_one (ps_ret pe_bl)) pss_nil))))))))
      (pss_one (ps_ret pe_bl)))), ?_⟩
    refine ⟨_, rfl, a0, ns, rfl, hS, hl, fun p c H0 hp S0 k0 => ?_⟩
    refine ⟨16, rfl, by decide, by decide, for_range (lo := 0) (n := 16) (fun i σ H' => (∃ v2 v3 v4 v5 v6, σ = [some (.ref a0), some (.ref p), v2, v3, v4, v5, v6, none]) ∧ Src H' p c ns 0) ⟨⟨_, _, _, _, _, rfl⟩, S0⟩ ?_ (fun σ H' _ => k H')⟩
    rintro i σ H' hi ⟨⟨v2, v3, v4, v5, v6, rfl⟩, S⟩
    rw [Int.zero_add]
    refine ⟨_, rfl, _, rfl, p, c, ns, 0, _, rfl, S, hl, fun l a b d H1 e1 ha hb hd S1 k1 => ?_⟩
    refine ⟨_, rfl, _, rfl, l, _, 0, a, rfl, rfl, SqL.of e1, at_of (j := 0) rfl rfl, _, rfl, l, _, 1, b, rfl, rfl, SqL.of e1, at_of (j := 1) rfl rfl, _, rfl, l, _, 2, d, rfl, rfl, SqL.of e1, at_of (j := 2) rfl rfl, i, a, b, d, rfl, hi, ?_⟩
    intro q x dx H2 eq he hx k2
    refine ⟨q, _, rfl, SqT.of eq, rfl, _, _, rfl, _, _, rfl, rfl, ?_⟩
    refine ⟨_, rfl, _, rfl, i, x, dx, a, b, d, rfl, hi, he, fun l2 H3 e3 k3 hl2 => ?_⟩
    have S3 : Src H3 p c ns 0 := (S1.keep k2).keep k3
    have he3 := he.same k3
    have e13 := k3 _ _ (k2 _ _ e1)
    have ha3 := (ha.same k2).same k3
    have hb3 := (hb.same k2).same k3
    have hd3 := (hd.same k2).same k3
    have h3 := fns_le i
    have hm : ([a, b, d].take (fns i).length).length = (fns i).length := by
      rw [List.length_take]
      show min (fns i).length 3 = _
      omega
    -- len(told) != many
    refine ⟨_, rfl, l2, _, rfl, .inl (SqL.of e3), _, rfl, rfl, _, rfl, ?_⟩
    have hz : (!decide (V.int (([a, b, d].take (fns i).length).length : Int) = V.int ((fns i).length : Int))) = false := by
      rw [hm]
      simp
    rw [hz]
    refine iteF ⟨_, rfl, _, rfl, by omega, by omega, fun D hD => ?_⟩
    refine lc_range (lo := 0) (n := (fns i).length) (fun j H' => Same H3 H' ∧ H' D = some (.lst (List.replicate j (.bl true)))) ⟨Same.nu hD, upd_same⟩ ?_ ?_
    · rintro j H' hj ⟨k4, e4⟩
      rw [Int.zero_add]
      obtain ⟨v, hv1, hv2, hv3⟩ : ∃ v, ([a, b, d].take (fns i).length)[j]? = some v ∧ [a, b, d][j]? = some v ∧ Okv K H' v := by
        rw [List.getElem?_take_of_lt hj]
        have hc : j = 0 ∨ j = 1 ∨ j = 2 := by omega
        rcases hc with rfl | rfl | rfl
        · exact ⟨a, rfl, rfl, ha3.same k4⟩
        · exact ⟨b, rfl, rfl, hb3.same k4⟩
        · exact ⟨d, rfl, rfl, hd3.same k4⟩
      refine ⟨rfl, _, rfl, _, rfl, l2, _, _, v, rfl, rfl, SqL.of (k4 _ _ e3), at_of (j := j) rfl hv1, _, rfl, _, rfl, l, _, _, v, rfl, rfl, SqL.of (k4 _ _ e13), at_of (j := j) rfl hv2, v, rfl, hv3, ?_⟩
      refine ⟨_, e4, by rw [List.length_replicate]; exact small1000 (by omega), Same.mk' k4 hD, ?_⟩
      rw [upd_same, List.replicate_succ']
    rintro H4 ⟨k4, e4⟩
    refine ⟨D, _, rfl, .inl (SqL.of e4), rfl, flat_true _, _, rfl, ?_⟩
    rw [inV_true]
    refine iteF ?_
    -- classes
    refine ⟨_, rfl, i, x, dx, _, rfl, hi, he3.same k4, fun l5 H5 e5 k5 => ?_⟩
    refine ⟨16, rfl, by decide, by decide, fun D2 hD2 => ?_⟩
    refine lc_range (lo := 0) (n := 16) (fun j H' => Same H5 H' ∧ H' D2 = some (.lst (l16 i j))) ⟨Same.nu hD2, upd_same⟩ ?_ ?_
    · rintro j H' hj ⟨k6, e6⟩
      rw [Int.zero_add]
      refine ⟨rfl, _, rfl, _, rfl, rfl, _, e6, by unfold l16; rw [List.length_map, List.length_range]; exact small1000 (by omega), Same.mk' k6 hD2, ?_⟩
      rw [upd_same, l16_succ]
      have e : decide (V.int (j : Int) = V.int (i : Int)) = decide (i = j) := by
        by_cases z : i = j
        · rw [z]
          simp
        · rw [decide_eq_false z]
          refine decide_eq_false fun q => z ?_
          have q2 : (j : Int) = (i : Int) := V.int.inj q
          omega
      rw [e]
    rintro H6 ⟨k6, e6⟩
    have eb : l16 i 16 = ((List.range 16).map fun j => decide (i = j)).map V.bl := by
      unfold l16
      rw [List.map_map]
      rfl
    obtain ⟨b1, b2⟩ := lay_bools ((List.range 16).map fun j => decide (i = j))
    have g1 : (PyData.list (((List.range 16).map fun j => decide (i = j)).map PyData.bool)).canLay0 = true := b1
    have sh : SeqAt.shaped (.list (((List.range 16).map fun j => decide (i = j)).map PyData.bool)) = true := by
      show ((PyData.list _).canLay0 && decide ((PyData.list _).depth ≤ 64)) = true
      rw [g1, Bool.true_and, decide_eq_true_eq]
      show PyData.depthAll _ + 1 ≤ 64
      rw [b2]
      decide
    refine ⟨_, _, .lst (SqL.of (k6 _ _ e5)) (by rw [eb]; exact dp_bools _), .lst (SqL.of e6) (by rw [eb]; exact dp_bools _), sh, sh, _, rfl, ?_⟩
    rw [SeqAt.eqv_refl _ g1]
    refine iteF ?_
    -- isinstance, caught
    have he6 := ((he3.same k4).same k5).same k6
    have e16 := k6 _ _ (k5 _ _ (k4 _ _ e13))
    refine ⟨_, rfl, x, _, dx, _, _, _, _, rfl, (T.ex' (cnm_mem hi)).e, he6.1, he6.2, (fun u h => h), T.kitK (cnm_mem hi), _, rfl, iteF ?_⟩
    refine ⟨_, rfl, _, rfl, l, _, 0, a, rfl, rfl, SqL.of e16, at_of (j := 0) rfl rfl, _, rfl, l, _, 1, b, rfl, rfl, SqL.of e16, at_of (j := 1) rfl rfl, _, rfl, l, _, 2, d, rfl, rfl, SqL.of e16, at_of (j := 2) rfl rfl, i, a, b, d, rfl, hi, fun H7 k7 => ⟨_, rfl, iteF ?_⟩⟩
    exact ⟨⟨_, _, _, _, _, rfl⟩, (((S3.keep k4).keep k5).keep k6).keep k7⟩
end
end Kt
set_option Elab.async false
set_option linter.all false
set_option maxRecDepth 100000
set_option maxHeartbeats 0
namespace Kt
open PySem PySem.Spec PyProof.Rows L2
theorem facts {P : Program} {w : World} {K : PySem.W.Frag} {h : Heap} {mg : Str → Option Value} {f : Addr} (X : K.In h) (G : h.Ns mainGlobals mg) (hfa : mg ("law" : Str) = some (.ref f))
    (c : He.SaysX fa fn [] [] extra w h K) : ∃ fd : FuncData, (∀ (s : Shared) (v : Value), BindsTo s fd ⟨[v], []⟩ [("_law_script", v)]) ∧
      ∀ base : Heap, K.In base → base.Ns mainGlobals mg → FnOk P w K mg base CX0 7 f fd ["_law_script"] (spLaw K) := by
  have T : Tx w K mg := ⟨h, X, G, c⟩
  obtain ⟨fd, F⟩ := T.f_law
  have e := hfa.symm.trans T.g_law
  cases e
  have b := FunD.bindsA (ps := ["_law_script"]) F fun _ _ _ _ _ _ us hl => match us, hl with | [_], _ => rfl
  exact ⟨fd, fun s v => b s [v] rfl, fun base _ _ => ok_law T F⟩
end Kt
open PySem PySem.W PySem.Calls PyProof.Rows
theorem PySem.Challenge.cw_keysthroughtext_k98_errors_made_holds : PySem.Challenge.rw_keysthroughtext_k98_errors_made.Holds := by
  w_on; o_law
  refine HandSHeadRun.head_any (r := OpenLaw.row PySem.Challenge.rw_keysthroughtext_k98_errors_made) (q := view (OpenLaw.row PySem.Challenge.rw_keysthroughtext_k98_errors_made).prog [33]) (H := Kt.hk) (ob := Kt.ob) (M := 30000) (loose := ["KeysError", "BadKey", "DoubleKey", "NoKey", "NotText", "TooDeep", "BadOption", "Unwritable", "Unreadable", "Refused", "BadCondition", "BadLabel", "NoLabel", "BadStep", "WrongNumber", "TooMuch", "NoGuard", "_law_source", "_law_more", "_law_draw", "_law_key", "_law_text", "_law_path", "_law_given", "_law_made", "_law_fields", "_law_classes", "_law_raise_early", "_law_raise_late", "_law_caught", "_law_like"]) (d := HandSHeadRun.topDef (OpenLaw.row PySem.Challenge.rw_keysthroughtext_k98_errors_made).prog 33) (kwd := []) Kt.ob_eq
    (by kernel_rfl) (fun s => by kernel_rfl) Kt.run (by kernel_rfl) (by kernel_rfl) (by kernel_rfl) (by rfl) (by first | assumption | decide +kernel) (by decide +kernel) ⟨rfl, rfl, rfl, rfl, rfl, by decide +kernel⟩ ?hw ?hc
  case hw => w_witness2
  case hc =>
    refine L2.walk_ofE (l := PySem.Challenge.rw_keysthroughtext_k98_errors_made) (n := 63) (k := 7) (x := "_law_script") (CX := L2.CX0) rfl (by decide) (by kernel_rfl) ⟨rfl, by decide, by decide⟩ ?F (fun _ _ _ _ z => z)
    intro w mg fa h Y G hmg0
    obtain ⟨K, KX, c⟩ := Y
    have hmg : mg ("law" : PySem.Str) = some (.ref fa) := by
      have e : (HandSHeadRun.topDef (OpenLaw.row PySem.Challenge.rw_keysthroughtext_k98_errors_made).prog 33).name = ("law" : PySem.Str) := by kernel_rfl
      rw [← e]
      exact hmg0
    obtain ⟨fd, hb, hF⟩ := Kt.facts (P := (PySem.Challenge.rw_keysthroughtext_k98_errors_made).prog) (w := w) KX G hmg c
    exact ⟨K, fd, Kt.spLaw K, KX, hb, fun H a ns hl _ hS => ⟨a, ns, rfl, hS, hl, fun _ => rfl⟩, hF⟩
#print axioms PySem.Challenge.cw_keysthroughtext_k98_errors_made_holds
