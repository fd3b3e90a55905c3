import PyProof.Rows.All
import Wide.All
import OpenK.AllK
import Wide.FinOn
import KE.KStateDown
import HandS.ForMost
import HandS.Walk
import HandS.More
import HandS.Deep
import HandS.TupAny
import HandS.Exc
import HandS.TryOnly
import HandS.ExcOwn
import HandS.WordsExc
import HandS.CallSlots
import HandS.Defaults
import HandS.Flow
import HandS.Head0
import HandS.Head1
import HandS.Head2
import HandS.HeadEnd
import HandS.HeadHook1
import HandS.HeadHook2
import HandS.TryMany
import HandS.ExcInit
import HandS.ExcField
import HandS.ExcIs
import KE.KExcIs
import HandS.IsInst
import PyProof.EnumFor
import PyProof.Draws
import PyProof.EnumMake
import HandS.Style
import HandS.Star
import HandS.DictComp
import HandS.WordsDict
import HandS.Iter
import HandS.Small
import HandS.Codes
import PyProof.Rows.StrFirst
import HandS.HeadHook3
import HandS.HeadHook4
import PySem.Challenge.RW_switchyard_k08_refused_texts
set_option Elab.async false
set_option linter.all false
set_option maxRecDepth 100000
set_option maxHeartbeats 4000000
/-! Ma0: further rules over the hand layer: calls of methods and of classes that may let an exception out; several clauses that name what they catch. -/
noncomputable section
namespace Mi
open PySem PySem.Spec PyProof.Rows L2
section
variable {X : Cx} {CX : CXT} {k : Nat} {f C : Addr} {fd : FuncData} {ps : List Str} {sp : Sp} {dvs : List V} {ds : List Value} {E : L2.St → XK} {x m : Str} {p pos apos : Pos} {e o : Expr} {es : List Expr} {ta : TE} {t : TA}
/-- a method's call, by what the method promises at the slots' state -/
def tMethD (C : Addr) (m : Str) (sp : Sp) (dvs : List V) (E : L2.St → XK) (ta : TE) (t : TA) : TE := fun σ H Q =>
  ta σ H fun v H1 => ∃ a dx fs, v = .ref a ∧ H1 a = some (.ins C dx fs) ∧ fs.lookup m = none ∧ t σ H1 fun vs H2 => sp (v :: (vs ++ dvs)) H2 Q (E σ)
theorem pe_methD {pl : Sem Bool} (ho : PE X o ta) (hc : Cls X.K C) (hm : Meth X.K C m f) (F : FnOk X.prog X.w X.K X.mg X.base CX k f fd ps sp) (hr : Room k X.A) (hb : Binds X.K fd ps ds) (hd : Vals dvs ds)
    (hx : ∀ σ, PassesAt CX X σ (E σ)) (ha : PA X (e :: es) t) (h1 : starEach (e :: es) X.env = (false, eval e X.env) :: starEach es X.env) (h2 : (backTo pos (starEach es X.env)).any (·.1) = false)
    (h3 : eval (.Call (.Attribute o m apos) (e :: es) [] pos) X.env = (do
      let recv ← eval o X.env
      standAt apos.atName
      let (g, own) ← holding [recv] (getMethod recv m pl)
      callWith pos g own (backTo pos (starEach (e :: es) X.env)) (backToKw pos (keywordEach [] X.env)))) : PE X (.Call (.Attribute o m apos) (e :: es) [] pos) (tMethD C m sp dvs E ta t) :=
  ⟨fun pins s σ H Q I h => PySem.W.methodCall_KW (pl := pl) (thn (ho.run pins s σ H _ I h) fun u s1 z => by
    obtain ⟨v, H1, J, rv, a, dx, fs, rfl, hi, hl, q⟩ := z
    cases (show u = Value.ref a from rv)
    exact getmeth_ok J hi hc hm hl (PySem.W.callWith_K (first := [.ref a]) (h₀ := X.base) J.ok.mod.kin hm.kp
      (thn (ha.run pos pins s1 σ H1 _ J q) fun us s2 ⟨vs, H2, J2, rs, q2⟩ => ⟨J2.kIn, run_fnSD (us := .ref a :: us) (vs := .ref a :: vs) F hr hb hd (hx σ) J2 (.cons rfl rs) q2⟩) h1 h2)) h3⟩
theorem pe_methD0 {pl : Sem Bool} (ho : PE X o ta) (hc : Cls X.K C) (hm : Meth X.K C m f) (F : FnOk X.prog X.w X.K X.mg X.base CX k f fd ps sp) (hr : Room k X.A) (hb : Binds X.K fd ps ds) (hd : Vals dvs ds)
    (hx : ∀ σ, PassesAt CX X σ (E σ))
    (h3 : eval (.Call (.Attribute o m apos) [] [] pos) X.env = (do
      let recv ← eval o X.env
      standAt apos.atName
      let (g, own) ← holding [recv] (getMethod recv m pl)
      callWith pos g own (backTo pos (starEach [] X.env)) (backToKw pos (keywordEach [] X.env)))) : PE X (.Call (.Attribute o m apos) [] [] pos) (tMethD C m sp dvs E ta tNil) :=
  ⟨fun pins s σ H Q I h => PySem.W.methodCall_KW (pl := pl) (thn (ho.run pins s σ H _ I h) fun u s1 z => by
    obtain ⟨v, H1, J, rv, a, dx, fs, rfl, hi, hl, q⟩ := z
    cases (show u = Value.ref a from rv)
    exact getmeth_ok J hi hc hm hl (PySem.W.callWith_K0 (first := [.ref a]) J.kIn hm.kp (run_fnSD (us := [.ref a]) (vs := [.ref a]) F hr hb hd (hx σ) J (.cons rfl .nil) q))) h3⟩
/-- a class is called: what its __init__ promises -/
def tMakeD (C : Addr) (sp : Sp) (dvs : List V) (E : L2.St → XK) (t : TA) : TE := fun σ H Q => t σ H fun vs H1 => ∀ a dx, H1 a = none → H1 dx = none → dx ≠ a →
  sp (.ref a :: (vs ++ dvs)) (upd (upd H1 dx (.own a)) a (.ins C dx [])) (fun v H2 => v = .non ∧ Q (.ref a) H2) (E σ)
theorem run_makeD {pins : List (Addr × Obj)} {σ : L2.St} {H : Hp} {s : Shared} {Q : VK} {us : List Value} {vs : List V} (M : Mk X.K C f) (F : FnOk X.prog X.w X.K X.mg X.base CX k f fd ps sp) (hr : Room (k + 1) X.A) (hb : Binds X.K fd ps ds) (hd : Vals dvs ds)
    (hx : PassesAt CX X σ (E σ)) (I : Inv X pins σ H s) (r : Vals vs us)
    (h : ∀ a dx, H a = none → H dx = none → dx ≠ a → sp (.ref a :: (vs ++ dvs)) (upd (upd H dx (.own a)) a (.ins C dx [])) (fun v H2 => v = .non ∧ Q (.ref a) H2) (E σ)) :
    wpAny (model X.prog X.w) X.A (call (.ref C) us) (EP X pins σ Q) X.xe s := by
  have fr1 : H (s.heap.objs.size + 1) = none := I.hok.fresh (Nat.le_succ _)
  have fr2 : H s.heap.objs.size = none := I.hok.fresh (Nat.le_refl _)
  have asked := h _ _ fr1 fr2 (Nat.ne_of_lt (Nat.lt_succ_self _))
  have J := Inv.made (C := C) I
  have rs : Vals (V.ref (s.heap.objs.size + 1) :: (vs ++ dvs)) (Value.ref (s.heap.objs.size + 1) :: (us ++ ds)) := .cons rfl (r.append hd)
  have len : (Value.ref (s.heap.objs.size + 1) :: us ++ ds).length = ps.length := (rs.length.symm.trans (F.len _ _ _ _ asked))
  have ran := F.run _ X.stack _ _ ⟨Value.ref (s.heap.objs.size + 1) :: us, []⟩ (Value.ref (s.heap.objs.size + 1) :: (us ++ ds)) _ _ (E σ) (hr.make C us []) (J.env0.make C us []) (hb _ (Value.ref (s.heap.objs.size + 1) :: us) J.kIn len) rs asked
  refine wpAny_call (make_map (f := f) I.kIn M.makes M.init (beq_iff_eq.mp M.fn) (codeAny_mono ran fun r s' z => ?_))
  match r, z with
  | .error e, z => exact hx pins _ _ e s' J z
  | .ok (.ret u), z =>
    obtain ⟨v, H', J3, rv, ev, q3⟩ := J.after z
    subst ev
    exact ⟨rv, ⟨V.ref (s.heap.objs.size + 1), H', J3, rfl, q3⟩⟩
  | .ok .next, z => exact z.elim
  | .ok .brk, z => exact z.elim
  | .ok .cont, z => exact z.elim
theorem pe_makeD (M : Mk X.K C f) (F : FnOk X.prog X.w X.K X.mg X.base CX k f fd ps sp) (hr : Room (k + 1) X.A) (hg : Gl X x) (hm : X.mg x = some (.ref C)) (hb : Binds X.K fd ps ds) (hd : Vals dvs ds) (hx : ∀ σ, PassesAt CX X σ (E σ)) (ha : PA X (e :: es) t)
    (h0 : (x == ("__debug__" : Str)) = false) (h1 : starEach (e :: es) X.env = (false, eval e X.env) :: starEach es X.env) (h2 : (backTo pos (starEach es X.env)).any (·.1) = false) : PE X (.Call (.Name x p) (e :: es) [] pos) (tMakeD C sp dvs E t) :=
  ⟨fun pins s σ H Q I h => wpAny_Call_Name_kw (ld_glob I hg hm (PySem.W.callWith_K (h₀ := X.base) I.ok.mod.kin M.kp (thn (ha.run pos pins s σ H _ I h) fun us s1 ⟨vs, H1, J, rs, q⟩ => ⟨J.kIn, run_makeD M F hr hb hd (hx σ) J rs q⟩) h1 h2) h0)⟩
theorem pe_makeD0 (M : Mk X.K C f) (F : FnOk X.prog X.w X.K X.mg X.base CX k f fd ps sp) (hr : Room (k + 1) X.A) (hg : Gl X x) (hm : X.mg x = some (.ref C)) (hb : Binds X.K fd ps ds) (hd : Vals dvs ds) (hx : ∀ σ, PassesAt CX X σ (E σ))
    (h0 : (x == ("__debug__" : Str)) = false) : PE X (.Call (.Name x p) [] [] pos) (tMakeD C sp dvs E tNil) :=
  ⟨fun pins s σ H Q I h => wpAny_Call_Name_kw (ld_glob I hg hm (PySem.W.callWith_K0 I.kIn M.kp (run_makeD (us := []) M F hr hb hd (hx σ) I .nil h)) h0)⟩
theorem pe_callD0 (F : FnOk X.prog X.w X.K X.mg X.base CX k f fd ps sp) (hr : Room k X.A) (hg : Gl X x) (hm : X.mg x = some (.ref f)) (hk : PySem.W.keepIn X.K (.ref f) = true) (hb : Binds X.K fd ps ds) (hd : Vals dvs ds) (hx : ∀ σ, PassesAt CX X σ (E σ))
    (h0 : (x == ("__debug__" : Str)) = false) : PE X (.Call (.Name x p) [] [] pos) (tCallSD sp dvs E tNil) :=
  ⟨fun pins s σ H Q I h => wpAny_Call_Name_kw (ld_glob I hg hm (PySem.W.callWith_K0 I.kIn hk (run_fnSD (us := []) F hr hb hd (hx σ) I .nil h)) h0)⟩
end
/-! ### clauses that name what they catch -/
abbrev Hand := Value × Nat × (Addr → Value → Option Addr → TS)
/-- behind a clause the name is gone -/
def offName (D : Ends) (i : Nat) : Ends := { nx := fun σ H => D.nx (σ.set i none) H, rt := D.rt, bk := fun σ H => D.bk (σ.set i none) H, ct := fun σ H => D.ct (σ.set i none) H }
def wHands (K : PySem.W.Frag) (Wout : WX) (D : Ends) : List Hand → WX
  | [] => Wout
  | (c, i, ts) :: r => fun cls d σ H => ∃ yes, PySem.W.exmOne K cls c = some yes ∧
    (yes = true → ∀ a, H a = none → ts a cls d (offName D i) (σ.set i (some (.ref a))) H) ∧ (yes = false → wHands K Wout D r cls d σ H)
inductive Hands (X : Cx) : List ExceptHandler → List Hand → Prop
  | nil : Hands X [] []
  | cons {x n : Str} {c : Value} {i : Nat} {ts : Addr → Value → Option Addr → TS} {b0 : Stmt} {bs : List Stmt} {p1 p2 : Pos} {hds : List ExceptHandler} {l : List Hand} : Names X x c → X.N[i]? = some n → X.env.kindOf n = some .local →
      (∀ (a : Addr) (oe : Obj) (cls : Value) (d : Option Addr) (pn : List (Addr × Obj)), Zc cls d oe → (∃ vs, oe.data = .fields vs) → PSs (X.suite a ((a, oe) :: pn)) (b0 :: bs) (ts a cls d)) → Hands X hds l →
      Hands X (.ExceptHandler (some (.Name x p1)) (some n) (b0 :: bs) p2 :: hds) ((c, i, ts) :: l)
section
variable {X : Cx} {body : List Stmt} {h0 : ExceptHandler} {hds : List ExceptHandler} {l : List Hand} {pos : Pos} {tb : WX → TS} {Wout : WX}
theorem ps_try_hands (st : X.stack = X.env :: X.outer) (fm : X.env.frame = some X.env.locals) (nd : X.N.Nodup) (tk : Takes X Wout)
    (hb : ∀ (W : WX) (pn : List (Addr × Obj)) (xe : Value → Shared → Prop), Takes (X.tr pn xe) W → PassesOwn (model X.prog X.w) X.A X.env xe → PSs (X.tr pn xe) body (tb W))
    (hh : Hands X (h0 :: hds) l) : PS X (.Try body (h0 :: hds) [] [] pos) (fun D σ H => tb (wHands X.K Wout D l) D σ H) := by
  refine ⟨fun pins s σ H D I asked => wpAny_Try_except ?_⟩
  have ok := I.ok
  have frm : X.A.frames = some (X.env :: X.outer) := ok.frames.trans (by rw [st])
  let M := model X.prog X.w
  let caught : Value → Shared → Prop := fun e s1 => wpAny M X.A (noteFrame e X.env) (fun _ s2 => wpAny M X.A (setFlight e none) (fun _ s3 => wpAny M X.A (handleBy e X.env (h0 :: hds)) (SP X pins D) X.xe s3) X.xe s2) X.xe s1
  have tkc : Takes (X.tr (X.pn ++ pins) caught) (wHands X.K Wout D l) := fun u s' z => by
    obtain ⟨a, B, sI, _, σ1, H1, cls, d, rfl, J', nb, up, sky, na, os, ag, w⟩ := z
    have J : Inv X pins σ1 H1 sI := J'.ofTry ok
    show wpAny M X.A (noteFrame (.ref a) X.env) _ _ _
    refine Sky.land Zc.steady frm fm (show Sky B (X.env :: X.outer) a (Zc cls d) X.env.locals s'.heap from st ▸ sky) fun hp lands up2 => ?_
    have upA := up.trans up2
    have K3 : Inv X pins σ1 H1 { s' with heap := hp } := J.landed nb lands.1 upA os ag
    obtain ⟨oe, vs, there, hz, fields⟩ := lands.there
    have off : a ∉ frs (X.env :: X.outer) := fun hm => by
      obtain ⟨_, o', e', bad⟩ := lands.2.2.1.mem hm
      cases there.symm.trans e'
      exact bad _ fields
    have offL : a ≠ X.env.locals := fun z => off (List.mem_filterMap.mpr ⟨X.env, List.mem_cons_self, fm.trans (congrArg some z.symm)⟩)
    have offF : a ∉ X.fs := fun hm => by
      obtain ⟨e, he, q⟩ := List.mem_filterMap.mp hm
      exact off (List.mem_filterMap.mpr ⟨e, List.mem_cons_of_mem _ he, q⟩)
    have S3 := K3.suite there fields na offL offF
    suffices each : ∀ (hs : List ExceptHandler) (ls : List Hand), Hands X hs ls → wHands X.K Wout D ls cls d σ1 H1 → wpAny M X.A (handleBy (.ref a) X.env hs) (SP X pins D) X.xe { s' with heap := hp } from each _ _ hh w
    intro hs ls hk
    induction hk with
    | nil =>
      intro w
      obtain ⟨_, _, _, o2, vs2, T, oT, ts2, at2, z2, d2, one2, r2⟩ := id lands
      have gone : wpAny M X.A (setFlight (.ref a) X.env.frame) (fun _ s4 => wpAny M X.A (throw (.ref a) : Sem Flow) (SP X pins D) X.xe s4) X.xe { s' with heap := hp } := by
        rw [fm]
        exact HandSPX.setFlight_upZ lands fun _ hot up4 => wpAny_throw (tk _ _ ⟨a, B, sI, pins, σ1, H1, cls, d, rfl, J, nb, upA.trans up4, .inr (.inr (st.symm ▸ hot)), na, os, ag, w⟩)
      refine wpAny_handleBy_nil ?_
      unfold PySem.passOn
      refine wpAny_bind (wpAny_field at2 d2 one2 ?_)
      have nn : ¬ ((Value.ref T == Value.none) = true) := by simp
      rw [if_neg nn]
      first
        | exact wpAny_bind gone
        | exact wpAny_bind (wpAny_pure (wpAny_bind gone))
    | @cons x n c i ts b0 bs p1 p2 rest lrest nm hi hln hsu _ ih =>
      rintro ⟨yes, same, hyes, hno⟩
      have ty : PySem.W.Looks M hp (typeOf (.ref a)) cls := fun A Q E s k q => wpAny_typeOf_ref (k _ _ there) (hz.1.symm ▸ q)
      have asks := PySem.W.exm_one (M := M) K3.kIn ty same
      have named : ∀ {Q E : Value → Shared → Prop}, Q c { s' with heap := hp } → wpAny M (X.A.mark (some (.ref a))) (eval (.Name x p1) X.env) Q E { s' with heap := hp } := by
        intro Q E q
        rcases nm with ⟨g1, g2, g3 | ⟨g3, g4, g5⟩⟩
        · exact ld_glob (X := X.suite a ((a, oe) :: (X.pn ++ pins))) S3 g1 g3 q g2
        · exact ld_blt (X := X.suite a ((a, oe) :: (X.pn ++ pins))) S3 g1 g3 g4 q g5 g2
      refine wpAny_handleBy_cons (codeAny_handlers_test (named (asks.here ?_))) (by intro q; cases q)
      cases yes with
      | false => exact ih (hno rfl)
      | true =>
        refine codeAny_handlers_suite_as (HandSPX.lands_againZ lands fun hp4 lands4 up4 => ?_)
        have K4 : Inv X pins σ1 H1 { s' with heap := hp4 } := J.landed nb lands4.1 (upA.trans up4) os ag
        obtain ⟨oe4, vs4, there4, hz4, fields4⟩ := lands4.there
        have S4 := K4.suite there4 fields4 na offL offF
        refine store_ok (X := X.suite a ((a, oe4) :: (X.pn ++ pins))) (v := .ref a) S4 nd hi (.inl hln) rfl (fun s5 S5 => ?_) (.inr hln)
        have away : ∀ {s6 : Shared} {σ6 : L2.St} {H6 : Hp} {Q : Shared → Prop}, Inv (X.suite a ((a, oe4) :: (X.pn ++ pins))) [] σ6 H6 s6 → (∀ s7, Inv X pins (σ6.set i none) H6 s7 → Q s7) →
            wpAny M X.A (do bindName X.env n .none; unbindBehindTheSuite X.env n p2) (fun _ s7 => Q s7) X.xe s6 := fun S6 hq => gone_ok (S6.unsuite ok) nd hi hln hq
        refine wpAny_mono ((hsu a oe4 cls d (X.pn ++ pins) hz4 ⟨_, fields4⟩).run [] s5 _ H1 _ S5 (hyes rfl a na)) (fun f s6 z => ?_) (fun _ _ z => z.elim)
        match f, z with
        | .next, ⟨_, _, S6, q6⟩ => exact away S6 fun s7 J7 => ⟨_, _, J7, q6⟩
        | .brk, ⟨_, _, S6, q6⟩ => exact away S6 fun s7 J7 => ⟨_, _, J7, q6⟩
        | .cont, ⟨_, _, S6, q6⟩ => exact away S6 fun s7 J7 => ⟨_, _, J7, q6⟩
        | .ret u, ⟨_, _, _, S6, r6, q6⟩ => exact away S6 fun s7 J7 => ⟨_, _, _, J7, r6, q6⟩
  have ran := (hb (wHands X.K Wout D l) (X.pn ++ pins) caught tkc PassesOwn.looking).run [] s σ H D (I.toTry _) asked
  refine wpAny_mono ran (fun f s1 z => ?_) (fun _ _ z => z)
  match f, z with
  | .next, ⟨_, _, J, q⟩ => exact wpAny_execs_nil ⟨_, _, J.ofTry ok, q⟩
  | .brk, ⟨_, _, J, q⟩ => exact ⟨_, _, J.ofTry ok, q⟩
  | .cont, ⟨_, _, J, q⟩ => exact ⟨_, _, J.ofTry ok, q⟩
  | .ret u, ⟨_, _, _, J, r, q⟩ => exact ⟨_, _, _, J.ofTry ok, r, q⟩
end
/-! ### isinstance of what was caught, its attributes standing in a dict -/
/-- isinstance(e, c), the exception's dict at dd -/
def rIsX (K : PySem.W.Frag) (D a dd : Addr) : List V → Hp → VK → Prop := fun xs H Q => ∃ (c : V) (cv : Value) (b : Bool) (fs : List (Str × V)), xs = [.ref a, c] ∧ (∀ u, RelV c u → u = cv) ∧ H dd = some (.xd fs) ∧ PySem.W.kitOne K (.ref D) cv = some b ∧ Q (.bl b) H
theorem call_isX {X : Cx} {a D dd : Addr} {oe : Obj} {pn : List (Addr × Obj)} (C : ExcC X.K D) (hz : Zc (.ref D) (some dd) oe) (hf : ∃ vs, oe.data = .fields vs) : CallR (X.suite a ((a, oe) :: pn)) (.builtin "isinstance") (rIsX X.K D a dd) := by
  intro pins s σ H xs us Q I rs asked
  obtain ⟨c, cv, b, fs, rfl, one, hd, says, q⟩ := asked
  match us, rs with
  | [u1, u2], .cons rx (.cons rc .nil) =>
    cases (show u1 = Value.ref a from rx)
    cases one _ rc
    obtain ⟨there, _⟩ := I.pin (a, oe) (List.mem_append_left _ List.mem_cons_self)
    obtain ⟨vs, fields⟩ := hf
    have own : ObjOk X.prog X.w H s.heap dd (.xd fs) := I.hok dd _ hd
    obtain ⟨mA, ns, _⟩ := own
    obtain ⟨od, at_, _⟩ := lookIn_ns ns
    have J : PySem.W.InstAt s.heap a oe D (some od) := by
      obtain ⟨oc, odi, oda, osl⟩ := oe
      obtain ⟨z1, z2⟩ := hz
      dsimp only at z1 z2 fields
      subst z1 z2 fields
      exact ⟨there, rfl, rfl, at_⟩
    have hc : (PySem.W.clsIn X.K D).isSome = true := by
      obtain ⟨cd, e, _⟩ := PySem.W.any_some C.hd
      rw [e]
      rfl
    exact PySem.W.kia_one (PySem.W.kitx_exc hc C.hg C.hk C.hs C.ha C.hn C.ht C.hm) I.kIn J says (fun z => nomatch z) fun tk => ⟨.bl b, H, I.kept (t' := tk) fun _ _ z => z, rfl, q⟩
/-! ### dicts, by values -/
section
variable {X : Cx}
theorem ix_dictD (hu : X.A.units + 1 < cLine) : IxR X (fun x y H Q => ∃ a z, x = .ref a ∧ DGet H a y (some z) ∧ Q z H) := by
  intro value slice pins s σ H x y v u Q I rx ry asked hs
  obtain ⟨a, z, rfl, g, q⟩ := asked
  cases (show v = Value.ref a from rx)
  exact tail_any (dict_typeIs I g) PySem.F.slot_dict_getitem.lookup (d_getItem hu I g ry fun w' s' I' r' => ⟨z, H, I', r', q⟩) hs
theorem op_inDict (hu : X.A.units + 1 < cLine) : OpR X (compareOp .In) (fun x y H Q => ∃ a o, y = .ref a ∧ DGet H a x o ∧ Q (.bl o.isSome) H) := by
  intro pins s σ H x y v u Q I rx ry asked
  obtain ⟨a, o, rfl, g, q⟩ := asked
  cases (show u = Value.ref a from ry)
  exact d_in hu I g rx fun s' I' => ⟨.bl o.isSome, H, I', rfl, q⟩
theorem op_notInDict (hu : X.A.units + 1 < cLine) : OpR X (compareOp .NotIn) (fun x y H Q => ∃ a o, y = .ref a ∧ DGet H a x o ∧ Q (.bl (!o.isSome)) H) := by
  intro pins s σ H x y v u Q I rx ry asked
  obtain ⟨a, o, rfl, g, q⟩ := asked
  cases (show u = Value.ref a from ry)
  exact d_notIn hu I g rx fun s' I' => ⟨.bl (!o.isSome), H, I', rfl, q⟩
/-- two dicts, not alike long -/
theorem op_eqDictL (hu : X.A.units < cLine) : OpR X (compareOp .Eq) (fun x y H Q => ∃ a b ks ls, x = .ref a ∧ y = .ref b ∧ Rd H a (.dK ks) ∧ Rd H b (.dK ls) ∧ ks.length ≠ ls.length ∧ Q (.bl false) H) := by
  intro pins s σ H x y v u Q I rx ry asked
  obtain ⟨a, b, ks, ls, rfl, rfl, e1, e2, ne, q⟩ := asked
  cases (show v = Value.ref a from rx)
  cases (show u = Value.ref b from ry)
  obtain ⟨_, n1, va, r1, d1⟩ := dk_rd I.hok e1
  obtain ⟨_, n2, vb, r2, d2⟩ := dk_rd I.hok e2
  have ln : va.length ≠ vb.length := by rw [← r1.length, ← r2.length]; exact ne
  exact PySem.W.keq_eq (knd := mixKind X.prog X.w) (r := true) n1 n2 d1 d2 hu (fun z => absurd z ln) (fin_bl I q (by simp [ln]))
theorem op_neDictL (hu : X.A.units < cLine) : OpR X (compareOp .NotEq) (fun x y H Q => ∃ a b ks ls, x = .ref a ∧ y = .ref b ∧ Rd H a (.dK ks) ∧ Rd H b (.dK ls) ∧ ks.length ≠ ls.length ∧ Q (.bl true) H) := by
  intro pins s σ H x y v u Q I rx ry asked
  obtain ⟨a, b, ks, ls, rfl, rfl, e1, e2, ne, q⟩ := asked
  cases (show v = Value.ref a from rx)
  cases (show u = Value.ref b from ry)
  obtain ⟨_, n1, va, r1, d1⟩ := dk_rd I.hok e1
  obtain ⟨_, n2, vb, r2, d2⟩ := dk_rd I.hok e2
  have ln : va.length ≠ vb.length := by rw [← r1.length, ← r2.length]; exact ne
  exact PySem.W.keq_ne (knd := mixKind X.prog X.w) (r := true) n1 n2 d1 d2 hu (fun z => absurd z ln) (fin_bl I q (by simp [ln]))
/-- two empty dicts -/
theorem op_eqDict0 (hu : X.A.units < cLine) : OpR X (compareOp .Eq) (fun x y H Q => ∃ a b, x = .ref a ∧ y = .ref b ∧ Rd H a (.dK []) ∧ Rd H b (.dK []) ∧ Q (.bl true) H) := by
  intro pins s σ H x y v u Q I rx ry asked
  obtain ⟨a, b, rfl, rfl, e1, e2, q⟩ := asked
  cases (show v = Value.ref a from rx)
  cases (show u = Value.ref b from ry)
  obtain ⟨_, n1, va, r1, d1⟩ := dk_rd I.hok e1
  obtain ⟨_, n2, vb, r2, d2⟩ := dk_rd I.hok e2
  have l1 : va = [] := List.length_eq_zero_iff.mp (by rw [← r1.length]; rfl)
  have l2 : vb = [] := List.length_eq_zero_iff.mp (by rw [← r2.length]; rfl)
  subst l1 l2
  exact PySem.W.keq_eq (knd := mixKind X.prog X.w) (r := true) n1 n2 d1 d2 hu (fun _ => .nil) (fin_bl I q rfl)
theorem op_neDict0 (hu : X.A.units < cLine) : OpR X (compareOp .NotEq) (fun x y H Q => ∃ a b, x = .ref a ∧ y = .ref b ∧ Rd H a (.dK []) ∧ Rd H b (.dK []) ∧ Q (.bl false) H) := by
  intro pins s σ H x y v u Q I rx ry asked
  obtain ⟨a, b, rfl, rfl, e1, e2, q⟩ := asked
  cases (show v = Value.ref a from rx)
  cases (show u = Value.ref b from ry)
  obtain ⟨_, n1, va, r1, d1⟩ := dk_rd I.hok e1
  obtain ⟨_, n2, vb, r2, d2⟩ := dk_rd I.hok e2
  have l1 : va = [] := List.length_eq_zero_iff.mp (by rw [← r1.length]; rfl)
  have l2 : vb = [] := List.length_eq_zero_iff.mp (by rw [← r2.length]; rfl)
  subst l1 l2
  exact PySem.W.keq_ne (knd := mixKind X.prog X.w) (r := true) n1 n2 d1 d2 hu (fun _ => .nil) (fin_bl I q rfl)
/-- len of a dict that is read -/
theorem call_lenR : CallR X (.builtin "len") (fun xs H Q => ∃ a kvs, xs = [V.ref a] ∧ Rd H a (.dK kvs) ∧ Q (.int kvs.length) H) := by
  intro pins s σ H xs us Q I r asked
  obtain ⟨a, kvs, rfl, ha, q⟩ := asked
  match us, r with
  | [u], .cons ru .nil =>
    cases (show u = Value.ref a from ru)
    exact d_len I ha fun t s' I' => ⟨.int kvs.length, H, I', ⟨t, rfl⟩, q⟩
/-- o[i] = v: a list or a dict -/
def rSetB : TSet := fun o i v H Q => rSetL o i v H Q ∨ rSetD o i v H Q
theorem set_both (hu : X.A.units + 1 < cLine) : PSet X rSetB := fun pins s σ H o i v ov iv u Q I ro ri rv h => by
  rcases h with h | h
  · exact set_list pins s σ H o i v ov iv u Q I ro ri rv h
  · exact set_dict hu pins s σ H o i v ov iv u Q I ro ri rv h
end
/-! ### enumerate over a text -/
/-- the signs of a text, each in a new pair behind its place -/
def ItsE (x : Str) : It := ⟨fun i _ => i < x.cps.size, fun i H v H' => ∃ T c, v = .ref T ∧ H T = none ∧ H' = upd H T (.tup [.int (i : Nat), .str ⟨#[c]⟩]) ∧ x.cps[i]? = some c, fun i _ => i = x.cps.size⟩
theorem turn_enumS {P : Program} {w : World} {K : PySem.W.Frag} {elts : List Expr} {kk : Nat} {tpos : Pos} (x : Str) (t : Tok) (e it : Addr) :
    Turn P w K (.Tuple elts kk tpos) (ItsE x) [e, it] e (fun i h => (∃ old, IsEnum h e it ((i : Nat) : Int) old) ∧ h.IsStrIter it (strIterType x) x t i ∧ e ≠ it) where
  mem := by simp
  obj := fun i h st b hb => by
    obtain ⟨⟨old, he⟩, ⟨o, ho, hc, hd⟩, _⟩ := st
    have two : b = e ∨ b = it := by simpa using hb
    rcases two with z | z
    · rw [z]
      exact ⟨_, he, fun v q => nomatch q⟩
    · rw [z]
      exact ⟨o, ho, fun v q => by rw [hd] at q; cases q⟩
  keep := fun i h h' st k => by
    obtain ⟨⟨old, he⟩, ⟨o, ho, r⟩, hne⟩ := st
    exact ⟨⟨old, k e (by simp) _ he⟩, ⟨o, k it (by simp) o ho, r⟩, hne⟩
  item := by
    intro X hP hw hK hc i pins s σ H E I hf st hg
    subst hP hw hK
    obtain ⟨⟨old, he⟩, hit, hne⟩ := st
    have lt1 : e < s.heap.objs.size := Heap.lt_size he
    have lt2 : it < s.heap.objs.size := by
      obtain ⟨_, q, _⟩ := hit
      exact Heap.lt_size q
    have D : Draws X.prog X.w X.A.in1 it [it] x.cps.size (SignAt x) (fun i h => h.IsStrIter it (strIterType x) x t i) := by
      unfold strIterType
      split
      · exact Draws.strAscii (by simpa using I.ok.hd hc) it x t
      · exact Draws.strWide (by simpa using I.ok.hd hc) it x t
    refine wpAny_pyNext_enum_itemD D he hit hg hne (by simpa using hne) fun v h' tk hv ho hit' hT hsz hk => ?_
    obtain ⟨c, u, hcx, rfl⟩ := hv
    refine ⟨_, rfl, wpAny_letOwnedTupleGo_enum (s := { s with heap := h', toks := tk + 1 }) ho fun h2 he2 sb => ?_⟩
    have hT2 : h2.get? s.heap.objs.size = some { cls := .type "tuple", data := .seq #[.int i tk, .str ⟨#[c]⟩ u] } := (sb.2 _ (Nat.ne_of_gt lt1)).trans hT
    have new : ObjOk X.prog X.w (upd H s.heap.objs.size (.tup [.int (i : Nat), .str ⟨#[c]⟩])) h2 s.heap.objs.size (.tup [.int (i : Nat), .str ⟨#[c]⟩]) :=
      ⟨by show 2 ≤ sizeLine; decide, [.int i tk, .str ⟨#[c]⟩ u], .cons ⟨_, rfl⟩ (.cons ⟨_, rfl⟩ .nil), ⟨_, hT2, rfl, _, rfl⟩⟩
    have J : Inv X pins σ (upd H s.heap.objs.size (.tup [.int (i : Nat), .str ⟨#[c]⟩])) { s with heap := h2, toks := tk + 1 } :=
      I.turnedNew (ch := [e, it]) (fun b ob hb q => (sb.2 b (fun z => hb (by simp [z]))).trans (hk b ob (fun z => hb (by simp [z])) (fun z => hb (by simp [z])) q)) hf (Nat.le_refl _) new
    refine ⟨.ref s.heap.objs.size, _, J, rfl, ⟨_, c, rfl, I.hok.fresh (Nat.le_refl _), rfl, hcx⟩, ⟨⟨.str ⟨#[c]⟩ u, ?_⟩, ?_, hne⟩, fun b hb => ?_⟩
    · rw [show ((i + 1 : Nat) : Int) = (i : Int) + 1 by omega]
      exact he2
    · obtain ⟨o, ho2, r⟩ := hit'
      exact ⟨o, (sb.2 it (Ne.symm hne)).trans ho2, r⟩
    · have lt3 : b < s.heap.objs.size := by
        have two : b = e ∨ b = it := by simpa using hb
        rcases two with z | z
        · exact z ▸ lt1
        · exact z ▸ lt2
      rw [upd_ne (Nat.ne_of_lt lt3)]
      exact (hf b hb).1
  done := by
    intro X hP hw hK hc i pins s σ H E I hf st hg
    subst hP hw hK
    obtain ⟨⟨old, he⟩, hit, hne⟩ := st
    obtain ⟨f0, f1, f2, f3, f4, f5⟩ := hf it (by simp)
    have D : Draws X.prog X.w X.A.in1 it [it] x.cps.size (SignAt x) (fun i h => h.IsStrIter it (strIterType x) x t i) := by
      unfold strIterType
      split
      · exact Draws.strAscii (by simpa using I.ok.hd hc) it x t
      · exact Draws.strWide (by simpa using I.ok.hd hc) it x t
    have ei : i = x.cps.size := hg
    subst ei
    exact wpAny_pyNext_enum_endD D he hit fun h' eb => ⟨rfl, I.turned (t' := s.toks) (fun b o hb q => eb b o hb q) f0 f1 f3 f4 f5⟩
  self := fun A i s Q E st h => by
    obtain ⟨⟨_, he⟩, _⟩ := st
    exact wpAny_pyIter_enum he h
theorem walk_enumS {x : Str} : Walk (ItsE x) x.cps.size (fun _ => True) (fun i H v H' => ∃ T c, v = .ref T ∧ H T = none ∧ H' = upd H T (.tup [.int (i : Nat), .str ⟨#[c]⟩]) ∧ x.cps[i]? = some c) :=
  ⟨fun _ _ hi _ => hi, fun _ _ => rfl, fun _ _ _ _ _ _ y => y⟩
def iEnumS (ta : TA) : TI := fun σ H R => ta σ H fun vs H1 => ∃ x, vs = [.str x] ∧ R (ItsE x) H1
theorem pi_enumS {X : Cx} {e : Expr} {ta : TA} {p pos tpos : Pos} {elts : List Expr} {kk : Nat} (hg : Gl X "enumerate") (hm : X.mg "enumerate" = none) (ha : PA X [e] ta) (hs : starEach [e] X.env = [(false, eval e X.env)]) :
    PI X (.Tuple elts kk tpos) (.Call (.Name "enumerate" p) [e] [] pos) (iEnumS ta) :=
  ⟨fun pins s σ H R I h => Call_ (ld_blt I hg hm boot_enumerate (PyProof.Rows.callWith_type1 (thn (ha.run pos pins s σ H _ I h) fun us s1 z => by
    obtain ⟨vs, H1, I1, r1, x, rfl, q⟩ := z
    match us, r1 with
    | [u], .cons ru .nil =>
      obtain ⟨t, rfl⟩ := (show ∃ t, u = Value.str x t from ru)
      refine call_enumerate_str fun h' he hit hsz hk => wpAny_pyIter_enum he ?_
      have J : Inv X pins σ H1 { s1 with heap := h' } := I1.kept (t' := s1.toks) hk
      refine ⟨s1.heap.objs.size + 1, [s1.heap.objs.size + 1, s1.heap.objs.size], _, _, H1, rfl, J, turn_enumS x t (s1.heap.objs.size + 1) s1.heap.objs.size, ⟨⟨.none, he⟩, hit, Nat.succ_ne_self _⟩, fun b hb => ?_, q⟩
      have le : s1.heap.objs.size ≤ b := by
        have two : b = s1.heap.objs.size + 1 ∨ b = s1.heap.objs.size := by simpa using hb
        rcases two with z | z
        · rw [z]; exact Nat.le_add_right _ _
        · rw [z]; exact Nat.le_refl _
      exact I1.fpOk le (I1.hok.fresh le)) hs rfl))⟩
end Mi

set_option Elab.async false
set_option linter.all false
set_option maxRecDepth 100000
set_option maxHeartbeats 4000000
/-! Ma0b: len(set(xs)), xs a list or a tuple of texts; text * number. -/
noncomputable section
namespace Mi
open PySem PySem.Spec PyProof.Rows L2
/-- how many unlike texts are among the first i -/
def cntS (xs : List Str) : Nat → Nat
  | 0 => 0
  | i + 1 => if (xs.take i).any (· == xs.getD i Str.empty) = true then cntS xs i else cntS xs i + 1
theorem cntS_le (xs : List Str) : ∀ i, cntS xs i ≤ i
  | 0 => Nat.le_refl _
  | i + 1 => by
    have := cntS_le xs i
    unfold cntS
    split <;> omega
section
variable {prog : Program} {w : World} {A : Around} {R : Result → Shared → Prop} {I : Addr} {fp wr : List Addr} {G : Array GenState → Array GenState → Prop} {n : Nat} {P : Nat → Value → Prop} {St : Nat → Shared → Prop}
theorem setOf_at {h h' : Heap} {a : Addr} {S : Str → Bool} {n : Nat} (hS : h.SetOf (PySem.strKind prog w) a S n) (k : ∀ o, h.get? a = some o → h'.get? a = some o) : h'.SetOf (PySem.strKind prog w) a S n := by
  obtain ⟨o, es, ep, t, ho, rest⟩ := hS
  exact ⟨o, es, ep, t, k o ho, rest⟩
/-- the making of a set: all that is left to come -/
theorem set_loop (W : WalksS prog w A.in1 I fp wr G n P St) (S : Addr) (hSf : S ∉ fp) (xs : List Str) (hsz : xs.length = n) (hn : n < 64)
    (hval : ∀ i v, P i v → ∃ t, v = .str (xs.getD i Str.empty) t) :
    ∀ (k i : Nat) (s : Shared), n - i = k → i ≤ n → St i s → s.heap.SetOf (PySem.strKind prog w) S (fun y => (xs.take i).any (· == y)) (cntS xs i) →
      (∀ s', Moved (S :: wr) G s s' → s'.heap.SetOf (PySem.strKind prog w) S (fun y => (xs.take n).any (· == y)) (cntS xs n) → R (.ok (.ret .none)) s') →
      codeAny (model prog w) A (.builtin "set.update.loop" ⟨[.ref S, .ref I], []⟩) R s := by
  have hSw : S ∉ wr := fun h => hSf (W.sub _ h)
  intro k
  induction k with
  | zero =>
    intro i s hk hi hst hS hR
    obtain rfl : i = n := by omega
    refine codeAny_builtin PyProof.Rows.F.entry_set_update_loop ?_
    rw [Around.under_plainId PyProof.Rows.F.plain_set_update_loop _]
    show wpAny _ A.in1 (pyNext (.ref I) >>= _) _ _ s
    refine wpAny_bind (W.done s _ _ hst fun s' hm => ?_)
    show wpAny _ A.in1 (ret Value.none) _ _ s'
    exact wpAny_pure (hR s' (hm.mono fun b hb => List.mem_cons_of_mem _ hb) (setOf_at hS fun o ho => hm.heap S _ hSw ho))
  | succ k ih =>
    intro i s hk hi hst hS hR
    have hlt : i < n := by omega
    refine codeAny_builtin PyProof.Rows.F.entry_set_update_loop ?_
    rw [Around.under_plainId PyProof.Rows.F.plain_set_update_loop _]
    show wpAny _ A.in1 (pyNext (.ref I) >>= _) _ _ s
    refine wpAny_bind (W.item i s _ _ hlt hst fun v s' hP hst' hm => ?_)
    obtain ⟨t, rfl⟩ := hval i v hP
    have hS' := setOf_at hS (h' := s'.heap) fun o ho => hm.heap S _ hSw ho
    show wpAny _ A.in1 (holding [Value.str (xs.getD i Str.empty) t] (setAdd S (.str (xs.getD i Str.empty) t)) >>= _) _ _ s'
    refine wpAny_bind (wpAny_holding ?_)
    unfold setAdd
    refine wpAny_holding (wpAny_bind ((PySem.strKind prog w).pyHash (k := xs.getD i Str.empty) (strKind_is _ _ _ _) ?_))
    have hc := cntS_le xs i
    refine wpAny_setAddHashed_of (knd := PySem.strKind prog w) (s := { s' with toks := s'.toks + 1 }) (strKind_is _ _ _ _) rfl hS' (by unfold scanBound; omega) fun h' hsb hS2 => ?_
    have hSi : h'.SetOf (PySem.strKind prog w) S (fun y => (xs.take (i + 1)).any (· == y)) (cntS xs (i + 1)) := by
      refine SetOf_congr hS2 (fun y => ?_) rfl
      have ex : xs[i]? = some (xs.getD i Str.empty) := by
        rw [List.getD_eq_getElem?_getD, List.getElem?_eq_getElem (by omega)]
        rfl
      rw [List.take_add_one, ex, List.any_append]
      show _ = ((xs.take i).any (· == y) || ((xs.getD i Str.empty == y) || false))
      rw [Bool.or_false]
      congr 1
      by_cases e : y = xs.getD i Str.empty
      · rw [e, decide_eq_true rfl, beq_self_eq_true]
      · rw [decide_eq_false e]
        exact (beq_eq_false_iff_ne.mpr fun z => e z.symm).symm
    refine wpAny_pure ⟨plainId_quiet PyProof.Rows.F.plain_set_update_loop _, ih (i + 1) _ (by omega) hlt (W.frame _ s' _ _ hst' (Nat.le_succ _) fun b hb o e => ?_) hSi fun s'' hm'' hS'' => ?_⟩
    · exact (hsb.2 b (fun h : b = S => hSf (by rw [← h]; exact hb))).trans e
    · refine hR s'' (Moved.trans W.gtrans ((hm.mono fun b hb => List.mem_cons_of_mem _ hb).then_heap (Nat.le_succ _) fun b o hb e => ?_) hm'') hS''
      exact (hsb.2 b (fun h : b = S => hb (by rw [h]; exact List.mem_cons_self))).trans e
end
theorem strs_at' {us : List Value} {xs : List Str} (h : StrsAre us xs) : ∀ (i : Nat) (v : Value), us[i]? = some v → ∃ t, v = .str (xs.getD i Str.empty) t := by
  induction h with
  | nil => intro i v e; cases e
  | cons y t _ ih =>
    intro i v e
    cases i with
    | zero =>
      cases e
      exact ⟨t, rfl⟩
    | succ i => exact ih i v e
/-- a list or a tuple on the heap -/
def SeqAs (T : String) (h : Heap) (l : Addr) (its : Array Value) : Prop := ∃ o, h.get? l = some o ∧ o.cls = .type T ∧ ∃ n, o.data = .seq its n
section
variable {prog : Program} {w : World} {A : Around} {E : Value → Shared → Prop} {s : Shared}
set_option maxHeartbeats 6400000 in
/-- set(xs) -/
theorem set_call {T : String} (hT' : T = "list" ∨ T = "tuple") {l : Addr} {items : Array Value} {xs : List Str} {Q : Value → Shared → Prop}
    (hh : A.handled = none) (hl : SeqAs T s.heap l items) (hi : PyProof.Rows.StrsAre items.toList xs) (hn1 : xs.length < 64)
    (h : ∀ (h' : Heap) (tk : Nat), h'.SetOf (PySem.strKind prog w) s.heap.objs.size (fun y => (xs.take items.size).any (· == y)) (cntS xs items.size) →
      (∀ b o, b < s.heap.objs.size → s.heap.get? b = some o → h'.get? b = some o) → Q (.ref s.heap.objs.size) { s with heap := h', toks := tk }) :
    wpAny (model prog w) A (call (.type "set") [.ref l]) Q E s := by
  obtain ⟨c, tl, hmro⟩ := PySem.F.called_set.mro
  have hmade := PySem.F.called_set.made
  have hsub := PySem.F.called_set.sub
  refine wpAny_call (codeAny_of_tree ?_)
  show wpAny _ _ (callAny (.type "set") _) _ _ _
  refine wpAny_pure ⟨Code.quiet_builtin _ (by decide +kernel), codeAny_builtin PySem.F.entry_type_call ?_⟩
  rw [Around.under_plain (weight_type_call_type "set" [.ref l] []) rfl]
  have h1 := PySem.F.called_set.notType
  have h2 := PySem.F.called_set.canCreate
  have hct := PySem.F.typeCall_set_1 (.ref l)
  repeat (any_goals (first | assumption | wp_step))
  refine codeAny_mono (code_set_new_1 (.ref l) (E := E) (Q₁ := fun obj s₁ => ∃ led : Bool, obj = .ref s.heap.objs.size ∧ s₁ = { s with heap := s.heap.push { cls := .type "set", dict := none, data := .set #[] 0 (.fresh 0 0 led) } }) fun led => ⟨led, rfl, rfl⟩) fun r s₁ hr => ?_
  match r, hr with
  | .error e, hr => exact hr
  | .ok (.ret obj), hr =>
    obtain ⟨led, rfl, rfl⟩ := hr
    have hS : (s.heap.push { cls := .type "set", dict := none, data := .set #[] 0 (.fresh 0 0 led) }).get? s.heap.objs.size = some { cls := .type "set", dict := none, data := .set #[] 0 (.fresh 0 0 led) } := Heap.get?_push_size _ rfl
    have hT : Shared.TypeIs { s with heap := s.heap.push { cls := .type "set", dict := none, data := .set #[] 0 (.fresh 0 0 led) } } (.ref s.heap.objs.size) "set" := ⟨_, hS, rfl⟩
    have hli := PySem.F.called_set.init.lookup
    have hbi := PySem.F.called_set.init.bind (.ref s.heap.objs.size)
    repeat (any_goals (first | assumption | wp_step))
    refine codeAny_mono (codeAny_call_builtin (R := wants (fun r s₂ => r = .none ∧ ∃ h' tk, s₂ = { s with heap := h', toks := tk } ∧
        h'.SetOf (PySem.strKind prog w) s.heap.objs.size (fun y => (xs.take items.size).any (· == y)) (cntS xs items.size) ∧
        (∀ b o, b < s.heap.objs.size → s.heap.get? b = some o → h'.get? b = some o)) E) PySem.F.called_set.init.plain PySem.F.entry_set_init (check_set_init_1 hT ?_)) fun r₂ s₂ hr₂ => ?_
    · obtain ⟨⟨ocls, odict, odata, oslots⟩, hol, hcl, nl, hdl⟩ := hl
      simp only at hcl hdl
      subst hcl; subst hdl
      have hol' : (s.heap.push { cls := .type "set", dict := none, data := .set #[] 0 (.fresh 0 0 led) }).get? l = some { cls := .type T, dict := odict, data := .seq items nl, slots := oslots } := Heap.get?_push_of_some _ hol
      have hlS : l < s.heap.objs.size := Heap.lt_size hol
      have hh3 : A.in1.in1.in1.handled = none := by simp [hh]
      have hneI : l ≠ (s.heap.push { cls := .type "set", dict := none, data := .set #[] 0 (.fresh 0 0 led) }).objs.size := by
        rw [Heap.size_push]; exact Nat.ne_of_lt (Nat.lt_succ_of_lt hlS)
      have hSf : s.heap.objs.size ∉ [(s.heap.push { cls := .type "set", dict := none, data := .set #[] 0 (.fresh 0 0 led) }).objs.size, l] := by
        rw [Heap.size_push]; simp only [List.mem_cons, List.mem_singleton, List.not_mem_nil, or_false, not_or]
        exact ⟨Nat.ne_of_lt (Nat.lt_succ_self _), Nat.ne_of_gt hlS⟩
      have hsz : xs.length = items.size := by rw [← StrsAre.len_eq hi, Array.length_toList]
      have hval : ∀ (i : Nat) (v : Value), items[i]? = some v → ∃ t, v = .str (xs.getD i Str.empty) t := fun i v hv => strs_at' hi i v (by rw [Array.getElem?_toList]; exact hv)
      rcases hT' with rfl | rfl
      · have hsls := PySem.F.sub_list_set
        have hslf := PySem.F.sub_list_frozenset
        have hne : (Value.type "list" == Value.type "dict") = false := by decide
        have hl1 : (s.heap.push { cls := .type "set", dict := none, data := .set #[] 0 (.fresh 0 0 led) }).IsList l items := ⟨_, hol', rfl, nl, rfl⟩
        unfold Builtin.«set.__init__» noKeywords Builtin.Frozenset.updateFrom
        generalize hPI : pyIter = PI
        wp_walk
        subst hPI
        refine wpAny_pyIter_list hl1 (wpAny_bind (wpAny_runValue ?_))
        refine set_loop ((Walks.list hh3 _ l hneI items).toS) s.heap.objs.size hSf xs hsz (by omega) hval (items.size - 0) 0 _ (by omega) (Nat.zero_le _) ⟨⟨_, Heap.get?_push_size _ rfl, rfl, rfl⟩, (hl1.push _)⟩ ?hS0 ?hR
        case hS0 =>
          exact PyProof.Rows.SetOf_congr ((PyProof.Rows.setObjOf_fresh (knd := PySem.strKind prog w) led).setOf (Heap.get?_push_of_some _ hS) (by unfold scanBound; omega)) (fun _ => rfl) rfl
        case hR =>
          intro s' hm hS'
          obtain ⟨h', g', d', tk', os'⟩ := s'
          have eg : g' = s.gens := hm.gens
          have ed : d' = s.drawn := hm.drawn
          have eo : os' = s.os := hm.os
          subst eg; subst ed; subst eo
          show wpAny _ _ _ _ _ _
          refine wpAny_pure ?_
          show wpAny _ _ (ret Value.none) _ _ _
          refine wpAny_pure ⟨rfl, h', tk', rfl, hS', fun b o hb e => hm.heap b o ?_ (Heap.get?_push_of_some _ (Heap.get?_push_of_some _ e))⟩
          simp only [List.mem_cons, List.mem_singleton, List.not_mem_nil, or_false, not_or]
          exact ⟨Nat.ne_of_lt hb, by rw [Heap.size_push]; exact Nat.ne_of_lt (Nat.lt_succ_of_lt hb)⟩
      · have hsls := PySem.F.sub_tuple_set
        have hslf := PySem.F.sub_tuple_frozenset
        have hne : (Value.type "tuple" == Value.type "dict") = false := by decide
        have hl1 : (s.heap.push { cls := .type "set", dict := none, data := .set #[] 0 (.fresh 0 0 led) }).IsTuple l items := ⟨_, hol', rfl, nl, rfl⟩
        unfold Builtin.«set.__init__» noKeywords Builtin.Frozenset.updateFrom
        generalize hPI : pyIter = PI
        wp_walk
        subst hPI
        refine wpAny_pyIter_tuple hl1 (wpAny_bind (wpAny_runValue ?_))
        refine set_loop ((Walks.tuple hh3 _ l hneI items).toS) s.heap.objs.size hSf xs hsz (by omega) hval (items.size - 0) 0 _ (by omega) (Nat.zero_le _) ⟨⟨_, Heap.get?_push_size _ rfl, rfl, rfl⟩, (hl1.push _)⟩ ?hS0 ?hR
        case hS0 =>
          exact PyProof.Rows.SetOf_congr ((PyProof.Rows.setObjOf_fresh (knd := PySem.strKind prog w) led).setOf (Heap.get?_push_of_some _ hS) (by unfold scanBound; omega)) (fun _ => rfl) rfl
        case hR =>
          intro s' hm hS'
          obtain ⟨h', g', d', tk', os'⟩ := s'
          have eg : g' = s.gens := hm.gens
          have ed : d' = s.drawn := hm.drawn
          have eo : os' = s.os := hm.os
          subst eg; subst ed; subst eo
          show wpAny _ _ _ _ _ _
          refine wpAny_pure ?_
          show wpAny _ _ (ret Value.none) _ _ _
          refine wpAny_pure ⟨rfl, h', tk', rfl, hS', fun b o hb e => hm.heap b o ?_ (Heap.get?_push_of_some _ (Heap.get?_push_of_some _ e))⟩
          simp only [List.mem_cons, List.mem_singleton, List.not_mem_nil, or_false, not_or]
          exact ⟨Nat.ne_of_lt hb, by rw [Heap.size_push]; exact Nat.ne_of_lt (Nat.lt_succ_of_lt hb)⟩
    · match r₂, hr₂ with
      | .error e, hr₂ => exact hr₂
      | .ok (.ret r), hr₂ =>
        obtain ⟨rfl, h', tk, rfl, hS', hk'⟩ := hr₂
        repeat (any_goals (first | assumption | wp_step))
        exact h _ _ hS' hk'
end
section
variable {X : Cx}
theorem strsAre_vals : ∀ {ys : List Str} {us : List Value}, Vals (ys.map V.str) us → StrsAre us ys
  | [], _, .nil => .nil
  | y :: ys, _, .cons r t => by
    obtain ⟨k, rfl⟩ := r
    exact .cons y k (strsAre_vals t)
/-- len(set(xs)) -/
def tLenSetS (K : PySem.W.Frag) (ta : TE) : TE := fun σ H Q => ta σ H fun x H1 => ∃ l, ∃ xs : List Str, x = .ref l ∧ (SqL K H1 l (xs.map V.str) ∨ SqT K H1 l (xs.map V.str)) ∧ xs.length < 64 ∧ Q (.int (cntS xs xs.length : Nat)) H1
theorem pe_lenSetS {a : Expr} {ta : TE} {p p2 q pos : Pos} (hc : X.calm = true) (hg : Gl X "len") (hm : X.mg "len" = none) (hg2 : Gl X "set") (hm2 : X.mg "set" = none) (ha : PE X a ta)
    (na : starEach [a] X.env = (false, eval a X.env) :: starEach [] X.env) : PE X (.Call (.Name "len" p) [.Call (.Name "set" p2) [a] [] q] [] pos) (tLenSetS X.K ta) := by
  refine ⟨fun pins s σ H Q I h => ?_⟩
  refine Call_ (ld_blt I hg hm boot_len (PyProof.Rows.callWith_builtin1 (PyProof.Rows.args_cons ?_ rfl) rfl rfl))
  refine Call_ (ld_blt I hg2 hm2 boot_set (PyProof.Rows.callWith_type1 (PyProof.Rows.args_cons (thn (ha.run pins s σ H _ I h) fun v s1 ⟨x, H1, I1, r1, q1⟩ => PyProof.Rows.args_nil ?_) na) na rfl))
  obtain ⟨l, xs, rfl, hq, h1, q1⟩ := q1
  cases r1
  have hcn := cntS_le xs xs.length
  have fin : ∀ (its : List Value), Vals (xs.map V.str) its → ∀ (h' : Heap) (tk : Nat), h'.SetOf (PySem.strKind X.prog X.w) s1.heap.objs.size (fun y => (xs.take its.toArray.size).any (· == y)) (cntS xs its.toArray.size) →
      (∀ b o, b < s1.heap.objs.size → s1.heap.get? b = some o → h'.get? b = some o) →
      wpAny (model X.prog X.w) X.A (spliced (backTo pos (starEach [] X.env))) (fun vs s₂ => wpAny (model X.prog X.w) X.A (call (.builtin "len") (Value.ref s1.heap.objs.size :: vs)) (EP X pins σ Q) X.xe s₂) X.xe { s1 with heap := h', toks := tk } := fun its r h' tk hS hk => by
    refine PyProof.Rows.args_nil ?_
    have hl : its.toArray.size = xs.length := by rw [List.size_toArray, ← r.length, List.length_map]
    rw [hl] at hS
    obtain ⟨o, es, ep, t, ho, hex, hd, _, _, _, hf, hn⟩ := hS
    have I2 : Inv X pins σ H1 { s1 with heap := h', toks := tk } := I1.kept fun b o e => hk b o (Heap.lt_size e) e
    exact call_len_set ho hex hd hf (by rw [hn]; omega) ⟨.int (cntS xs xs.length : Nat), H1, I2.tok _, ⟨_, by rw [hn]⟩, q1⟩
  rcases hq with hq | hq
  · obtain ⟨its, r, pl, hz⟩ := I1.list hq
    exact set_call (T := "list") (.inl rfl) (I1.ok.hd hc) pl.isList (by simpa using strsAre_vals r) h1 fun h' tk hS hk => fin its r h' tk hS hk
  · obtain ⟨its, r, pl, hz⟩ := I1.tuple hq
    exact set_call (T := "tuple") (.inr rfl) (I1.ok.hd hc) pl (by simpa using strsAre_vals r) h1 fun h' tk hS hk => fin its r h' tk hS hk
end
/-! ### text * number -/
def CRep (z : Str) (n : Int) : Prop := 0 ≤ n ∧ n ≤ 1000 ∧ z.length ≤ 1000
theorem CRep.ok {z : Str} {n : Int} (h : CRep z n) : MulOk z n := by
  obtain ⟨h1, h2, h3⟩ := h
  refine ⟨?_, fun h4 _ => ?_, fun h4 _ => ?_⟩
  · rw [decide_eq_false (by omega), decide_eq_false (by omega)]
    rfl
  · have a1 : (1000 : Int) ≤ (2 ^ 63 - 1) / n := (Int.le_ediv_iff_mul_le (by omega)).mpr (by omega)
    omega
  · have a2 : z.length * n.toNat ≤ 1000 * 1000 := Nat.mul_le_mul h3 (by omega)
    refine decide_eq_false ?_
    rw [sizeLine_eq]
    omega
def rMulS : R2 := fun x y H Q => ∃ z n, x = .str z ∧ y = .int n ∧ CRep z n ∧ Q (.str (PySem.Txt.mul z n)) H
theorem op_mulS {X : Cx} : OpR X (binaryOp .Mult) rMulS := by
  intro pins s σ H x y v u Q I rx ry h
  obtain ⟨z, n, rfl, rfl, hc, q⟩ := h
  obtain ⟨t, rfl⟩ := rx
  obtain ⟨t', rfl⟩ := ry
  exact SB.mul hc.ok fun t2 k => ⟨.str (PySem.Txt.mul z n), H, I.kept (t' := k) fun _ _ z => z, ⟨_, rfl⟩, q⟩
end Mi

set_option Elab.async false
set_option linter.all false
set_option maxRecDepth 100000
set_option maxHeartbeats 4000000
/-! Ma0c: texts' operations, quick to reckon: cut at a sign, the first place of a text in a text, joined. -/
noncomputable section
namespace Mi
open PySem PySem.Spec PyProof.Rows L2
def splF (c : Nat) : List Nat → List Nat → List (List Nat)
  | acc, [] => [acc.reverse]
  | acc, a :: r => match Nat.beq c a with
    | true => acc.reverse :: splF c [] r
    | false => splF c (a :: acc) r
theorem splF_eq (c : Nat) : ∀ (l acc : List Nat), splF c acc l = TL.spl [c] 0 acc.reverse l
  | [], acc => rfl
  | a :: r, acc => by
    unfold splF
    have e : TL.pre [c] (a :: r) = Nat.beq c a := by
      show (([a] : List Nat) == [c]) = _
      cases q : Nat.beq c a with
      | true => rw [Nat.eq_of_beq_eq_true q]; simp
      | false => simpa using fun z => Nat.ne_of_beq_eq_false q z.symm
    split
    · rename_i q
      rw [TL.spl_hit (e.trans q), splF_eq c r []]
      rfl
    · rename_i q
      rw [TL.spl_miss (e.trans q), splF_eq c r (a :: acc), List.reverse_cons]
def txtSplit (a b : Str) : List Str := match b.cps.toList with
  | [c] => (match Nat.blt c 256 with
    | true => (splF c [] a.cps.toList).map fun l => ⟨l.toArray⟩
    | false => Txt.split a b)
  | _ => Txt.split a b
theorem txtSplit_eq (a b : Str) : txtSplit a b = Txt.split a b := by
  unfold txtSplit
  split
  · rename_i c hb
    split
    · rename_i h256
      have hc : c < 256 := by
        have : c ≤ 255 := by simpa [Nat.blt] using h256
        omega
      have e := SX.split_S (a := a.cps.toList) (b := [c]) (by simp) (by simp [hc])
      have ea : (SX.S a.cps.toList : Str) = a := TL.mk_tl a
      have eb : (SX.S [c] : Str) = b := by
        rw [← hb]
      rw [ea, eb] at e
      rw [e, splF_eq]
      exact List.map_congr_left fun _ _ => rfl
    · rfl
  · rfl
/-- S stands at the head of l -/
def preF : List Nat → List Nat → Bool
  | [], _ => true
  | _ :: _, [] => false
  | a :: S, b :: l => match Nat.beq a b with
    | true => preF S l
    | false => false
theorem preF_eq : ∀ (S l : List Nat), preF S l = TL.pre S l
  | [], l => by simp [preF, TL.pre]
  | a :: S, [] => by simp [preF, TL.pre]
  | a :: S, b :: l => by
    unfold preF
    have ih := preF_eq S l
    unfold TL.pre at ih ⊢
    rw [List.length_cons, List.take_succ_cons]
    show _ = (b == a && (l.take S.length == S))
    split
    · rename_i q
      rw [Nat.eq_of_beq_eq_true q, ih]
      simp
    · rename_i q
      have : ¬ b = a := fun z => Nat.ne_of_beq_eq_false q z.symm
      simp [this]
def findF (S : List Nat) : List Nat → Nat → Option Nat
  | [], _ => none
  | c :: r, n => match preF S (c :: r) with
    | true => some n
    | false => findF S r (n + 1)
theorem findF_some {S : List Nat} : ∀ {l : List Nat} {n k : Nat}, findF S l n = some k → n ≤ k ∧ TL.pre S (l.drop (k - n)) = true ∧ ∀ i, i < k - n → TL.pre S (l.drop i) = false
  | [], _, _, h => by cases h
  | c :: r, n, k, h => by
    unfold findF at h
    split at h
    · rename_i q
      cases h
      refine ⟨Nat.le_refl _, ?_, fun i hi => by omega⟩
      rw [Nat.sub_self, List.drop_zero, ← preF_eq]
      exact q
    · rename_i q
      obtain ⟨h1, h2, h3⟩ := findF_some h
      have e : k - n = (k - (n + 1)) + 1 := by omega
      refine ⟨by omega, by rw [e, List.drop_succ_cons]; exact h2, fun i hi => ?_⟩
      cases i with
      | zero => rw [List.drop_zero, ← preF_eq]; exact q
      | succ i => rw [List.drop_succ_cons]; exact h3 i (by omega)
theorem findF_none {S : List Nat} (hS : S ≠ []) : ∀ {l : List Nat} {n : Nat}, findF S l n = none → ∀ i, TL.pre S (l.drop i) = false
  | [], _, _, i => by rw [List.drop_nil]; exact TL.pre_nil hS
  | c :: r, n, h, i => by
    unfold findF at h
    split at h
    · cases h
    · rename_i q
      cases i with
      | zero => rw [List.drop_zero, ← preF_eq]; exact q
      | succ i => rw [List.drop_succ_cons]; exact findF_none hS h i
def txtFind (a b : Str) : Int := match b.cps.toList with
  | [] => Txt.find a b
  | s :: S => (match findF (s :: S) a.cps.toList 0 with
    | some k => (k : Int)
    | none => -1)
theorem txtFind_eq (a b : Str) : txtFind a b = Txt.find a b := by
  unfold txtFind
  split
  · rfl
  · rename_i s S hb
    have hne : TL.tl b ≠ [] := by
      show b.cps.toList ≠ []
      rw [hb]
      simp
    rcases find_whole a b with ⟨h1, h2⟩ | ⟨i, h1, h2, h3⟩
    · rw [h1]
      split
      · rename_i k hk
        obtain ⟨_, q, _⟩ := findF_some hk
        exact absurd ((TL.at_iff hne k).mpr (by show TL.pre b.cps.toList _ = true; rw [hb]; exact q)) (h2 k)
      · rfl
    · rw [h1]
      split
      · rename_i k hk
        obtain ⟨_, q, z⟩ := findF_some hk
        have p1 := (TL.at_iff hne i).mp h2
        have p1' : TL.pre (s :: S) (a.cps.toList.drop i) = true := by rw [← hb]; exact p1
        have hki : k = i := by
          rcases Nat.lt_trichotomy k i with h | h | h
          · exact absurd ((TL.at_iff hne k).mpr (by show TL.pre b.cps.toList _ = true; rw [hb]; exact q)) (h3 k h)
          · exact h
          · rw [z i (by omega)] at p1'
            cases p1'
        rw [hki]
      · rename_i hk
        have p1 := (TL.at_iff hne i).mp h2
        have p1' : TL.pre (s :: S) (a.cps.toList.drop i) = true := by rw [← hb]; exact p1
        rw [findF_none (by simp) hk i] at p1'
        cases p1'
/-- is b within a? -/
def txtHas (a b : Str) : Bool := match b.cps.toList with
  | [] => !(Builtin.Str.occurrences a b 0 a.length 1).isEmpty
  | s :: S => (findF (s :: S) a.cps.toList 0).isSome
theorem txtHas_eq (a b : Str) : txtHas a b = !(Builtin.Str.occurrences a b 0 a.length 1).isEmpty := by
  have e := txtFind_eq a b
  unfold txtHas
  unfold txtFind at e
  split
  · rfl
  · rename_i s S hb
    rw [hb] at e
    dsimp only at e
    unfold Txt.find at e
    cases q : Builtin.Str.occurrences a b 0 a.length 1 with
    | nil =>
      rw [q] at e
      cases z : findF (s :: S) a.cps.toList 0 with
      | none => rfl
      | some k =>
        rw [z] at e
        dsimp only at e
        omega
    | cons i r =>
      rw [q] at e
      cases z : findF (s :: S) a.cps.toList 0 with
      | none =>
        rw [z] at e
        dsimp only at e
        omega
      | some k => rfl
/-- put together -/
def appS (a b : Str) : Str := ⟨(a.cps.toList ++ b.cps.toList).toArray⟩
theorem appS_eq (a b : Str) : appS a b = a ++ b := TL.ext_tl (by rw [TL.tl_append]; rfl)
def joinF (sep : Str) : List Str → Str
  | [] => ⟨#[]⟩
  | [x] => x
  | x :: y :: r => appS x (appS sep (joinF sep (y :: r)))
theorem joinF_eq (sep : Str) (l : List Str) : joinF sep l = Txt.join sep l := by
  have e : Txt.join sep l = Str.join sep l := StrLaws.glued_eq_join sep l
  rw [e]
  induction l with
  | nil => rfl
  | cons x r ih =>
    cases r with
    | nil => rfl
    | cons y r =>
      have ih' := ih (StrLaws.glued_eq_join sep (y :: r))
      show appS x (appS sep (joinF sep (y :: r))) = x ++ sep ++ Str.join sep (y :: r)
      rw [appS_eq, appS_eq, ih']
      refine TL.ext_tl ?_
      simp only [TL.tl_append, List.append_assoc]
end Mi

set_option Elab.async false
set_option linter.all false
set_option maxRecDepth 100000
set_option maxHeartbeats 4000000
/-! Mi1: a small evaluator's data: values, cells, results; what a value stands for on the heap. -/
noncomputable section
namespace Mi
open PySem PySem.Spec PyProof.Rows L2

/-- values: obj an object that is never changed (its class, its attributes), dct a dict that is never changed; tup, lst are never changed; frl is a list that is read alone (the script, a list of the module); ref is a cell -/
inductive W where
  | non | bl (b : Bool) | int (i : Int) | str (s : Str) | tup (xs : List W) | lst (xs : List W) | frl (xs : List W) | ref (n : Nat) | obj (c : Str) (fs : List (Str × W)) | dct (kvs : List (Key × W))
def flatW : W → Bool
  | .non => true
  | .bl _ => true
  | .int _ => true
  | .str _ => true
  | _ => false
/-- a cell -/
inductive SO where
  | lst (xs : List W) | ins (c : Str) (fs : List (Str × W)) | dct (kvs : List (Key × W)) | imd (kvs : List (Key × W))
abbrev Sto := List SO
abbrev Env' := List (Option W)

/-- results -/
inductive R (α : Type) where
  | ok (a : α) (S : Sto)
  | exc (c : Str) (fs : List (Str × W)) (env : Env') (S : Sto)
  | bad
noncomputable def R.bind {α β : Type} (r : R α) (f : α → Sto → R β) : R β := R.rec (motive := fun _ => R β) f (fun c fs e S => .exc c fs e S) .bad r
noncomputable def lift {α : Type} (o : Option α) (S : Sto) : R α := Option.rec (motive := fun _ => R α) .bad (fun a => .ok a S) o
noncomputable def guard' (b : Bool) {α : Type} (r : R α) : R α := Bool.rec (motive := fun _ => R α) .bad r b
/-! ### what a value stands for -/
/-- where the classes stand -/
class Gam where
  cls : Str → Option Addr
  /-- where the defs stand, methods under mName -/
  fn : Str → Addr
variable [Gam]
mutual
inductive Rep (K : PySem.W.Frag) (B : Hp) (ρ : List Addr) : V → W → Prop
  | non : Rep K B ρ .non .non
  | bl (b : Bool) : Rep K B ρ (.bl b) (.bl b)
  | int (i : Int) : Rep K B ρ (.int i) (.int i)
  | str (s : Str) : Rep K B ρ (.str s) (.str s)
  | tup {a : Addr} {xs : List V} {ws : List W} : SqT K B a xs → RepL K B ρ xs ws → Rep K B ρ (.ref a) (.tup ws)
  | lst {a : Addr} {xs : List V} {ws : List W} : B a = some (.lst xs) → RepL K B ρ xs ws → Rep K B ρ (.ref a) (.lst ws)
  | frl {a : Addr} {xs : List V} {ws : List W} : SqL K B a xs → RepL K B ρ xs ws → ws.all flatW = true → Rep K B ρ (.ref a) (.frl ws)
  | ref {n : Nat} {a : Addr} : ρ[n]? = some a → Rep K B ρ (.ref a) (.ref n)
  | obj {a C dx : Addr} {c : Str} {fv : List (Str × V)} {fs : List (Str × W)} : Gam.cls c = some C → B a = some (.ins C dx fv) → fv.map Prod.fst = fs.map Prod.fst → RepL K B ρ (fv.map Prod.snd) (fs.map Prod.snd) → Rep K B ρ (.ref a) (.obj c fs)
  | dct {a : Addr} {kv : List (Key × V)} {ks : List (Key × W)} : L2.Rd B a (.dK kv) → kv.map Prod.fst = ks.map Prod.fst → RepL K B ρ (kv.map Prod.snd) (ks.map Prod.snd) → Rep K B ρ (.ref a) (.dct ks)
inductive RepL (K : PySem.W.Frag) (B : Hp) (ρ : List Addr) : List V → List W → Prop
  | nil : RepL K B ρ [] []
  | cons {v : V} {vs : List V} {w : W} {ws : List W} : Rep K B ρ v w → RepL K B ρ vs ws → RepL K B ρ (v :: vs) (w :: ws)
end

theorem Same.rd {H H' : Hp} {a : Addr} {u : HO} (e : Same H H') (h : L2.Rd H a u) : L2.Rd H' a u := by
  rcases h with h | ⟨o, h⟩
  · exact .inl (e _ _ h)
  · exact .inr ⟨o, e _ _ h⟩
theorem Same.tup {K : PySem.W.Frag} {H H' : Hp} {a : Addr} {xs : List V} (e : Same H H') (h : SqT K H a xs) : SqT K H' a xs := by
  rcases h with (h | ⟨o, h⟩) | h
  · exact .inl (.inl (e _ _ h))
  · exact .inl (.inr ⟨o, e _ _ h⟩)
  · exact .inr h

section
variable {K : PySem.W.Frag} {B B' : Hp} {ρ ρ' : List Addr}
theorem pre_get {ρ ρ' : List Addr} (p : ∃ m, ρ' = ρ ++ m) {n : Nat} {a : Addr} (h : ρ[n]? = some a) : ρ'[n]? = some a := by
  obtain ⟨m, rfl⟩ := p
  have hl : n < ρ.length := (List.getElem?_eq_some_iff.mp h).1
  rw [List.getElem?_append_left hl]
  exact h
mutual
theorem Rep.mono (s : Same B B') (p : ∃ m, ρ' = ρ ++ m) : ∀ {v : V} {w : W}, Rep K B ρ v w → Rep K B' ρ' v w
  | _, _, .non => .non
  | _, _, .bl b => .bl b
  | _, _, .int i => .int i
  | _, _, .str x => .str x
  | _, _, .tup h r => .tup (Same.tup s h) (RepL.mono s p r)
  | _, _, .lst h r => .lst (s _ _ h) (RepL.mono s p r)
  | _, _, .frl h r f => .frl (s.seq h) (RepL.mono s p r) f
  | _, _, .ref h => .ref (pre_get p h)
  | _, _, .obj hc h e r => .obj hc (s _ _ h) e (RepL.mono s p r)
  | _, _, .dct h e r => .dct (Same.rd s h) e (RepL.mono s p r)
theorem RepL.mono (s : Same B B') (p : ∃ m, ρ' = ρ ++ m) : ∀ {vs : List V} {ws : List W}, RepL K B ρ vs ws → RepL K B' ρ' vs ws
  | _, _, .nil => .nil
  | _, _, .cons h r => .cons (Rep.mono s p h) (RepL.mono s p r)
end
theorem RepL.length : ∀ {vs : List V} {ws : List W}, RepL K B ρ vs ws → vs.length = ws.length
  | _, _, .nil => rfl
  | _, _, .cons _ r => congrArg Nat.succ (RepL.length r)
theorem RepL.get : ∀ {vs : List V} {ws : List W} {i : Nat} {w : W}, RepL K B ρ vs ws → ws[i]? = some w → ∃ v, vs[i]? = some v ∧ Rep K B ρ v w
  | _, _, _, _, .nil, h => by simp at h
  | _, _, 0, _, .cons h r, e => by
    simp at e; subst e; exact ⟨_, rfl, h⟩
  | _, _, i + 1, _, .cons h r, e => by
    obtain ⟨v, e1, e2⟩ := RepL.get (i := i) r (by simpa using e)
    exact ⟨v, by simpa using e1, e2⟩
theorem RepL.get' : ∀ {vs : List V} {ws : List W} {i : Nat} {v : V}, RepL K B ρ vs ws → vs[i]? = some v → ∃ w, ws[i]? = some w ∧ Rep K B ρ v w
  | _, _, _, _, .nil, h => by simp at h
  | _, _, 0, _, .cons h r, e => by
    simp at e; subst e; exact ⟨_, rfl, h⟩
  | _, _, i + 1, _, .cons h r, e => by
    obtain ⟨v, e1, e2⟩ := RepL.get' (i := i) r (by simpa using e)
    exact ⟨v, by simpa using e1, e2⟩
theorem RepL.append : ∀ {vs us : List V} {ws xs : List W}, RepL K B ρ vs ws → RepL K B ρ us xs → RepL K B ρ (vs ++ us) (ws ++ xs)
  | _, _, _, _, .nil, s => s
  | _, _, _, _, .cons h r, s => .cons h (RepL.append r s)
theorem RepL.drop : ∀ {vs : List V} {ws : List W} (n : Nat), RepL K B ρ vs ws → RepL K B ρ (vs.drop n) (ws.drop n)
  | _, _, 0, r => r
  | _, _, _ + 1, .nil => .nil
  | _, _, n + 1, .cons _ t => RepL.drop n t
theorem RepL.take : ∀ {vs : List V} {ws : List W} (n : Nat), RepL K B ρ vs ws → RepL K B ρ (vs.take n) (ws.take n)
  | _, _, 0, _ => .nil
  | _, _, _ + 1, .nil => .nil
  | _, _, n + 1, .cons h t => .cons h (RepL.take n t)
theorem RepL.set {v : V} {w : W} (h : Rep K B ρ v w) : ∀ {vs : List V} {ws : List W} (i : Nat), RepL K B ρ vs ws → RepL K B ρ (vs.set i v) (ws.set i w)
  | _, _, _, .nil => .nil
  | _, _, 0, .cons _ t => .cons h t
  | _, _, i + 1, .cons q t => .cons q (RepL.set h i t)
end

/-- what a cell stands for -/
inductive RepO (K : PySem.W.Frag) (B : Hp) (ρ : List Addr) : HO → SO → Prop
  | lst {xs : List V} {ws : List W} : RepL K B ρ xs ws → RepO K B ρ (.lst xs) (.lst ws)
  | ins {C dx : Addr} {c : Str} {fv : List (Str × V)} {fs : List (Str × W)} : Gam.cls c = some C → fv.map Prod.fst = fs.map Prod.fst → RepL K B ρ (fv.map Prod.snd) (fs.map Prod.snd) → RepO K B ρ (.ins C dx fv) (.ins c fs)
  | dct {kv : List (Key × V)} {ks : List (Key × W)} : kv.map Prod.fst = ks.map Prod.fst → RepL K B ρ (kv.map Prod.snd) (ks.map Prod.snd) → RepO K B ρ (.dK kv) (.dct ks)
theorem RepO.mono {K : PySem.W.Frag} {B B' : Hp} {ρ ρ' : List Addr} (s : Same B B') (p : ∃ m, ρ' = ρ ++ m) {u : HO} {o : SO} (h : RepO K B ρ u o) : RepO K B' ρ' u o := by
  cases h with
  | lst r => exact .lst (RepL.mono s p r)
  | ins hc e r => exact .ins hc e (RepL.mono s p r)
  | dct e r => exact .dct e (RepL.mono s p r)

def isImd : SO → Bool
  | .imd _ => true
  | _ => false
/-- how a cell stands: it may change, or (imd) it does not any more -/
def Cel (K : PySem.W.Frag) (B : Hp) (ρ : List Addr) (H : Hp) (a : Addr) : SO → Prop
  | .imd ks => ∃ kv : List (Key × V), L2.Rd B a (.dK kv) ∧ kv.map Prod.fst = ks.map Prod.fst ∧ RepL K B ρ (kv.map Prod.snd) (ks.map Prod.snd)
  | .lst ws => B a = none ∧ ∃ u, H a = some u ∧ RepO K B ρ u (.lst ws)
  | .ins c fs => B a = none ∧ ∃ u, H a = some u ∧ RepO K B ρ u (.ins c fs)
  | .dct ks => B a = none ∧ ∃ u, H a = some u ∧ RepO K B ρ u (.dct ks)
theorem Cel.mk {K : PySem.W.Frag} {B : Hp} {ρ : List Addr} {H : Hp} {a : Addr} {u : HO} {o : SO} (hb : B a = none) (hu : H a = some u) (r : RepO K B ρ u o) : Cel K B ρ H a o := by
  cases o with
  | imd ks => cases r
  | lst ws => exact ⟨hb, u, hu, r⟩
  | ins c fs => exact ⟨hb, u, hu, r⟩
  | dct ks => exact ⟨hb, u, hu, r⟩
theorem Cel.live {K : PySem.W.Frag} {B : Hp} {ρ : List Addr} {H : Hp} {a : Addr} {o : SO} (c : Cel K B ρ H a o) (h : isImd o = false) : B a = none ∧ ∃ u, H a = some u ∧ RepO K B ρ u o := by
  cases o with
  | imd ks => cases h
  | lst ws => exact c
  | ins _ fs => exact c
  | dct ks => exact c
theorem Cel.mono {K : PySem.W.Frag} {B B' : Hp} {ρ ρ' : List Addr} {H H' : Hp} {a : Addr} {o : SO} (s : Same B B') (p : ∃ m, ρ' = ρ ++ m) (hb : B a = none → B' a = none) (hh : ∀ u, H a = some u → H' a = some u) (c : Cel K B ρ H a o) : Cel K B' ρ' H' a o := by
  cases q : isImd o with
  | false =>
    obtain ⟨h1, u, h2, h3⟩ := c.live q
    exact Cel.mk (hb h1) (hh u h2) (h3.mono s p)
  | true =>
    cases o with
    | imd ks =>
      obtain ⟨kv, h1, h2, h3⟩ := c
      exact ⟨kv, Same.rd s h1, h2, RepL.mono s p h3⟩
    | _ => cases q
theorem Cel.held {K : PySem.W.Frag} {B : Hp} {ρ : List Addr} {H : Hp} {a : Addr} {o : SO} (sm : Same B H) (c : Cel K B ρ H a o) : ∃ u, H a = some u := by
  cases q : isImd o with
  | false =>
    obtain ⟨h1, u, h2, h3⟩ := c.live q
    exact ⟨u, h2⟩
  | true =>
    cases o with
    | imd ks =>
      obtain ⟨kv, h1, h2, h3⟩ := c
      rcases Same.rd sm h1 with h | ⟨o, h⟩
      · exact ⟨_, h⟩
      · exact ⟨_, h⟩
    | _ => cases q
/-- the state: B what never changes, ρ the cells' addresses -/
structure SR (K : PySem.W.Frag) (ρ : List Addr) (S : Sto) (B H : Hp) : Prop where
  same : Same B H
  len : ρ.length = S.length
  nd : ρ.Nodup
  cell : ∀ (i : Nat) (a : Addr) (o : SO), ρ[i]? = some a → S[i]? = some o → Cel K B ρ H a o
/-- from one state to a later one -/
structure Ext (ρ : List Addr) (B H : Hp) (ρ' : List Addr) (B' H' : Hp) : Prop where
  b : Same B B'
  p : ∃ m, ρ' = ρ ++ m ∧ ∀ a ∈ m, H a = none
  frame : ∀ a o, H a = some o → a ∉ ρ → H' a = some o
  there : ∀ a o, H a = some o → ∃ o', H' a = some o'
  new : ∀ a o, H a = some o → a ∉ ρ → B a = none → B' a = none
section
variable {K : PySem.W.Frag} {ρ ρ1 ρ2 : List Addr} {S : Sto} {B B1 B2 H H1 H2 : Hp}
theorem Ext.pre (e : Ext ρ B H ρ1 B1 H1) : ∃ m, ρ1 = ρ ++ m := by
  obtain ⟨m, h, _⟩ := e.p
  exact ⟨m, h⟩
theorem Ext.refl : Ext ρ B H ρ B H := ⟨Same.refl B, ⟨[], by simp, fun a h => by simp at h⟩, fun _ _ h _ => h, fun _ o h => ⟨o, h⟩, fun _ _ _ _ h => h⟩
theorem Ext.trans (a : Ext ρ B H ρ1 B1 H1) (b : Ext ρ1 B1 H1 ρ2 B2 H2) : Ext ρ B H ρ2 B2 H2 := by
  obtain ⟨m1, e1, n1⟩ := a.p
  obtain ⟨m2, e2, n2⟩ := b.p
  refine ⟨a.b.trans b.b, ⟨m1 ++ m2, by rw [e2, e1, List.append_assoc], fun c hc => ?_⟩, fun c o h hn => ?_, fun c o h => ?_, fun c o h hr hn => ?_⟩
  · rcases List.mem_append.mp hc with hc | hc
    · exact n1 c hc
    · cases q : H c with
      | none => rfl
      | some o =>
        obtain ⟨o', z⟩ := a.there c o q
        rw [n2 c hc] at z
        cases z
  · refine b.frame c o (a.frame c o h hn) fun hm => ?_
    rw [e1] at hm
    rcases List.mem_append.mp hm with hm | hm
    · exact hn hm
    · rw [n1 c hm] at h
      cases h
  · obtain ⟨o', z⟩ := a.there c o h
    exact b.there c o' z
  · obtain ⟨o', z⟩ := a.there c o h
    refine b.new c o' z (fun hm => ?_) (a.new c o h hr hn)
    rw [e1] at hm
    rcases List.mem_append.mp hm with hm | hm
    · exact hr hm
    · rw [n1 c hm] at h
      cases h
/-- a new object that never changes -/
theorem Ext.fresh {a : Addr} {o : HO} (s : Same B H) (h : H a = none) : Ext ρ B H ρ (upd B a o) (upd H a o) := by
  have hb : B a = none := s.free h
  refine ⟨fun c u q => ?_, ⟨[], by simp, fun a h => by simp at h⟩, fun c u q _ => ?_, fun c u q => ⟨u, ?_⟩, fun c u q _ n => ?_⟩
  · rw [upd_ne (ne_of_none q hb)]
    exact q
  · rw [upd_ne (ne_of_none q h)]
    exact q
  · rw [upd_ne (ne_of_none q h)]
    exact q
  · rw [upd_ne (ne_of_none q h)]
    exact n
theorem SR.fresh {a : Addr} {o : HO} (s : SR K ρ S B H) (h : H a = none) : SR K ρ S (upd B a o) (upd H a o) := by
  have hb : B a = none := s.same.free h
  have sm : Same B (upd B a o) := fun c u q => by
    rw [upd_ne (ne_of_none q hb)]
    exact q
  refine ⟨fun c u q => ?_, s.len, s.nd, fun i c so e1 e2 => ?_⟩
  · by_cases hc : c = a
    · subst hc
      rw [upd_same] at q ⊢
      exact q
    · rw [upd_ne hc] at q ⊢
      exact s.same c u q
  · obtain ⟨u, hu⟩ := (s.cell i c so e1 e2).held s.same
    have hc : c ≠ a := ne_of_none hu h
    exact (s.cell i c so e1 e2).mono sm ⟨[], by simp⟩ (fun n => by rw [upd_ne hc]; exact n) (fun u hu => by rw [upd_ne hc]; exact hu)
/-- garbage: a new object that is not held -/
theorem Ext.junk {a : Addr} {o : HO} (h : H a = none) : Ext ρ B H ρ B (upd H a o) := by
  refine ⟨Same.refl B, ⟨[], by simp, fun a h => by simp at h⟩, fun c u q _ => ?_, fun c u q => ⟨u, ?_⟩, fun c u q _ n => n⟩
  · rw [upd_ne (ne_of_none q h)]
    exact q
  · rw [upd_ne (ne_of_none q h)]
    exact q
theorem SR.junk {a : Addr} {o : HO} (s : SR K ρ S B H) (h : H a = none) : SR K ρ S B (upd H a o) := by
  have hb : B a = none := s.same.free h
  refine ⟨fun c u q => ?_, s.len, s.nd, fun i c so e1 e2 => ?_⟩
  · rw [upd_ne (ne_of_none q hb)]
    exact s.same c u q
  · obtain ⟨u, hu⟩ := (s.cell i c so e1 e2).held s.same
    exact (s.cell i c so e1 e2).mono (Same.refl B) ⟨[], by simp⟩ (fun n => n) (fun u hu => by rw [upd_ne (ne_of_none hu h)]; exact hu)
/-- a new cell -/
theorem Ext.cell {a : Addr} {o : HO} (h : H a = none) : Ext ρ B H (ρ ++ [a]) B (upd H a o) := by
  refine ⟨Same.refl B, ⟨[a], rfl, fun c hc => ?_⟩, fun c u q _ => ?_, fun c u q => ⟨u, ?_⟩, fun c u q _ n => n⟩
  · rw [List.mem_singleton.mp hc]
    exact h
  · rw [upd_ne (ne_of_none q h)]
    exact q
  · rw [upd_ne (ne_of_none q h)]
    exact q
theorem SR.newCell {a : Addr} {o : HO} {so : SO} (s : SR K ρ S B H) (h : H a = none) (r : RepO K B ρ o so) : SR K (ρ ++ [a]) (S ++ [so]) B (upd H a o) := by
  have hb : B a = none := s.same.free h
  have hin : a ∉ ρ := fun hm => by
    obtain ⟨i, hi⟩ := List.getElem?_of_mem hm
    have hl : i < S.length := by rw [← s.len]; exact (List.getElem?_eq_some_iff.mp hi).1
    obtain ⟨u, hu⟩ := (s.cell i a S[i] hi (by simp [hl])).held s.same
    rw [h] at hu
    cases hu
  refine ⟨fun c u q => ?_, by simp [s.len], ?_, fun i c so' e1 e2 => ?_⟩
  · rw [upd_ne (ne_of_none q hb)]
    exact s.same c u q
  · rw [List.nodup_append]
    refine ⟨s.nd, by simp, fun x hx y hy e => ?_⟩
    rw [List.mem_singleton.mp hy] at e
    rw [e] at hx
    exact hin hx
  · by_cases hi : i < ρ.length
    · rw [List.getElem?_append_left hi] at e1
      rw [List.getElem?_append_left (by rw [← s.len]; exact hi)] at e2
      obtain ⟨u, hu⟩ := (s.cell i c so' e1 e2).held s.same
      exact (s.cell i c so' e1 e2).mono (Same.refl B) ⟨[a], rfl⟩ (fun n => n) (fun u hu => by rw [upd_ne (ne_of_none hu h)]; exact hu)
    · have hl : i = ρ.length := by
        have z := (List.getElem?_eq_some_iff.mp e1).1
        simp at z
        omega
      subst hl
      simp at e1
      rw [s.len] at e2
      simp at e2
      subst e1
      subst e2
      exact Cel.mk hb upd_same (r.mono (Same.refl B) ⟨[a], rfl⟩)
/-- a cell changed -/
theorem SR.setCell {a : Addr} {i : Nat} {o : HO} {so so0 : SO} (s : SR K ρ S B H) (e : ρ[i]? = some a) (e0 : S[i]? = some so0) (r : RepO K B ρ o so) (ni : isImd so0 = false := by rfl) : SR K ρ (S.set i so) B (upd H a o) := by
  have hi : i < ρ.length := (List.getElem?_eq_some_iff.mp e).1
  have hs : i < S.length := by rw [← s.len]; exact hi
  obtain ⟨hb, u, hu, _⟩ := (s.cell i a so0 e e0).live ni
  refine ⟨fun c v q => ?_, by simp [s.len], s.nd, fun j c so' e1 e2 => ?_⟩
  · rw [upd_ne (ne_of_none q hb)]
    exact s.same c v q
  · by_cases hj : i = j
    · subst hj
      rw [e] at e1
      cases e1
      rw [List.getElem?_set_self hs] at e2
      cases e2
      exact Cel.mk hb upd_same r
    · rw [List.getElem?_set_ne hj] at e2
      have hne : c ≠ a := fun z => by
        subst z
        have hj' : j < ρ.length := (List.getElem?_eq_some_iff.mp e1).1
        have e3 : ρ[i] = c := by have := (List.getElem?_eq_some_iff.mp e).2; exact this
        have e4 : ρ[j] = c := by have := (List.getElem?_eq_some_iff.mp e1).2; exact this
        exact hj ((List.getElem_inj s.nd).mp (e3.trans e4.symm))
      exact (s.cell j c so' e1 e2).mono (Same.refl B) ⟨[], by simp⟩ (fun n => n) (fun u hu => by rw [upd_ne hne]; exact hu)
theorem Ext.setCell {a : Addr} {i : Nat} {o : HO} (e : ρ[i]? = some a) : Ext ρ B H ρ B (upd H a o) := by
  have hm : a ∈ ρ := List.mem_of_getElem? e
  refine ⟨Same.refl B, ⟨[], by simp, fun a h => by simp at h⟩, fun c u q hn => ?_, fun c u q => ?_, fun c u q _ n => n⟩
  · rw [upd_ne (fun z => hn (by rw [z]; exact hm))]
    exact q
  · by_cases hc : c = a
    · subst hc
      exact ⟨o, upd_same⟩
    · exact ⟨u, by rw [upd_ne hc]; exact q⟩
theorem SR.at {i : Nat} {a : Addr} {o : SO} (s : SR K ρ S B H) (e : ρ[i]? = some a) (h : S[i]? = some o) (ni : isImd o = false := by rfl) : ∃ u, H a = some u ∧ RepO K B ρ u o := ((s.cell i a o e h).live ni).2
end

/-! ### results that hold what is asked of them -/
section
variable {K : PySem.W.Frag}
def Hold (K : PySem.W.Frag) {α : Type} (r : R α) (ρ : List Addr) (B H : Hp) (ok : α → Sto → List Addr → Hp → Hp → Prop) (ex : Str → List (Str × W) → Env' → List Addr → Hp → Hp → Prop) : Prop := match r with
  | .ok a S => ∀ ρ' B' H', Ext ρ B H ρ' B' H' → SR K ρ' S B' H' → ok a S ρ' B' H'
  | .exc c fs e S => ∀ ρ' B' H', Ext ρ B H ρ' B' H' → SR K ρ' S B' H' → ex c fs e ρ' B' H'
  | .bad => False
variable {α β : Type} {r : R α} {f : α → Sto → R β} {ρ ρ1 : List Addr} {B H B1 H1 : Hp} {ok ok' : α → Sto → List Addr → Hp → Hp → Prop} {okb : β → Sto → List Addr → Hp → Hp → Prop} {ex ex' : Str → List (Str × W) → Env' → List Addr → Hp → Hp → Prop}
theorem Hold.ext (h : Hold K r ρ B H ok ex) (e : Ext ρ B H ρ1 B1 H1) : Hold K r ρ1 B1 H1 ok ex := by
  cases r with
  | ok a S => exact fun ρ' B' H' e' s => h ρ' B' H' (e.trans e') s
  | exc c fs en S => exact fun ρ' B' H' e' s => h ρ' B' H' (e.trans e') s
  | bad => exact h
theorem Hold.imp (h : Hold K r ρ B H ok ex) (f : ∀ a S ρ' B' H', Ext ρ B H ρ' B' H' → SR K ρ' S B' H' → ok a S ρ' B' H' → ok' a S ρ' B' H')
    (g : ∀ c fs e ρ' B' H', ex c fs e ρ' B' H' → ex' c fs e ρ' B' H') : Hold K r ρ B H ok' ex' := by
  cases r with
  | ok a S => exact fun ρ' B' H' e' s => f _ _ _ _ _ e' s (h ρ' B' H' e' s)
  | exc c fs en S => exact fun ρ' B' H' e' s => g _ _ _ _ _ _ (h ρ' B' H' e' s)
  | bad => exact h
theorem Hold.bind (h : Hold K (r.bind f) ρ B H okb ex) : Hold K r ρ B H (fun a S ρ' B' H' => Hold K (f a S) ρ' B' H' okb ex) ex := by
  cases r with
  | ok a S => exact fun ρ' B' H' e' s => Hold.ext (show Hold K (f a S) ρ B H okb ex from h) e'
  | exc c fs en S => exact h
  | bad => exact h
theorem Hold.lift {o : Option α} {S : Sto} (h : Hold K (lift o S) ρ B H ok ex) : ∃ a, o = some a ∧ ∀ ρ' B' H', Ext ρ B H ρ' B' H' → SR K ρ' S B' H' → ok a S ρ' B' H' := by
  cases o with
  | none => exact h.elim
  | some a => exact ⟨a, rfl, h⟩
theorem Hold.grd {b : Bool} (h : Hold K (guard' b r) ρ B H ok ex) : b = true ∧ Hold K r ρ B H ok ex := by
  cases b with
  | false => exact h.elim
  | true => exact ⟨rfl, h⟩
end
end Mi

set_option Elab.async false
set_option linter.all false
set_option maxRecDepth 100000
set_option maxHeartbeats 4000000
/-! Mi2: the evaluator's operations on values. -/
noncomputable section
namespace Mi
open PySem PySem.Spec PyProof.Rows L2

/-! ### flat values -/
def toV : W → Option V
  | .non => some .non
  | .bl b => some (.bl b)
  | .int i => some (.int i)
  | .str s => some (.str s)
  | _ => none
/-- fast sameness of texts -/
def eqN : List Nat → List Nat → Bool
  | [], [] => true
  | a :: as, b :: bs => match Nat.beq a b with
    | true => eqN as bs
    | false => false
  | _, _ => false
theorem eqN_iff : ∀ {a b : List Nat}, eqN a b = true ↔ a = b
  | [], [] => ⟨fun _ => rfl, fun _ => rfl⟩
  | [], _ :: _ => ⟨fun h => (nomatch h), fun h => (nomatch h)⟩
  | _ :: _, [] => ⟨fun h => (nomatch h), fun h => (nomatch h)⟩
  | a :: as, b :: bs => by
    unfold eqN
    split
    · rename_i h
      rw [Nat.eq_of_beq_eq_true h, eqN_iff]
      simp
    · rename_i h
      have := Nat.ne_of_beq_eq_false h
      simp [this]
def eqStr (a b : Str) : Bool := eqN a.cps.toList b.cps.toList
theorem eqStr_iff {a b : Str} : eqStr a b = true ↔ a = b := by
  unfold eqStr
  rw [eqN_iff]
  constructor
  · intro h
    obtain ⟨x⟩ := a
    obtain ⟨y⟩ := b
    congr 1
    exact Array.ext' h
  · intro h
    rw [h]
theorem eqStr_beq (a b : Str) : (a == b) = eqStr a b := by
  cases q : eqStr a b with
  | true => rw [eqStr_iff.mp q]; exact beq_self_eq_true b
  | false => exact beq_eq_false_iff_ne.mpr fun e => by rw [eqStr_iff.mpr e] at q; cases q
theorem eqStr_dec (a b : Str) : decide (a = b) = eqStr a b := by
  cases q : eqStr a b with
  | true => exact decide_eq_true (eqStr_iff.mp q)
  | false => exact decide_eq_false fun e => by rw [eqStr_iff.mpr e] at q; cases q
/-- is a sign in a text? -/
def hasN (c : Nat) : List Nat → Bool
  | [] => false
  | a :: as => match Nat.beq c a with
    | true => true
    | false => hasN c as
theorem hasN_dec (c : Nat) : ∀ l : List Nat, decide (c ∈ l) = hasN c l
  | [] => rfl
  | a :: as => by
    unfold hasN
    split
    · rename_i h
      exact decide_eq_true (by rw [Nat.eq_of_beq_eq_true h]; exact List.mem_cons_self ..)
    · rename_i h
      rw [← hasN_dec c as]
      have := Nat.ne_of_beq_eq_false h
      simp [this]
def eqW : W → W → Bool
  | .non, .non => true
  | .bl a, .bl b => a == b
  | .bl a, .int b => (if a then 1 else 0) == b
  | .int a, .bl b => a == (if b then 1 else 0)
  | .int a, .int b => a == b
  | .str a, .str b => eqStr a b
  | _, _ => false
def inW (x : W) (xs : List W) : Bool := xs.any fun y => eqW y x

section
variable [Gam] {K : PySem.W.Frag} {B H : Hp} {ρ : List Addr}
theorem Rep.flat {v : V} {w : W} (r : Rep K B ρ v w) (h : flatW w = true) : flatV v = true ∧ toV w = some v := by
  cases r with
  | non => exact ⟨rfl, rfl⟩
  | bl b => exact ⟨rfl, rfl⟩
  | int b => exact ⟨rfl, rfl⟩
  | str b => exact ⟨rfl, rfl⟩
  | tup _ _ => cases h
  | lst _ _ => cases h
  | frl _ _ _ => cases h
  | ref _ => cases h
  | obj _ _ _ _ => cases h
  | dct _ _ _ => cases h
theorem eqW_V {v v' : V} {w w' : W} (r : Rep K B ρ v w) (r' : Rep K B ρ v' w') (h : flatW w = true) (h' : flatW w' = true) : eqV v v' = eqW w w' := by
  cases r <;> first | (cases h; done) | (cases r' <;> first | (cases h'; done) | rfl | exact eqStr_beq _ _)
theorem RepL.flat : ∀ {vs : List V} {ws : List W}, RepL K B ρ vs ws → ws.all flatW = true → vs.all flatV = true
  | _, _, .nil, _ => rfl
  | _, _, .cons r t, h => by
    rw [List.all_cons, Bool.and_eq_true] at h ⊢
    exact ⟨(r.flat h.1).1, RepL.flat t h.2⟩
theorem RepL.flatAny {B' : Hp} {ρ' : List Addr} : ∀ {vs : List V} {ws : List W}, RepL K B ρ vs ws → ws.all flatW = true → RepL K B' ρ' vs ws
  | _, _, .nil, _ => .nil
  | _, _, .cons r t, h => by
    rw [List.all_cons, Bool.and_eq_true] at h
    refine .cons ?_ (RepL.flatAny t h.2)
    have q := h.1
    cases r <;> first | (cases q; done) | constructor
theorem inW_V {v : V} {w : W} (r : Rep K B ρ v w) (h : flatW w = true) : ∀ {vs : List V} {ws : List W}, RepL K B ρ vs ws → ws.all flatW = true → inV v vs = inW w ws
  | _, _, .nil, _ => rfl
  | _, _, .cons q t, hs => by
    rw [List.all_cons, Bool.and_eq_true] at hs
    have ih := inW_V r h t hs.2
    unfold inV inW at ih ⊢
    rw [List.any_cons, List.any_cons, ih, eqW_V q r hs.1 h]
end

/-! ### data -/
mutual
def toD : W → Option PyData
  | .non => some .none
  | .bl b => some (.bool b)
  | .int i => some (.int i)
  | .str s => some (.str s)
  | .tup xs => (toDs xs).map PyData.tuple
  | .lst xs => (toDs xs).map PyData.list
  | .frl xs => (toDs xs).map PyData.list
  | .ref _ => none
  | .obj _ _ => none
  | .dct _ => none
def toDs : List W → Option (List PyData)
  | [] => some []
  | x :: r => match toD x, toDs r with
    | some d, some ds => some (d :: ds)
    | _, _ => none
end
section
variable [Gam] {K : PySem.W.Frag} {B H : Hp} {ρ : List Addr}
mutual
theorem Rep.dp (s : Same B H) : ∀ {v : V} {w : W} {d : PyData}, Rep K B ρ v w → toD w = some d → Dp K H v d
  | _, _, _, .non, e => by cases e; exact .non
  | _, _, _, .bl b, e => by cases e; exact .bl b
  | _, _, _, .int b, e => by cases e; exact .int b
  | _, _, _, .str b, e => by cases e; exact .str b
  | _, .tup ws, d, .tup h r, e => by
    rw [toD] at e
    cases q : toDs ws with
    | none => rw [q] at e; cases e
    | some ds =>
      rw [q] at e
      cases e
      exact .tup (Same.tup s h) (RepL.dp s r q)
  | _, .lst ws, d, .lst h r, e => by
    rw [toD] at e
    cases q : toDs ws with
    | none => rw [q] at e; cases e
    | some ds =>
      rw [q] at e
      cases e
      exact .lst (SqL.of (s _ _ h)) (RepL.dp s r q)
  | _, .frl ws, d, .frl h r _, e => by
    rw [toD] at e
    cases q : toDs ws with
    | none => rw [q] at e; cases e
    | some ds =>
      rw [q] at e
      cases e
      exact .lst (s.seq h) (RepL.dp s r q)
  | _, .ref n, d, .ref h, e => by rw [toD] at e; cases e
  | _, .obj _ _, d, .obj _ _ _ _, e => by rw [toD] at e; cases e
  | _, .dct _, d, .dct _ _ _, e => by rw [toD] at e; cases e
theorem RepL.dp (s : Same B H) : ∀ {vs : List V} {ws : List W} {ds : List PyData}, RepL K B ρ vs ws → toDs ws = some ds → DpAll K H vs ds
  | _, [], _, .nil, e => by
    rw [toDs] at e
    cases e
    exact .nil
  | _, w :: ws, ds, .cons h r, e => by
    rw [toDs] at e
    cases q1 : toD w with
    | none => rw [q1] at e; cases e
    | some d =>
      cases q2 : toDs ws with
      | none => rw [q1, q2] at e; cases e
      | some ds' =>
        rw [q1, q2] at e
        cases e
        exact .cons (Rep.dp s h q1) (RepL.dp s r q2)
end
end

/-! ### reading cells -/
def rd (S : Sto) : W → W
  | .ref n => match S[n]? with
    | some (.lst ws) => .lst ws
    | _ => .ref n
  | w => w
/-- the items of a list -/
def seqL (S : Sto) : W → Option (List W)
  | .lst ws => some ws
  | .frl ws => some ws
  | .ref n => match S[n]? with
    | some (.lst ws) => some ws
    | _ => none
  | _ => none
def seqT : W → Option (List W)
  | .tup ws => some ws
  | _ => none
section
variable [Gam] {K : PySem.W.Frag} {B H : Hp} {ρ : List Addr} {S : Sto}
theorem seqL_ok (s : SR K ρ S B H) {v : V} {w : W} {ws : List W} (r : Rep K B ρ v w) (e : seqL S w = some ws) : ∃ a xs, v = .ref a ∧ SqL K H a xs ∧ RepL K B ρ xs ws := by
  cases r with
  | lst h q => cases e; exact ⟨_, _, rfl, SqL.of (s.same _ _ h), q⟩
  | frl h q _ => cases e; exact ⟨_, _, rfl, s.same.seq h, q⟩
  | @ref n a h =>
    unfold seqL at e
    cases q : S[n]? with
    | none => simp only [q] at e; cases e
    | some o =>
      simp only [q] at e
      cases o with
      | lst zs =>
        cases e
        obtain ⟨u, hu, ro⟩ := s.at h q
        cases ro with
        | lst rr => exact ⟨_, _, rfl, SqL.of hu, rr⟩
      | _ => cases e
  | _ => cases e
theorem seqT_ok (s : SR K ρ S B H) {v : V} {w : W} {ws : List W} (r : Rep K B ρ v w) (e : seqT w = some ws) : ∃ a xs, v = .ref a ∧ SqT K H a xs ∧ RepL K B ρ xs ws := by
  cases r with
  | tup h q => cases e; exact ⟨_, _, rfl, Same.tup s.same h, q⟩
  | _ => cases e
/-- the data of a value, a cell's too -/
def datS (S : Sto) : W → Option PyData
  | .ref n => match S[n]? with
    | some (.lst ws) => (toDs ws).map PyData.list
    | _ => none
  | w => toD w
theorem datS_ok (s : SR K ρ S B H) {v : V} {w : W} {d : PyData} (r : Rep K B ρ v w) (e : datS S w = some d) : Dp K H v d := by
  cases r with
  | @ref n a h =>
    unfold datS at e
    cases q : S[n]? with
    | none => simp only [q] at e; cases e
    | some o =>
      simp only [q] at e
      cases o with
      | lst zs =>
        cases q2 : toDs zs with
        | none => simp only [q2] at e; cases e
        | some ds =>
          simp only [q2] at e
          cases e
          obtain ⟨u, hu, ro⟩ := s.at h q
          cases ro with
          | lst rr => exact .lst (SqL.of hu) (RepL.dp s.same rr q2)
      | _ => simp only [q] at e; cases e
  | non => exact Rep.dp (ρ := ρ) s.same (.non) e
  | bl b => exact Rep.dp (ρ := ρ) s.same (.bl b) e
  | int b => exact Rep.dp (ρ := ρ) s.same (.int b) e
  | str b => exact Rep.dp (ρ := ρ) s.same (.str b) e
  | tup h q => exact Rep.dp s.same (.tup h q) e
  | lst h q => exact Rep.dp s.same (.lst h q) e
  | frl h q f => exact Rep.dp s.same (.frl h q f) e
  | obj _ _ _ _ => exact nomatch e
  | dct _ _ _ => exact nomatch e
end

/-! ### dicts -/
def seqD (S : Sto) : W → Option (List (Key × W))
  | .dct ks => some ks
  | .ref n => match S[n]? with
    | some (.dct ks) => some ks
    | some (.imd ks) => some ks
    | _ => none
  | _ => none
def keyW : W → Option Key
  | .int i => some (.inl i)
  | .str s => some (.inr s)
  | _ => none
def findK {β : Type} (ks : List (Key × β)) (k : Key) : Option β := (ks.find? fun kv => decide (kv.1 = k)).map (·.2)
def storeK {β : Type} (ks : List (Key × β)) (k : Key) (v : β) : List (Key × β) := if (ks.any fun kv => decide (kv.1 = k)) = true then ks.map (fun kv => if kv.1 = k then (kv.1, v) else kv) else ks ++ [(k, v)]
section
variable [Gam] {K : PySem.W.Frag} {B H : Hp} {ρ : List Addr} {S : Sto}
theorem seqD_ok (s : SR K ρ S B H) {v : V} {w : W} {ks : List (Key × W)} (r : Rep K B ρ v w) (e : seqD S w = some ks) : ∃ a kv, v = .ref a ∧ L2.Rd H a (.dK kv) ∧ kv.map Prod.fst = ks.map Prod.fst ∧ RepL K B ρ (kv.map Prod.snd) (ks.map Prod.snd) := by
  cases r with
  | dct h e0 rr => cases e; exact ⟨_, _, rfl, Same.rd s.same h, e0, rr⟩
  | @ref n a h =>
    unfold seqD at e
    cases q : S[n]? with
    | none => simp only [q] at e; cases e
    | some o =>
      simp only [q] at e
      cases o with
      | dct ks' =>
        cases e
        obtain ⟨u, hu, ro⟩ := s.at h q
        cases ro with
        | dct e0 rr => exact ⟨_, _, rfl, .inl hu, e0, rr⟩
      | imd ks' =>
        cases e
        obtain ⟨kv, h1, e0, rr⟩ := s.cell n a _ h q
        exact ⟨a, kv, rfl, Same.rd s.same h1, e0, rr⟩
      | _ => cases e
  | _ => cases e
theorem keyW_ok {v : V} {w : W} {k : Key} (r : Rep K B ρ v w) (e : keyW w = some k) : v = kV k := by
  cases r with
  | int i => cases e; rfl
  | str i => cases e; rfl
  | _ => cases e
theorem find_ok {k : Key} : ∀ {kv : List (Key × V)} {ks : List (Key × W)}, kv.map Prod.fst = ks.map Prod.fst → RepL K B ρ (kv.map Prod.snd) (ks.map Prod.snd) →
    (∀ w, findK ks k = some w → ∃ v, valV kv k = some v ∧ Rep K B ρ v w) ∧ (valV kv k).isSome = (findK ks k).isSome
  | [], [], _, _ => ⟨fun w h => by (cases h), rfl⟩
  | [], _ :: _, e, _ => by cases e
  | _ :: _, [], e, _ => by cases e
  | (x, v) :: kv, (y, w) :: ks, e, r => by
    injection e with e1 e2
    have e1 : x = y := e1
    subst e1
    cases r with
    | cons r1 r2 =>
      obtain ⟨h1, h2⟩ := find_ok (k := k) e2 r2
      unfold findK valV at h1 h2 ⊢
      rw [List.find?_cons, List.find?_cons]
      by_cases h : x = k
      · simp only [h, decide_true]
        exact ⟨fun w' hw => by cases hw; exact ⟨v, rfl, r1⟩, rfl⟩
      · simp only [h, decide_false]
        exact ⟨h1, h2⟩
end

/-! ### the operations, semantically -/
def opW (X : Cx) (f : Value → Value → Sem Value) : R2 := fun x y H Q => ∀ pins s σ v u, Inv X pins σ H s → RelV x v → RelV y u → wpAny (model X.prog X.w) X.A (f v u) (EP X pins σ Q) X.xe s
theorem opW_r {X : Cx} {f : Value → Value → Sem Value} : OpR X f (opW X f) := fun pins s σ H x y v u Q I rx ry h => h pins s σ v u I rx ry
theorem opW_of {X : Cx} {f : Value → Value → Sem Value} {r : R2} (h : OpR X f r) {x y : V} {H : Hp} {Q : VK} (q : r x y H Q) : opW X f x y H Q := fun pins s σ v u I rx ry => h pins s σ H x y v u Q I rx ry q
def unW (X : Cx) (f : Value → Sem Value) : V → Hp → VK → Prop := fun x H Q => ∀ pins s σ v, Inv X pins σ H s → RelV x v → wpAny (model X.prog X.w) X.A (f v) (EP X pins σ Q) X.xe s
theorem unW_r {X : Cx} {f : Value → Sem Value} : UnR X f (unW X f) := fun pins s σ H x v Q I rx h => h pins s σ v I rx
theorem unW_of {X : Cx} {f : Value → Sem Value} {r : V → Hp → VK → Prop} (h : UnR X f r) {x : V} {H : Hp} {Q : VK} (q : r x H Q) : unW X f x H Q := fun pins s σ v I rx => h pins s σ H x v Q I rx q
def callW (X : Cx) (f : Value) : List V → Hp → VK → Prop := fun xs H Q => ∀ pins s σ us, Inv X pins σ H s → Vals xs us → wpAny (model X.prog X.w) X.A (call f us) (EP X pins σ Q) X.xe s
theorem callW_r {X : Cx} {f : Value} : CallR X f (callW X f) := fun pins s σ H xs us Q I r h => h pins s σ us I r
theorem callW_of {X : Cx} {f : Value} {r : List V → Hp → VK → Prop} (h : CallR X f r) {xs : List V} {H : Hp} {Q : VK} (q : r xs H Q) : callW X f xs H Q := fun pins s σ us I rx => h pins s σ H xs us Q I rx q
def ixW (X : Cx) : R2 := fun x y H Q => ∀ value slice pins s σ v u, Inv X pins σ H s → RelV x v → RelV y u → subscripted slice false v u = operate [v, u] (getItem v u) → wpAny (model X.prog X.w) X.A (subscriptTail value slice v u) (EP X pins σ Q) X.xe s
theorem ixW_r {X : Cx} : IxR X (ixW X) := fun value slice pins s σ H x y v u Q I rx ry h hs => h value slice pins s σ v u I rx ry hs
theorem ixW_of {X : Cx} {r : R2} (h : IxR X r) {x y : V} {H : Hp} {Q : VK} (q : r x y H Q) : ixW X x y H Q := fun value slice pins s σ v u I rx ry hs => h value slice pins s σ H x y v u Q I rx ry q hs

/-- what is asked of a value that comes back -/
def Val [Gam] (K : PySem.W.Frag) (w : W) (S : Sto) (Q : VK) (ρ : List Addr) (B H : Hp) : Prop := ∀ ρ' B' H' v, Ext ρ B H ρ' B' H' → SR K ρ' S B' H' → Rep K B' ρ' v w → Q v H'
section
variable [Gam] {K : PySem.W.Frag} {B H : Hp} {ρ : List Addr} {S : Sto} {Q : VK}
theorem Val.here {v : V} {w : W} (k : Val K w S Q ρ B H) (s : SR K ρ S B H) (r : Rep K B ρ v w) : Q v H := k _ _ _ _ Ext.refl s r
theorem Val.newL {ws : List W} {xs : List V} {p : Addr} (k : Val K (.lst ws) S Q ρ B H) (s : SR K ρ S B H) (r : RepL K B ρ xs ws) (h : H p = none) : Q (.ref p) (upd H p (.lst xs)) :=
  k _ _ _ _ (Ext.fresh s.same h) (s.fresh h) (.lst upd_same (r.mono (fun c u q => by rw [upd_ne (ne_of_none q (s.same.free h))]; exact q) ⟨[], by simp⟩))
theorem Val.newT {ws : List W} {xs : List V} {p : Addr} (k : Val K (.tup ws) S Q ρ B H) (s : SR K ρ S B H) (r : RepL K B ρ xs ws) (h : H p = none) : Q (.ref p) (upd H p (.tup xs)) :=
  k _ _ _ _ (Ext.fresh s.same h) (s.fresh h) (.tup (SqT.of upd_same) (r.mono (fun c u q => by rw [upd_ne (ne_of_none q (s.same.free h))]; exact q) ⟨[], by simp⟩))
end

/-! ### binary operators -/
def small (n : Nat) : Bool := decide (n ≤ 100000)
theorem small_line {n : Nat} (h : small n = true) : n ≤ sizeLine := Nat.le_trans (of_decide_eq_true h) (by decide)
theorem small_lt {n : Nat} (h : small (n + 1) = true) : n < sizeLine := Nat.lt_of_lt_of_le (Nat.lt_of_succ_le (of_decide_eq_true h)) (by decide)
/-- a list of one's own: a cell's, or one that is never changed -/
def lstE (S : Sto) : W → Option (List W)
  | .lst ws => some ws
  | .ref n => (match S[n]? with
    | some (.lst ws) => some ws
    | _ => none)
  | _ => none
theorem lstE_ok [Gam] {K : PySem.W.Frag} {ρ : List Addr} {S : Sto} {B H : Hp} {v : V} {w : W} {ws : List W} (s : SR K ρ S B H) (r : Rep K B ρ v w) (e : lstE S w = some ws) : ∃ a xs, v = .ref a ∧ H a = some (.lst xs) ∧ RepL K B ρ xs ws := by
  cases r with
  | lst h q => cases e; exact ⟨_, _, rfl, s.same _ _ h, q⟩
  | @ref n a h =>
    have e' : (match S[n]? with
      | some (.lst ws) => some ws
      | _ => none) = some ws := e
    clear e
    split at e'
    · rename_i ws' q
      cases e'
      obtain ⟨u, hu, ro⟩ := s.at h q
      cases ro with
      | lst rr => exact ⟨_, _, rfl, hu, rr⟩
    · cases e'
  | _ => cases e
def binop (S : Sto) : Operator → W → W → Option W
  | .Add, .int a, .int b => some (.int (a + b))
  | .Sub, .int a, .int b => some (.int (a - b))
  | .Mult, .int a, .int b => if (-(2 ^ 64) < a ∧ a < 2 ^ 64) ∨ (-(2 ^ 64) < b ∧ b < 2 ^ 64) then some (.int (a * b)) else none
  | .Mod, .int a, .int b => if 0 < b then some (.int (a % b)) else none
  | .FloorDiv, .int a, .int b => if 0 < b ∧ b < 1073741824 then some (.int (a / b)) else none
  | .Pow, .int a, .int b => if 0 ≤ b ∧ b ≤ 1000000 ∧ a.natAbs < 2 ^ 64 then some (.int (a ^ b.toNat)) else none
  | .Mult, .str a, .int b => if 0 ≤ b ∧ b ≤ 1000 ∧ a.length ≤ 1000 then some (.str (PySem.Txt.mul a b)) else none
  | .Add, .str a, .str b => if small (a.length + b.length) then some (.str (appS a b)) else none
  | .Add, .tup a, .tup b => if small (a.length + b.length) then some (.tup (a ++ b)) else none
  | .Add, x, y => (match lstE S x, lstE S y with
    | some a, some b => if small (a.length + b.length) then some (.lst (a ++ b)) else none
    | _, _ => none)
  | _, _, _ => none
theorem binop_ok [Gam] {X : Cx} {op : Operator} {B H : Hp} {ρ : List Addr} {S : Sto} {Q : VK} {x y : V} {a b c : W} (s : SR X.K ρ S B H) (rx : Rep X.K B ρ x a) (ry : Rep X.K B ρ y b) (e : binop S op a b = some c) (k : Val X.K c S Q ρ B H) :
    opW X (binaryOp op) x y H Q := by
  unfold binop at e
  split at e
  · cases e; cases rx; cases ry
    exact opW_of op_add ⟨_, _, rfl, rfl, k.here s (.int _)⟩
  · cases e; cases rx; cases ry
    exact opW_of op_sub ⟨_, _, rfl, rfl, k.here s (.int _)⟩
  · split at e
    · rename_i hc
      cases e; cases rx; cases ry
      exact opW_of op_mul ⟨_, _, rfl, rfl, hc, k.here s (.int _)⟩
    · cases e
  · split at e
    · rename_i hc
      cases e; cases rx; cases ry
      exact opW_of op_mod ⟨_, _, rfl, rfl, hc, k.here s (.int _)⟩
    · cases e
  · split at e
    · rename_i hc
      cases e; cases rx; cases ry
      exact opW_of op_fdiv ⟨_, _, rfl, rfl, hc, k.here s (.int _)⟩
    · cases e
  · split at e
    · rename_i hc
      cases e; cases rx; cases ry
      exact opW_of op_pow ⟨_, _, rfl, rfl, hc, k.here s (.int _)⟩
    · cases e
  · split at e
    · rename_i hc
      cases e; cases rx; cases ry
      exact opW_of op_mulS ⟨_, _, rfl, rfl, hc, k.here s (.str _)⟩
    · cases e
  · split at e
    · rename_i hc
      cases e; cases rx; cases ry
      rw [appS_eq] at k
      exact opW_of op_add_str ⟨_, _, rfl, rfl, small_line hc, k.here s (.str _)⟩
    · cases e
  · split at e
    · rename_i hc
      cases e
      cases rx with
      | tup h1 r1 =>
        cases ry with
        | tup h2 r2 =>
          refine opW_of op_catA ⟨_, _, _, _, rfl, rfl, Same.tup s.same h1, Same.tup s.same h2, by rw [r1.length, r2.length]; exact small_line hc, fun e => ?_, fun _ e => ?_, fun _ _ p hp => k.newT s (r1.append r2) hp⟩
          · subst e
            cases r1
            exact k.here s (.tup h2 r2)
          · subst e
            cases r2
            rw [List.append_nil] at k
            exact k.here s (.tup h1 r1)
    · cases e
  · split at e
    · rename_i h1 h2
      split at e
      · rename_i hc
        cases e
        obtain ⟨a1, xs, rfl, k1, r1⟩ := lstE_ok s rx h1
        obtain ⟨a2, ys, rfl, k2, r2⟩ := lstE_ok s ry h2
        exact opW_of op_cat ⟨_, _, _, _, rfl, rfl, k1, k2, by rw [r1.length, r2.length]; exact small_line hc, fun p hp => k.newL s (r1.append r2) hp⟩
      · cases e
    · cases e
  · cases e

/-! ### comparisons -/
def scalW : W → W → Bool
  | .non, .non => true | .non, .int _ => true | .int _, .non => true | .non, .bl _ => true | .bl _, .non => true | .non, .str _ => true | .str _, .non => true
  | .int _, .int _ => true | .bl _, .bl _ => true | .str _, .str _ => true
  | .int _, .str _ => true | .str _, .int _ => true | .bl _, .str _ => true | .str _, .bl _ => true
  | _, _ => false
/-- x == y -/
def eqS0 (S : Sto) (x y : W) : Option Bool :=
  if scalW x y = true then some (eqW x y)
  else match datS S x, datS S y with
    | some d, some e => if SeqAt.shaped d = true ∧ SeqAt.shaped e = true then some (PyData.eqv d e) else none
    | _, _ => none
def eqS (S : Sto) (x y : W) : Option Bool := match seqD S x, seqD S y with
  | some a, some b => if a.length = b.length then (if a.length = 0 then some true else none) else some false
  | _, _ => eqS0 S x y
theorem scal_ok [Gam] {K : PySem.W.Frag} {B : Hp} {ρ : List Addr} {x y : V} {a b : W} (rx : Rep K B ρ x a) (ry : Rep K B ρ y b) (h : scalW a b = true) : scal x y = true ∧ decide (x = y) = eqW a b := by
  cases rx <;> cases ry <;> first
    | (cases h; done)
    | (refine ⟨rfl, ?_⟩; first | exact dec_int | exact dec_bl | exact dec_str.trans (eqStr_beq _ _) | exact decide_eq_false (fun z => nomatch z) | exact decide_eq_true rfl)
def signOf (s : Str) : Option Nat := match s.cps.toList with
  | [c] => some c
  | _ => none
theorem signOf_eq {s : Str} {c : Nat} (h : signOf s = some c) : s = ⟨#[c]⟩ := by
  unfold signOf at h
  split at h
  · rename_i d e
    cases h
    obtain ⟨cs⟩ := s
    have e' : cs.toList = [c] := e
    have : cs = #[c] := by
      apply Array.ext'
      rw [e']
    rw [this]
  · cases h
def inS0 (S : Sto) (x y : W) : Option Bool := match x, y with
  | .str a, .str z => (match signOf a with
    | some c => some (hasN c z.cps.toList)
    | none => some (txtHas z a))
  | _, _ => (match (seqL S y).orElse (fun _ => seqT y) with
    | some ws => if flatW x = true ∧ ws.all flatW = true then some (inW x ws) else (match datS S x, datS S y with
      | some d, some (.list ds) => if SeqAt.shaped d = true ∧ SeqAt.shaped (.list ds) = true then some (ds.any fun z => PyData.eqv z d) else none
      | _, _ => none)
    | none => none)
def inS (S : Sto) (x y : W) : Option Bool := match seqD S y, keyW x with
  | some ks, some k => some (findK ks k).isSome
  | _, _ => inS0 S x y
def isNonW : W → Bool
  | .non => true
  | _ => false
def cmpop (S : Sto) : CmpOp → W → W → Option Bool
  | .Eq, x, y => eqS S x y
  | .NotEq, x, y => (eqS S x y).map (!·)
  | .In, x, y => inS S x y
  | .NotIn, x, y => (inS S x y).map (!·)
  | .Lt, .int a, .int b => some (decide (a < b))
  | .LtE, .int a, .int b => some (decide (a ≤ b))
  | .Gt, .int a, .int b => some (decide (b < a))
  | .GtE, .int a, .int b => some (decide (b ≤ a))
  | .Lt, .str a, .str b => some (decide (a.cps.toList < b.cps.toList))
  | .Is, x, .non => some (isNonW x)
  | .IsNot, x, .non => some (!isNonW x)
  | _, _, _ => none
theorem isNon_ok [Gam] {K : PySem.W.Frag} {B : Hp} {ρ : List Addr} {x : V} {a : W} (rx : Rep K B ρ x a) : decide (x = .non) = isNonW a := by
  cases rx <;> first | exact decide_eq_true rfl | exact decide_eq_false (fun z => nomatch z)
theorem eqS0_ok [Gam] {X : Cx} {B H : Hp} {ρ : List Addr} {S : Sto} {Q : VK} {x y : V} {a b : W} {c : Bool} (hu : X.A.units + 65 < cLine) (s : SR X.K ρ S B H) (rx : Rep X.K B ρ x a) (ry : Rep X.K B ρ y b) (e : eqS0 S a b = some c) :
    (Val X.K (.bl c) S Q ρ B H → opW X (compareOp .Eq) x y H Q) ∧ (Val X.K (.bl (!c)) S Q ρ B H → opW X (compareOp .NotEq) x y H Q) := by
  unfold eqS0 at e
  split at e
  · rename_i hs
    cases e
    obtain ⟨h1, h2⟩ := scal_ok rx ry hs
    exact ⟨fun k => opW_of op_eq ⟨h1, by rw [h2]; exact k.here s (.bl _)⟩, fun k => opW_of op_ne ⟨h1, by rw [h2]; exact k.here s (.bl _)⟩⟩
  · split at e
    · rename_i d1 d2 q1 q2
      split at e
      · rename_i hs
        cases e
        exact ⟨fun k => opW_of (op_eqD (by omega)) ⟨d1, d2, datS_ok s rx q1, datS_ok s ry q2, hs.1, hs.2, k.here s (.bl _)⟩, fun k => opW_of (op_neD (by omega)) ⟨d1, d2, datS_ok s rx q1, datS_ok s ry q2, hs.1, hs.2, k.here s (.bl _)⟩⟩
      · cases e
    · cases e
theorem eqS_ok [Gam] {X : Cx} {B H : Hp} {ρ : List Addr} {S : Sto} {Q : VK} {x y : V} {a b : W} {c : Bool} (hu : X.A.units + 65 < cLine) (s : SR X.K ρ S B H) (rx : Rep X.K B ρ x a) (ry : Rep X.K B ρ y b) (e : eqS S a b = some c) :
    (Val X.K (.bl c) S Q ρ B H → opW X (compareOp .Eq) x y H Q) ∧ (Val X.K (.bl (!c)) S Q ρ B H → opW X (compareOp .NotEq) x y H Q) := by
  unfold eqS at e
  split at e
  · rename_i k1 k2 q1 q2
    obtain ⟨p, kv, rfl, h1, e1, r1⟩ := seqD_ok s rx q1
    obtain ⟨p', kv', rfl, h2, e2, r2⟩ := seqD_ok s ry q2
    have l1 := congrArg List.length e1
    have l2 := congrArg List.length e2
    simp only [List.length_map] at l1 l2
    split at e
    · rename_i hl
      split at e
      · rename_i hz
        cases e
        have z1 : kv = [] := List.length_eq_zero_iff.mp (by omega)
        have z2 : kv' = [] := List.length_eq_zero_iff.mp (by omega)
        subst z1 z2
        exact ⟨fun k => opW_of (op_eqDict0 (by omega)) ⟨p, p', rfl, rfl, h1, h2, k.here s (.bl _)⟩, fun k => opW_of (op_neDict0 (by omega)) ⟨p, p', rfl, rfl, h1, h2, k.here s (.bl _)⟩⟩
      · cases e
    · rename_i hl
      cases e
      exact ⟨fun k => opW_of (op_eqDictL (by omega)) ⟨p, p', kv, kv', rfl, rfl, h1, h2, by omega, k.here s (.bl _)⟩, fun k => opW_of (op_neDictL (by omega)) ⟨p, p', kv, kv', rfl, rfl, h1, h2, by omega, k.here s (.bl _)⟩⟩
  · exact eqS0_ok hu s rx ry e
theorem inS0_ok [Gam] {X : Cx} {B H : Hp} {ρ : List Addr} {S : Sto} {Q : VK} {x y : V} {a b : W} {c : Bool} (hu : X.A.units + 65 < cLine) (s : SR X.K ρ S B H) (rx : Rep X.K B ρ x a) (ry : Rep X.K B ρ y b) (e : inS0 S a b = some c) :
    (Val X.K (.bl c) S Q ρ B H → opW X (compareOp .In) x y H Q) ∧ (Val X.K (.bl (!c)) S Q ρ B H → opW X (compareOp .NotIn) x y H Q) := by
  unfold inS0 at e
  split at e
  · rename_i sa sz
    cases rx; cases ry
    split at e
    · rename_i cc hc
      cases e
      have q := signOf_eq hc
      subst q
      rw [← hasN_dec]
      exact ⟨fun k => opW_of op_in_sign ⟨cc, sz, rfl, rfl, k.here s (.bl _)⟩, fun k => opW_of op_notIn_sign ⟨cc, sz, rfl, rfl, k.here s (.bl _)⟩⟩
    · cases e
      rw [txtHas_eq]
      exact ⟨fun k => opW_of op_in_str ⟨_, _, rfl, rfl, k.here s (.bl _)⟩, fun k => opW_of op_notIn_str ⟨_, _, rfl, rfl, k.here s (.bl _)⟩⟩
  · split at e
    · rename_i ws hw
      have hseq : ∃ p xs, y = .ref p ∧ (SqL X.K H p xs ∨ SqT X.K H p xs) ∧ RepL X.K B ρ xs ws := by
        cases q : seqL S b with
        | some ws' =>
          rw [q] at hw
          cases hw
          obtain ⟨p, xs, e1, e2, e3⟩ := seqL_ok s ry q
          exact ⟨p, xs, e1, .inl e2, e3⟩
        | none =>
          rw [q] at hw
          obtain ⟨p, xs, e1, e2, e3⟩ := seqT_ok s ry (show seqT b = some ws from hw)
          exact ⟨p, xs, e1, .inr e2, e3⟩
      obtain ⟨p, xs, ey, hq, rr⟩ := hseq
      split at e
      · rename_i hf
        cases e
        have fx := rx.flat hf.1
        have fl := rr.flat hf.2
        have hv := inW_V rx hf.1 rr hf.2
        refine ⟨fun k => opW_of op_in_seq ⟨p, xs, ey, hq, fx.1, fl, ?_⟩, fun k => opW_of op_notIn_seq ⟨p, xs, ey, hq, fx.1, fl, ?_⟩⟩
        · rw [hv]
          exact k.here s (.bl _)
        · rw [hv]
          exact k.here s (.bl _)
      · split at e
        · rename_i d ds q1 q2
          split at e
          · rename_i hs
            cases e
            exact ⟨fun k => opW_of (op_inD hu) ⟨d, ds, datS_ok s rx q1, datS_ok s ry q2, hs.1, hs.2, k.here s (.bl _)⟩, fun k => opW_of (op_notInD hu) ⟨d, ds, datS_ok s rx q1, datS_ok s ry q2, hs.1, hs.2, k.here s (.bl _)⟩⟩
          · cases e
        · cases e
    · cases e
theorem inS_ok [Gam] {X : Cx} {B H : Hp} {ρ : List Addr} {S : Sto} {Q : VK} {x y : V} {a b : W} {c : Bool} (hu : X.A.units + 65 < cLine) (s : SR X.K ρ S B H) (rx : Rep X.K B ρ x a) (ry : Rep X.K B ρ y b) (e : inS S a b = some c) :
    (Val X.K (.bl c) S Q ρ B H → opW X (compareOp .In) x y H Q) ∧ (Val X.K (.bl (!c)) S Q ρ B H → opW X (compareOp .NotIn) x y H Q) := by
  unfold inS at e
  split at e
  · rename_i ks k q1 q2
    cases e
    obtain ⟨p, kv, rfl, h1, e1, r1⟩ := seqD_ok s ry q1
    cases keyW_ok rx q2
    have z := (find_ok (k := k) e1 r1).2
    refine ⟨fun k' => opW_of (op_inDict (by omega)) ⟨p, _, rfl, (.inl ⟨kv, k, h1, rfl, rfl⟩), ?_⟩, fun k' => opW_of (op_notInDict (by omega)) ⟨p, _, rfl, (.inl ⟨kv, k, h1, rfl, rfl⟩), ?_⟩⟩
    · rw [z]
      exact k'.here s (.bl _)
    · rw [z]
      exact k'.here s (.bl _)
  · exact inS0_ok hu s rx ry e
theorem cmpop_ok [Gam] {X : Cx} {op : CmpOp} {B H : Hp} {ρ : List Addr} {S : Sto} {Q : VK} {x y : V} {a b : W} {c : Bool} (hu : X.A.units + 65 < cLine) (s : SR X.K ρ S B H) (rx : Rep X.K B ρ x a) (ry : Rep X.K B ρ y b) (e : cmpop S op a b = some c)
    (k : Val X.K (.bl c) S Q ρ B H) : opW X (compareOp op) x y H Q := by
  unfold cmpop at e
  split at e
  · exact (eqS_ok hu s rx ry e).1 k
  · cases q : eqS S a b with
    | none => rw [q] at e; cases e
    | some d => rw [q] at e; cases e; exact (eqS_ok hu s rx ry q).2 k
  · exact (inS_ok hu s rx ry e).1 k
  · cases q : inS S a b with
    | none => rw [q] at e; cases e
    | some d => rw [q] at e; cases e; exact (inS_ok hu s rx ry q).2 k
  · cases e; cases rx; cases ry
    exact opW_of op_lt ⟨_, _, rfl, rfl, k.here s (.bl _)⟩
  · cases e; cases rx; cases ry
    exact opW_of op_le ⟨_, _, rfl, rfl, k.here s (.bl _)⟩
  · cases e; cases rx; cases ry
    exact opW_of op_gt ⟨_, _, rfl, rfl, k.here s (.bl _)⟩
  · cases e; cases rx; cases ry
    exact opW_of op_ge ⟨_, _, rfl, rfl, k.here s (.bl _)⟩
  · cases e; cases rx; cases ry
    exact opW_of op_lt_str ⟨_, _, rfl, rfl, k.here s (.bl _)⟩
  · cases e; cases ry
    exact opW_of op_isN ⟨rfl, by rw [isNon_ok rx]; exact k.here s (.bl _)⟩
  · cases e; cases ry
    exact opW_of op_notN ⟨rfl, by rw [isNon_ok rx]; exact k.here s (.bl _)⟩
  · cases e
end Mi

set_option Elab.async false
set_option linter.all false
set_option maxRecDepth 100000
set_option maxHeartbeats 4000000
/-! Mi3: the evaluator. -/
noncomputable section
namespace Mi
open PySem PySem.Spec PyProof.Rows L2

/-! ### what is known of a program, of a def -/
/-- cst: names of the module that hold plain values; ar: own defs, how many arguments; free: names that the module does not hold -/
structure Pg where
  cst : Str → Option W
  ar : Str → Option Nat
  free : List Str
  /-- class, name: its objects may have it as an attribute of their own -/
  fld : Str → Str → Bool := fun _ _ => false
  /-- class, method: how many parameters behind self -/
  mt : Str → Str → Option Nat := fun _ _ => none
  /-- a class that is called: how many parameters behind self; is an object never changed behind its __init__? -/
  new : Str → Option (Nat × Bool) := fun _ => none
  /-- a class of exceptions with an __init__ that keeps what it is given: under which names -/
  xc : Str → Option (List Str) := fun _ => none
  /-- a class of the text -/
  exk : Str → Bool := fun _ => false
  /-- is an exception of class c caught under the name x? -/
  exm : Str → Str → Option Bool := fun _ _ => none
  /-- an exception of class c may have the attribute f -/
  exf : Str → Str → Bool := fun _ _ => false
  /-- isinstance(e, t), e an exception of class c -/
  exi : Str → Str → Option Bool := fun _ _ => none
  /-- isinstance(x, t), x of the class or type c -/
  isi : Str → Str → Option Bool := fun _ _ => none
/-- N: names by slot; sc: the scope; fn: names whose cells are this frame's own; mut: names whose displays are cells -/
structure Gm where
  N : List Str
  sc : Scope
  fn : Str → Bool
  muts : List Str
  top : Bool := false
inductive Out' where
  | next (env : Env')
  | ret (w : W)
  | brk (env : Env')
  | cont (env : Env')
structure Evs where
  e : Gm → Env' → Sto → Expr → R W
  t : Gm → Env' → Sto → Expr → R Bool
  s : Gm → Env' → Sto → Stmt → R Out'

def slotOf : List Str → Str → Option Nat
  | [], _ => none
  | y :: r, x => if x = y then some 0 else (slotOf r x).map Nat.succ
theorem slotOf_get : ∀ {N : List Str} {x : Str} {i : Nat}, slotOf N x = some i → N[i]? = some x
  | [], _, _, h => by cases h
  | y :: r, x, i, h => by
    unfold slotOf at h
    split at h
    · rename_i e
      cases h
      rw [e]
      rfl
    · cases q : slotOf r x with
      | none => rw [q] at h; cases h
      | some j =>
        rw [q] at h
        cases h
        exact (slotOf_get q : r[j]? = some x)
def visB (sc : Scope) (x : Str) : Bool := match sc.names.lookup x with
  | some .local => true
  | some .cell => true
  | some .free => true
  | _ => false
def gloB (sc : Scope) (x : Str) : Bool := match sc.names.lookup x with
  | some .globalImplicit => true
  | _ => false
def locB (g : Gm) (x : Str) : Bool := match g.sc.names.lookup x with
  | some .local => true
  | some .cell => g.fn x
  | _ => false
def odd (x : Str) : Bool := (x == ("__debug__" : Str)) || (x == ("__classdict__" : Str)) || (x == ("__name__" : Str))

def nameE (pg : Pg) (g : Gm) (env : Env') (S : Sto) (x : Str) : R W :=
  guard' (!odd x) (if visB g.sc x = true then (match slotOf g.N x with
    | some i => (match env[i]? with
      | some (some w) => .ok w S
      | _ => .bad)
    | none => .bad)
  else guard' (gloB g.sc x) (lift (pg.cst x) S))

/-! ### texts in order -/
def leS (a b : Str) : Bool := !Spec.ltCps b.cps.toList a.cps.toList
def insS (x : Str) : List Str → List Str
  | [] => [x]
  | y :: r => if leS x y = true then x :: y :: r else y :: insS x r
def sortStr : List Str → List Str
  | [] => []
  | x :: r => insS x (sortStr r)
theorem leS_iff (a b : Str) : leS a b = true ↔ a.cps.toList ≤ b.cps.toList := by
  unfold leS
  rw [ltCps_eq]
  simp [List.not_lt]
theorem leS_trans {a b c : Str} (h1 : leS a b = true) (h2 : leS b c = true) : leS a c = true := (leS_iff a c).mpr (List.le_trans ((leS_iff a b).mp h1) ((leS_iff b c).mp h2))
theorem leS_total {a b : Str} (h : ¬ leS a b = true) : leS b a = true := by
  rcases List.le_total a.cps.toList b.cps.toList with z | z
  · exact absurd ((leS_iff a b).mpr z) h
  · exact (leS_iff b a).mpr z
theorem leS_anti {a b : Str} (h1 : leS a b = true) (h2 : leS b a = true) : a = b := by
  have z := List.le_antisymm ((leS_iff a b).mp h1) ((leS_iff b a).mp h2)
  obtain ⟨x⟩ := a
  obtain ⟨y⟩ := b
  congr 1
  exact Array.ext' z
theorem insS_perm (x : Str) : ∀ l, (insS x l).Perm (x :: l)
  | [] => .refl _
  | y :: r => by
    unfold insS
    split
    · exact .refl _
    · exact ((insS_perm x r).cons y).trans (.swap x y r)
theorem sortStr_perm : ∀ l, (sortStr l).Perm l
  | [] => .refl _
  | x :: r => (insS_perm x (sortStr r)).trans ((sortStr_perm r).cons x)
theorem insS_up (x : Str) : ∀ {l : List Str}, l.Pairwise (fun a b => leS a b = true) → (insS x l).Pairwise (fun a b => leS a b = true)
  | [], _ => List.pairwise_singleton _ _
  | y :: r, h => by
    obtain ⟨h1, h2⟩ := List.pairwise_cons.mp h
    unfold insS
    split
    · rename_i c
      refine List.pairwise_cons.mpr ⟨fun z hz => ?_, h⟩
      rcases List.mem_cons.mp hz with e | e
      · rw [e]; exact c
      · exact leS_trans c (h1 z e)
    · rename_i c
      refine List.pairwise_cons.mpr ⟨fun z hz => ?_, insS_up x h2⟩
      rcases List.mem_cons.mp ((insS_perm x r).mem_iff.mp hz) with e | e
      · rw [e]; exact leS_total c
      · exact h1 z e
theorem sortStr_up : ∀ l, (sortStr l).Pairwise (fun a b => leS a b = true)
  | [] => .nil
  | x :: r => insS_up x (sortStr_up r)
theorem rising_up : ∀ {l : List Str} {p : Str}, risingS p l = true → (p :: l).Pairwise (fun a b => leS a b = true)
  | [], p, _ => List.pairwise_singleton _ _
  | x :: r, p, h => by
    have h' : (!Spec.ltCps x.cps.toList p.cps.toList && risingS x r) = true := h
    rw [Bool.and_eq_true] at h'
    have ih := rising_up h'.2
    obtain ⟨i1, i2⟩ := List.pairwise_cons.mp ih
    refine List.pairwise_cons.mpr ⟨fun z hz => ?_, ih⟩
    rcases List.mem_cons.mp hz with e | e
    · rw [e]; exact h'.1
    · exact leS_trans (show leS p x = true from h'.1) (i1 z e)
theorem sortStr_one {xs ys : List Str} (p : ys.Perm xs) (h : sortedS ys = true) : ys = sortStr xs := by
  have up : ys.Pairwise (fun a b => leS a b = true) := by
    cases ys with
    | nil => exact .nil
    | cons y r => exact rising_up h
  exact List.Perm.eq_of_pairwise (fun a b _ _ h1 h2 => leS_anti h1 h2) up (sortStr_up xs) (p.trans (sortStr_perm xs).symm)

/-! ### built-in calls -/
def strsW : List W → Option (List Str)
  | [] => some []
  | .str z :: r => (strsW r).map (z :: ·)
  | _ => none
def keyStrs {β : Type} : List (Key × β) → Option (List Str)
  | [] => some []
  | (.inr x, _) :: r => (keyStrs r).map (x :: ·)
  | _ => none
def bools : List W → Option (List Bool)
  | [] => some []
  | .bl b :: r => (bools r).map (b :: ·)
  | _ => none
def lenW (S : Sto) (w : W) : Option Int := match w with
  | .str z => if small z.length then some (z.length : Int) else none
  | w => (match seqL S w with
    | some ws => some (ws.length : Int)
    | none => (seqT w).map fun ws => (ws.length : Int))
/-- len -/
def lenD (S : Sto) (w : W) : Option Int := match seqD S w with
  | some ks => some (ks.length : Int)
  | none => lenW S w
def bcall (S : Sto) (f : Str) (ws : List W) : Option W :=
  if f = "len" then (match ws with
    | [w] => (lenD S w).map .int
    | _ => none)
  else if f = "int" then (match ws with
    | [.int i] => some (.int i)
    | [.str a] => if a.length ≤ 640 then (PySem.intText? a).map .int else none
    | _ => none)
  else if f = "str" then (match ws with
    | [.int i] => if i.natAbs.log2 < 1920 then some (.str (toString i)) else none
    | _ => none)
  else if f = "all" then (match ws with
    | [w] => (match seqL S w with
      | some xs => (bools xs).map fun bs => .bl (bs.all id)
      | none => none)
    | _ => none)
  else if f = "any" then (match ws with
    | [w] => (match seqL S w with
      | some xs => (bools xs).map fun bs => .bl (bs.any id)
      | none => none)
    | _ => none)
  else if f = "min" then (match ws with
    | [.int i, .int j] => some (.int (if j < i then j else i))
    | _ => none)
  else if f = "max" then (match ws with
    | [.int i, .int j] => some (.int (if j > i then j else i))
    | _ => none)
  else if f = "list" then (match ws with
    | [w] => (match seqL S w with
      | some xs => some (.lst xs)
      | none => (seqT w).map .lst)
    | _ => none)
  else if f = "tuple" then (match ws with
    | [w] => (match seqL S w with
      | some xs => some (.tup xs)
      | none => (seqT w).map .tup)
    | _ => none)
  else if f = "sorted" then (match ws with
    | [w] => (match seqD S w with
      | some ks => (match keyStrs ks with
        | some xs => if xs.length < 64 then some (.lst ((sortStr xs).map W.str)) else none
        | none => none)
      | none => (match seqL S w with
        | some us => (match strsW us with
          | some xs => if xs.length < 64 then some (.lst ((sortStr xs).map W.str)) else none
          | none => none)
        | none => none))
    | _ => none)
  else none

def known (f : Str) : Bool := decide (f = "sorted") || decide (f = "len") || decide (f = "int") || decide (f = "str") || decide (f = "all") || decide (f = "any") || decide (f = "min") || decide (f = "max") || decide (f = "list") || decide (f = "tuple")

/-! ### subscripts -/
def ixS0 (S : Sto) (x i : W) : Option W := match i with
  | .int k => (match x with
    | .str z => if small z.length then (atI z.cps.toList k).map fun c => .str ⟨#[c]⟩ else none
    | x => (match seqL S x with
      | some ws => atI ws k
      | none => (match seqT x with
        | some ws => atI ws k
        | none => none)))
  | _ => none
def ixS (S : Sto) (x i : W) : Option W := match seqD S x, keyW i with
  | some ks, some k => findK ks k
  | _, _ => ixS0 S x i
def cutW (ws : List W) (lo hi : Option Int) : List W := (ws.drop (HT.sIx ws.length 0 lo)).take (HT.sIx ws.length ws.length hi - HT.sIx ws.length 0 lo)
def slS (S : Sto) (x : W) (lo hi : Option Int) : Option W := match x with
  | .str z => if small z.length then some (.str (cutS z lo hi)) else none
  | x => (match seqL S x with
    | some ws => some (.lst (cutW ws lo hi))
    | none => (seqT x).map fun ws => .tup (cutW ws lo hi))
def plainIx : Expr → Bool
  | .Slice .. => false
  | _ => true

/-! ### truth -/
def truth (S : Sto) : W → Option Bool
  | .non => some false
  | .bl b => some b
  | .int i => some (i != 0)
  | .str z => if small z.length then some ((z.length : Int) != 0) else none
  | w => (match seqL S w with
    | some ws => some (!ws.isEmpty)
    | none => (seqT w).map fun ws => !ws.isEmpty)

/-! ### rows of parts -/
def notStar : Expr → Bool
  | .Starred .. => false
  | _ => true
def mapR0 (f : Expr → Sto → R W) : List Expr → Sto → R (List W)
  | [], S => .ok [] S
  | e :: es, S => (f e S).bind fun w S1 => (mapR0 f es S1).bind fun ws S2 => .ok (w :: ws) S2
def mapR (f : Expr → Sto → R W) (es : List Expr) (S : Sto) : R (List W) := guard' (es.all notStar) (mapR0 f es S)
/-- displays: with starred parts -/
def mapS (f : Expr → Sto → R W) : List Expr → Sto → R (List W)
  | [], S => .ok [] S
  | .Starred e _ :: es, S => (f e S).bind fun w S1 => (match (seqL S1 w).orElse (fun _ => seqT w) with
    | some xs => (mapS f es S1).bind fun ws S2 => .ok (xs ++ ws) S2
    | none => .bad)
  | e :: es, S => (f e S).bind fun w S1 => (mapS f es S1).bind fun ws S2 => .ok (w :: ws) S2
def allR (f : Expr → Sto → R Bool) (op : BoolOp) : List Expr → Sto → R Bool
  | [], _ => .bad
  | [a], S => f a S
  | a :: b :: r, S => (f a S).bind fun c S1 => (match op, c with
    | .And, true => allR f op (b :: r) S1
    | .And, false => .ok false S1
    | .Or, true => .ok true S1
    | .Or, false => allR f op (b :: r) S1)
def valR (f : Expr → Sto → R W) (op : BoolOp) : List Expr → Sto → R W
  | [], _ => .bad
  | [a], S => f a S
  | a :: b :: r, S => (f a S).bind fun w S1 => (match w with
    | .bl c => (match op, c with
      | .And, true => valR f op (b :: r) S1
      | .And, false => .ok (.bl false) S1
      | .Or, true => .ok (.bl true) S1
      | .Or, false => valR f op (b :: r) S1)
    | _ => .bad)
def seqR (f : Env' → Sto → Stmt → R Out') : List Stmt → Env' → Sto → R Out'
  | [], env, S => .ok (.next env) S
  | s :: r, env, S => (f env S s).bind fun o S1 => (match o with
    | .next env1 => seqR f r env1 S1
    | .ret w => .ok (.ret w) S1
    | .brk e => .ok (.brk e) S1
    | .cont e => .ok (.cont e) S1)

/-! ### targets -/
def bindN (g : Gm) (x : Str) (w : W) (env : Env') : Option Env' := if locB g x = true then (slotOf g.N x).map fun i => env.set i (some w) else none
def bindIx : List Nat → List W → Env' → Option Env'
  | [], [], env => some env
  | i :: r, w :: ws, env => bindIx r ws (env.set i (some w))
  | _, _, _ => none
def bindTs (ix : List Nat) (w : W) (env : Env') : Option Env' := match seqT w with
  | some ws => bindIx ix ws env
  | none => none
def nameIx (g : Gm) : Expr → Option Nat
  | .Name x _ => if locB g x = true then slotOf g.N x else none
  | _ => none
def namesIx (g : Gm) : List Expr → Option (List Nat)
  | [] => some []
  | e :: r => match nameIx g e, namesIx g r with
    | some i, some is => some (i :: is)
    | _, _ => none
def bindT (g : Gm) (tg : Expr) (w : W) (env : Env') : Option Env' := match tg with
  | .Name x _ => bindN g x w env
  | .Tuple es _ _ => (match namesIx g es with
    | some ix => bindTs ix w env
    | none => none)
  | _ => none
def nameOk (g : Gm) : Expr → Bool
  | .Name x _ => locB g x && (slotOf g.N x).isSome
  | _ => false
def tgOk (g : Gm) : Expr → Bool
  | .Name x p => nameOk g (.Name x p)
  | .Tuple es _ _ => es.all (nameOk g)
  | _ => false
/-- nothing may leave from here -/
def noExc {α : Type} (r : R α) : R α := match r with
  | .ok a S => .ok a S
  | _ => .bad

/-! ### loops -/
def forR (body : Env' → Sto → R Out') (bnd : W → Env' → Option Env') (chk : Sto → Bool) : List W → Env' → Sto → R Out'
  | [], env, S => guard' (chk S) (.ok (.next env) S)
  | w :: ws, env, S => guard' (chk S) (match bnd w env with
    | none => .bad
    | some env1 => (body env1 S).bind fun o S1 => (match o with
      | .next env2 => forR body bnd chk ws env2 S1
      | .cont env2 => forR body bnd chk ws env2 S1
      | .brk env2 => .ok (.next env2) S1
      | .ret v => .ok (.ret v) S1))
def whileR (test : Env' → Sto → R Bool) (body : Env' → Sto → R Out') : Nat → Env' → Sto → R Out'
  | 0, _, _ => .bad
  | m + 1, env, S => (test env S).bind fun c S1 => (match c with
    | false => .ok (.next env) S1
    | true => (body env S1).bind fun o S2 => (match o with
      | .next env2 => whileR test body m env2 S2
      | .cont env2 => whileR test body m env2 S2
      | .brk env2 => .ok (.next env2) S2
      | .ret v => .ok (.ret v) S2))
def strW (z : Str) : List W := z.cps.toList.map fun c => .str ⟨#[c]⟩
def enumW (n : Nat) : List W → List W
  | [] => []
  | w :: ws => .tup [.int (n : Int), w] :: enumW (n + 1) ws
def isName (e : Expr) (x : Str) : Bool := match e with
  | .Name y _ => decide (y = x)
  | _ => false
def notSet : Expr → Bool
  | .Set .. => false
  | _ => true
/-! ### sameness of what a cell holds -/
mutual
def eqF : Nat → W → W → Bool
  | 0, _, _ => false
  | f + 1, a, b => match a, b with
    | .non, .non => true
    | .bl x, .bl y => decide (x = y)
    | .int x, .int y => decide (x = y)
    | .str x, .str y => eqStr x y
    | .tup x, .tup y => eqFs f x y
    | .lst x, .lst y => eqFs f x y
    | .frl x, .frl y => eqFs f x y
    | .ref x, .ref y => decide (x = y)
    | .obj c fs, .obj c' fs' => decide (c = c') && (decide (fs.map Prod.fst = fs'.map Prod.fst) && eqFs f (fs.map Prod.snd) (fs'.map Prod.snd))
    | .dct fs, .dct fs' => decide (fs.map Prod.fst = fs'.map Prod.fst) && eqFs f (fs.map Prod.snd) (fs'.map Prod.snd)
    | _, _ => false
def eqFs : Nat → List W → List W → Bool
  | 0, _, _ => false
  | _ + 1, [], [] => true
  | f + 1, a :: as, b :: bs => eqF f a b && eqFs f as bs
  | _ + 1, _, _ => false
end
theorem pairs_eq {κ : Type} : ∀ {a b : List (κ × W)}, a.map Prod.fst = b.map Prod.fst → a.map Prod.snd = b.map Prod.snd → a = b
  | [], [], _, _ => rfl
  | [], _ :: _, e, _ => by cases e
  | _ :: _, [], e, _ => by cases e
  | (x, v) :: a, (y, w) :: b, e, e' => by
    injection e with e1 e2
    injection e' with e3 e4
    have e1 : x = y := e1
    have e3 : v = w := e3
    rw [e1, e3, pairs_eq e2 e4]
mutual
theorem eqF_ok : ∀ {f : Nat} {a b : W}, eqF f a b = true → a = b
  | 0, _, _, h => by cases h
  | f + 1, a, b, h => by
    unfold eqF at h
    split at h
    · rfl
    · rw [of_decide_eq_true h]
    · rw [of_decide_eq_true h]
    · rw [eqStr_iff.mp h]
    · rw [eqFs_ok h]
    · rw [eqFs_ok h]
    · rw [eqFs_ok h]
    · rw [of_decide_eq_true h]
    · rw [Bool.and_eq_true, Bool.and_eq_true] at h
      rw [of_decide_eq_true h.1, pairs_eq (of_decide_eq_true h.2.1) (eqFs_ok h.2.2)]
    · rw [Bool.and_eq_true] at h
      rw [pairs_eq (of_decide_eq_true h.1) (eqFs_ok h.2)]
    · cases h
theorem eqFs_ok : ∀ {f : Nat} {a b : List W}, eqFs f a b = true → a = b
  | 0, _, _, h => by cases h
  | f + 1, [], [], _ => rfl
  | f + 1, [], _ :: _, h => by cases h
  | f + 1, _ :: _, [], h => by cases h
  | f + 1, a :: as, b :: bs, h => by
    unfold eqFs at h
    rw [Bool.and_eq_true] at h
    rw [eqF_ok h.1, eqFs_ok h.2]
end
/-- the cell n holds the list ws -/
def sameL (n : Nat) (ws : List W) (S : Sto) : Bool := match S[n]? with
  | some (.lst ws') => eqFs 100000 ws ws'
  | _ => false
abbrev Itm := List W × (Sto → Bool)
def still (ws : List W) : Itm := (ws, fun _ => true)
/-- what a list, a tuple, a text gives -/
def walkW (w : W) (S1 : Sto) : R Itm := match w with
  | .lst ws => .ok (still ws) S1
  | .frl ws => .ok (still ws) S1
  | .tup ws => .ok (still ws) S1
  | .str z => .ok (still (strW z)) S1
  | .ref n => (match S1[n]? with
    | some (.lst ws) => .ok (ws, sameL n ws) S1
    | _ => .bad)
  | _ => .bad
def keyOfW : Key → W
  | .inl i => .int i
  | .inr s => .str s
def isTupE : Expr → Bool
  | .Tuple .. => true
  | _ => false
/-- .. with their places -/
def enumWk (w : W) (S1 : Sto) : R Itm := match w with
  | .str z => .ok (still (enumW 0 (strW z))) S1
  | .lst ws => .ok (still (enumW 0 ws)) S1
  | .frl ws => .ok (still (enumW 0 ws)) S1
  | .ref n => (match S1[n]? with
    | some (.lst ws) => .ok (enumW 0 ws, sameL n ws) S1
    | _ => .bad)
  | _ => .bad
/-- the items of what a for walks -/
def evIter (pg : Pg) (g : Gm) (f : Expr → Sto → R W) (tg iter : Expr) (S : Sto) : R Itm := match iter with
  | .Call (.Name "range" _) [a] [] _ => guard' (gloB g.sc "range" && pg.free.contains "range") ((mapR f [a] S).bind fun ws S1 => (match ws with
    | [.int n] => guard' (decide (-(2 ^ 62) ≤ n ∧ n < 2 ^ 62)) (.ok (still ((List.range n.toNat).map fun i : Nat => W.int ((0 : Int) + (i : Int)))) S1)
    | _ => .bad))
  | .Call (.Name "range" _) [a, b] [] _ => guard' (gloB g.sc "range" && pg.free.contains "range") ((mapR f [a, b] S).bind fun ws S1 => (match ws with
    | [.int m, .int n] => guard' (decide (-(2 ^ 62) ≤ m ∧ m < 2 ^ 62 ∧ -(2 ^ 62) ≤ n ∧ n < 2 ^ 62)) (.ok (still ((List.range (n - m).toNat).map fun i : Nat => W.int (m + (i : Int)))) S1)
    | _ => .bad))
  | .Call (.Name "enumerate" _) [a] [] _ => guard' (gloB g.sc "enumerate" && pg.free.contains "enumerate" && isTupE tg && notStar a) ((f a S).bind fun w S1 => enumWk w S1)
  | e => guard' (notSet e) ((f e S).bind fun w S1 => walkW w S1)
/-- a list that was made: a value, or a cell -/
def laidR (fl : Bool) (acc : List W) (S : Sto) : R W := match fl with
  | false => .ok (.lst acc) S
  | true => .ok (.ref S.length) (S ++ [SO.lst acc])
def lcR (fl : Bool) (step : W → Sto → R (Option W)) (chk : Sto → Bool) : List W → List W → Sto → R W
  | [], acc, S => guard' (chk S) (laidR fl acc S)
  | w :: ws, acc, S => guard' (chk S) ((step w S).bind fun o S1 => (match o with
    | none => lcR fl step chk ws acc S1
    | some y => guard' (small (acc.length + 1)) (lcR fl step chk ws (acc ++ [y]) S1)))
/-- a dict's comprehension -/
def dcR (step : W → Sto → R (Option (W × W))) (chk : Sto → Bool) : List W → List (Key × W) → Sto → R W
  | [], acc, S => guard' (chk S) (.ok (.dct acc) S)
  | w :: ws, acc, S => guard' (chk S) ((step w S).bind fun o S1 => (match o with
    | none => dcR step chk ws acc S1
    | some (k, y) => (match keyW k with
      | some k => guard' (small (acc.length + 1)) (dcR step chk ws (storeK acc k y) S1)
      | none => .bad)))
/-- the names of a target -/
def tgNames : Expr → List Str
  | .Name x _ => [x]
  | .Tuple es _ _ => es.filterMap fun | .Name x _ => some x | _ => none
  | _ => []
def ownOf (N : List Str) (tg : Expr) : List (Str × Nat) := (tgNames tg).filterMap fun x => (slotOf N x).map fun i => (x, i)
def blkG (g : Gm) (scope : Scope) : Gm := { g with top := false, sc := relS scope g.sc, fn := fun x => scope.names.lookup x == some .cell }
def wipeE (env : Env') : List Nat → Env'
  | [] => env
  | v :: vs => (wipeE env vs).set v none

/-! ### what is left of cells -/
mutual
def frzW (S : Sto) (n0 : Nat) : Nat → W → Option W
  | 0, _ => none
  | f + 1, w => match w with
    | .ref n => if n < n0 then some (.ref n) else (match S[n]? with
      | some (.lst ws) => (frzs S n0 f ws).map .lst
      | some (.ins c fs) => (frzs S n0 f (fs.map Prod.snd)).map fun ws => .obj c ((fs.map Prod.fst).zip ws)
      | some (.dct ks) => (frzs S n0 f (ks.map Prod.snd)).map fun ws => .dct ((ks.map Prod.fst).zip ws)
      | some (.imd ks) => (frzs S n0 f (ks.map Prod.snd)).map fun ws => .dct ((ks.map Prod.fst).zip ws)
      | none => none)
    | .tup ws => (frzs S n0 f ws).map .tup
    | .lst ws => (frzs S n0 f ws).map .lst
    | .frl ws => some (.frl ws)
    | .obj c fs => (frzs S n0 f (fs.map Prod.snd)).map fun ws => .obj c ((fs.map Prod.fst).zip ws)
    | .dct ks => (frzs S n0 f (ks.map Prod.snd)).map fun ws => .dct ((ks.map Prod.fst).zip ws)
    | w => some w
def frzs (S : Sto) (n0 : Nat) : Nat → List W → Option (List W)
  | 0, _ => none
  | _ + 1, [] => some []
  | f + 1, w :: ws => match frzW S n0 f w, frzs S n0 f ws with
    | some x, some xs => some (x :: xs)
    | _, _ => none
end
def frzO (S : Sto) (n0 : Nat) : SO → Option SO
  | .lst ws => (frzs S n0 100000 ws).map .lst
  | .ins c fs => (frzs S n0 100000 (fs.map Prod.snd)).map fun ws => .ins c ((fs.map Prod.fst).zip ws)
  | .dct ks => (frzs S n0 100000 (ks.map Prod.snd)).map fun ws => .dct ((ks.map Prod.fst).zip ws)
  | .imd ks => (frzs S n0 100000 (ks.map Prod.snd)).map fun ws => .imd ((ks.map Prod.fst).zip ws)
def frzS (S : Sto) (n0 : Nat) : List SO → Option (List SO)
  | [] => some []
  | o :: r => match frzO S n0 o, frzS S n0 r with
    | some x, some xs => some (x :: xs)
    | _, _ => none
def exitW (n0 : Nat) (w : W) (S : Sto) : R W :=
  if S.length = n0 then .ok w S
  else match frzW S n0 100000 w, frzS S n0 (S.take n0) with
    | some w', some S' => .ok w' S'
    | _, _ => .bad
/-! ### objects -/
def mName (c m : Str) : Str := c ++ ("." ++ m)
def objS (S : Sto) : W → Option (Str × List (Str × W))
  | .obj c fs => some (c, fs)
  | .ref n => (match S[n]? with
    | some (.ins c fs) => some (c, fs)
    | _ => none)
  | _ => none
def putW (f : Str) (w : W) : List (Str × W) → List (Str × W)
  | [] => [(f, w)]
  | (g, x) :: r => if g = f then (g, w) :: r else (g, x) :: putW f w r
/-- no call of super -/
def ownB : Expr → Bool
  | .Name .. => true
  | .Attribute .. => true
  | .Subscript .. => true
  | .IfExp .. => true
  | .Call (.Attribute ..) _ _ _ => true
  | .Constant (.str _) _ _ => true
  | _ => false
/-- a callee's answer, seen by the caller -/
def back (env : Env') (r : R W) : R W := match r with
  | .ok w S => .ok w S
  | .exc c fs _ S => .exc c fs env S
  | .bad => .bad
/-- what a class that is called hands back -/
def mkR (env : Env') (n : Nat) (c : Str) (fz : Bool) (r : R W) : R W := (back env r).bind fun w S => (match w with
  | .non => (match fz with
    | true => exitW n (.ref n) S
    | false => .ok (.ref n) S)
  | _ => .bad)

/-- the built-in types that have names here -/
def tyB (c : Str) : Option String := if c = "NoneType" then some "NoneType" else if c = "bool" then some "bool" else if c = "int" then some "int" else if c = "str" then some "str" else if c = "tuple" then some "tuple" else if c = "list" then some "list" else if c = "dict" then some "dict" else none
def ownC (c : Str) : Option Str := match tyB c with
  | some _ => none
  | none => some c
/-- the type of a value, by its name -/
def tyW (S : Sto) : W → Option Str
  | .non => some "NoneType"
  | .bl _ => some "bool"
  | .int _ => some "int"
  | .str _ => some "str"
  | .tup _ => some "tuple"
  | .lst _ => some "list"
  | .dct _ => some "dict"
  | .obj c _ => ownC c
  | .ref n => (match S[n]? with
    | some (.lst _) => some "list"
    | some (.dct _) => some "dict"
    | some (.imd _) => some "dict"
    | some (.ins c _) => ownC c
    | none => none)
  | .frl _ => none
def nameOf : Expr → Option Str
  | .Name x _ => some x
  | _ => none
def namesOf : List Expr → Option (List Str)
  | [] => some []
  | e :: es => match nameOf e, namesOf es with
    | some x, some xs => some (x :: xs)
    | _, _ => none
def isiAny (pg : Pg) (t : Str) : List Str → Option Bool
  | [] => some false
  | c :: r => match pg.isi t c, isiAny pg t r with
    | some b1, some b2 => some (b1 || b2)
    | _, _ => none
def isNameG (g : Gm) : Expr → Bool
  | .Name x _ => gloB g.sc x && !odd x
  | _ => false
/-- a list's append -/
def bmeth (S : Sto) (m : Str) (x : W) (ws : List W) : Option (W × Sto) := match x, ws with
  | .ref n, [y] => if m = "append" then (match S[n]? with
    | some (.lst zs) => if small (zs.length + 1) then some (.non, S.set n (.lst (zs ++ [y]))) else none
    | _ => none) else none
  | _, _ => none
/-- texts' methods of one argument -/
def bmStr (S : Sto) (m : Str) (a : Str) (y : W) : Option W :=
  if m = "split" then (match y with
    | .str b => if !(b.length == 0) && small (a.length + 2) then some (.lst ((txtSplit a b).map W.str)) else none
    | _ => none)
  else if m = "find" then (match y with
    | .str b => some (.int (txtFind a b))
    | _ => none)
  else if m = "startswith" then (match y with
    | .str b => some (.bl (Txt.startswith a b))
    | _ => none)
  else if m = "join" then (match (seqL S y).orElse (fun _ => seqT y) with
    | some ws => (match strsW ws with
      | some ys => if (ys.map (·.length)).sum + ys.length * a.length ≤ 16777216 then some (.str (joinF a ys)) else none
      | none => none)
    | none => none)
  else none
def isAppend (m : Str) : Bool := decide (m = "append")

def isStrM (m : Str) : Bool := decide (m = "split") || (decide (m = "find") || (decide (m = "startswith") || decide (m = "join")))
/-- methods of built-in types -/
def methR (E : Evs) (g : Gm) (env : Env') (S1 : Sto) (m : Str) (as : List Expr) (x : W) : R W := match x, as with
  | .str z, [e1] => guard' (isStrM m) ((E.e g env S1 e1).bind fun y S2 => lift (bmStr S2 m z y) S2)
  | x, as => guard' (isAppend m && ((!as.isEmpty) && (seqL S1 x).isSome)) ((mapR (fun e S => E.e g env S e) as S1).bind fun ws S2 => (match bmeth S2 m x ws with
    | some (w, S3) => .ok w S3
    | none => .bad))

/-! ### walks of dicts -/
/-- a name, an attribute of a name -/
def pathN (g : Gm) (env : Env') (x : Str) : Option W := if (!odd x) = true ∧ visB g.sc x = true then (match slotOf g.N x with
  | some i => (match env[i]? with
    | some (some w) => some w
    | _ => none)
  | none => none) else none
def pathW (pg : Pg) (g : Gm) (env : Env') (S : Sto) : Expr → Option W
  | .Name x _ => pathN g env x
  | .Attribute (.Name x _) f _ => (match pathN g env x with
    | some w => (match objS S w with
      | some (c, fs) => if pg.fld c f = true then fs.lookup f else none
      | none => none)
    | none => none)
  | _ => none
/-- a dict, to be walked: a cell does not change any more -/
def dictAt (S : Sto) : W → Option (List (Key × W) × Sto)
  | .dct ks => some (ks, S)
  | .ref n => (match S[n]? with
    | some (.dct ks) => some (ks, S.set n (.imd ks))
    | some (.imd ks) => some (ks, S)
    | _ => none)
  | _ => none
/-- what is walked: 0 its keys, 1 its values, 2 its pairs -/
def walkOf : Expr → Expr × Nat
  | .Call (.Attribute p m ap) [] [] cp => if (ap.endLine == cp.line) = true then (if m = "values" then (p, 1) else if m = "items" then (p, 2) else (.Call (.Attribute p m ap) [] [] cp, 0)) else (.Call (.Attribute p m ap) [] [] cp, 0)
  | e => (e, 0)
def itemsOf (ks : List (Key × W)) : Nat → List W
  | 0 => ks.map fun p => keyOfW p.1
  | 1 => ks.map Prod.snd
  | _ => ks.map fun p => .tup [keyOfW p.1, p.2]
/-- a cell's dict that may still change -/
def dFlag (pg : Pg) (g : Gm) (env : Env') (S : Sto) (iter : Expr) : Bool := match pathW pg g env S (walkOf iter).1 with
  | some (.ref n) => (match S[n]? with
    | some (.dct _) => true
    | _ => false)
  | _ => false
def dWalk (pg : Pg) (g : Gm) (env : Env') (S : Sto) (tg iter : Expr) : Option (List W × Sto) := match walkOf iter with
  | (p, k) => (match pathW pg g env S p with
    | some w => (match dictAt S w with
      | some (ks, S1) => if k = 2 ∧ isTupE tg = false then none else some (itemsOf ks k, S1)
      | none => none)
    | none => none)

/-- a list or a tuple of texts -/
def seqX (S : Sto) (w : W) : Option (List Str) := match (seqL S w).orElse (fun _ => seqT w) with
  | some ws => strsW ws
  | none => none
/-! ### one step deeper -/
/-- a turn of a comprehension -/
def lcStep (E : Evs) (g : Gm) (env : Env') (elt tg : Expr) (ifs : List Expr) (scope : Scope) : W → Sto → R (Option W) := fun w S => (match bindT (blkG g scope) tg w (wipeE env ((ownOf g.N tg).map (·.2))) with
        | none => .bad
        | some env1 => (match ifs with
          | [] => (noExc (E.e (blkG g scope) env1 S elt)).bind fun y S2 => .ok (some y) S2
          | [c] => (noExc (E.t (blkG g scope) env1 S c)).bind fun b S2 => (match b with
            | true => (noExc (E.e (blkG g scope) env1 S2 elt)).bind fun y S3 => .ok (some y) S3
            | false => .ok none S2)
          | _ => .bad))
/-- what a comprehension must be -/
def lcG (g : Gm) (tg iter : Expr) (ifs : List Expr) (scope : Scope) : Bool := notSet iter && blkC g.N g.sc scope (ownOf g.N tg) && tgOk (blkG g scope) tg && decide (ifs.length ≤ 1)
/-- a comprehension that walks no dict -/
def lcE (pg : Pg) (E : Evs) (g : Gm) (env : Env') (S : Sto) (fl : Bool) (elt tg iter : Expr) (ifs : List Expr) (scope : Scope) : R W :=
  guard' (lcG g tg iter ifs scope) ((evIter pg g (fun e S => E.e g env S e) tg iter S).bind fun items S1 => lcR fl (lcStep E g env elt tg ifs scope) items.2 items.1 [] S1)
def stepE (pg : Pg) (cl : Str → List W → Sto → R W) (E : Evs) (g : Gm) (env : Env') (S : Sto) (e : Expr) : R W := match e with
  | .Name x _ => nameE pg g env S x
  | .Constant c _ _ => (match c with
    | .int i => .ok (.int i) S
    | .bool b => .ok (.bl b) S
    | .none => .ok .non S
    | .str s => .ok (.str s) S
    | _ => .bad)
  | .Tuple es _ _ => (mapS (fun e S => E.e g env S e) es S).bind fun ws S1 => guard' (small ws.length) (.ok (.tup ws) S1)
  | .List es _ => (mapS (fun e S => E.e g env S e) es S).bind fun ws S1 => guard' (small ws.length) (.ok (.lst ws) S1)
  | .BinOp a op b _ => (E.e g env S a).bind fun x S1 => (E.e g env S1 b).bind fun y S2 => lift (binop S2 op x y) S2
  | .UnaryOp .Not a _ => (E.e g env S a).bind fun x S1 => (match x with
    | .bl b => .ok (.bl (!b)) S1
    | _ => .bad)
  | .UnaryOp .USub a _ => (E.e g env S a).bind fun x S1 => (match x with
    | .int i => .ok (.int (-i)) S1
    | _ => .bad)
  | .BoolOp op es _ => valR (fun e S => E.e g env S e) op es S
  | .Compare a [op] [b] _ => guard' (!behindInMarks op b) ((E.e g env S a).bind fun x S1 => (E.e g env S1 b).bind fun y S2 => (lift (cmpop S2 op x y) S2).bind fun c S3 => .ok (.bl c) S3)
  | .Compare a [op, op'] [b, c] _ => guard' (!lastMarks [op, op'] [b, c]) ((E.e g env S a).bind fun x S1 => (E.e g env S1 b).bind fun y S2 => (lift (cmpop S2 op x y) S2).bind fun d S3 => (match d with
    | false => .ok (.bl false) S3
    | true => (E.e g env S3 c).bind fun z S4 => (lift (cmpop S4 op' y z) S4).bind fun d' S5 => .ok (.bl d') S5))
  | .IfExp t a b _ => (E.t g env S t).bind fun c S1 => (match c with
    | true => E.e g env S1 a
    | false => E.e g env S1 b)
  | .Subscript a (.Slice lo hi none _) _ => (E.e g env S a).bind fun x S1 => (partR E g env S1 lo).bind fun l S2 => (partR E g env S2 hi).bind fun h S3 => lift (slS S3 x l h) S3
  | .Subscript a i _ => guard' (plainIx i) ((E.e g env S a).bind fun x S1 => (E.e g env S1 i).bind fun y S2 => lift (ixS S2 x y) S2)
  | .ListComp elt [⟨tg, iter, ifs, 0⟩] scope _ => (match dWalk pg g env S tg iter with
    | some (items, S1) => guard' (lcG g tg iter ifs scope) (noExc (lcR false (lcStep E g env elt tg ifs scope) (fun _ => true) items [] S1))
    | none => lcE pg E g env S false elt tg iter ifs scope)
  | .Dict [] [] _ => .ok (.dct []) S
  | .DictComp kx vx [⟨tg, iter, ifs, 0⟩] scope _ => guard' (notSet iter && blkC g.N g.sc scope (ownOf g.N tg) && tgOk (blkG g scope) tg && decide (ifs.length ≤ 1)) ((evIter pg g (fun e S => E.e g env S e) tg iter S).bind fun items S1 =>
      dcR (fun w S => (match bindT (blkG g scope) tg w (wipeE env ((ownOf g.N tg).map (·.2))) with
        | none => .bad
        | some env1 => (match ifs with
          | [] => (noExc (E.e (blkG g scope) env1 S kx)).bind fun k S2 => (noExc (E.e (blkG g scope) env1 S2 vx)).bind fun y S3 => .ok (some (k, y)) S3
          | [c] => (noExc (E.t (blkG g scope) env1 S c)).bind fun b S2 => (match b with
            | true => (noExc (E.e (blkG g scope) env1 S2 kx)).bind fun k S3 => (noExc (E.e (blkG g scope) env1 S3 vx)).bind fun y S4 => .ok (some (k, y)) S4
            | false => .ok none S2)
          | _ => .bad))) items.2 items.1 [] S1)
  | .Attribute o f _ => guard' (ownB o) ((E.e g env S o).bind fun x S1 => (match objS S1 x with
    | some (c, fs) => guard' (pg.fld c f) (lift (fs.lookup f) S1)
    | none => .bad))
  | .Call (.Attribute o m ap) as [] p => guard' (ownB o && as.all notStar && decide (as.length < 30) && (ap.endLine == p.line)) ((noExc (E.e g env S o)).bind fun x S1 => (match objS S1 x with
    | some (c, fs) => (match pg.mt c m with
      | some n => guard' ((fs.lookup m).isNone) ((mapR (fun e S => E.e g env S e) as S1).bind fun ws S2 => guard' (decide (ws.length = n)) (back env (cl (mName c m) (x :: ws) S2)))
      | none => .bad)
    | none => methR E g env S1 m as x))
  | .Call (.Name "isinstance" _) [a, .Name t _] [] _ => guard' (gloB g.sc "isinstance" && pg.free.contains "isinstance" && notStar a && gloB g.sc t && !odd t) ((E.e g env S a).bind fun w S1 => (match tyW S1 w with
    | some ty => (lift (pg.isi ty t) S1).bind fun b S2 => .ok (.bl b) S2
    | none => .bad))
  | .Call (.Name "isinstance" _) [a, .Tuple ts _ _] [] _ => guard' (gloB g.sc "isinstance" && pg.free.contains "isinstance" && notStar a && ts.all (isNameG g) && decide (ts.length ≤ 20)) ((E.e g env S a).bind fun w S1 => (match tyW S1 w, namesOf ts with
    | some ty, some (n1 :: ns) => (lift (isiAny pg ty (n1 :: ns)) S1).bind fun b S2 => .ok (.bl b) S2
    | _, _ => .bad))
  | .Call (.Name "len" _) [.Call (.Name "set" _) [a] [] _] [] _ => guard' (gloB g.sc "len" && gloB g.sc "set" && pg.free.contains "len" && pg.free.contains "set" && notStar a) ((E.e g env S a).bind fun w S1 => (match seqX S1 w with
    | some xs => guard' (decide (xs.length < 64)) (.ok (.int (cntS xs xs.length : Nat)) S1)
    | none => .bad))
  | .Call (.Name f _) (a :: as) [] _ => guard' (gloB g.sc f && !odd f && ((pg.ar f).isSome || ((pg.new f).isSome || (known f && pg.free.contains f)))) ((mapR (fun e S => E.e g env S e) (a :: as) S).bind fun ws S1 => (match pg.ar f with
    | some n => guard' (decide (ws.length = n)) (match cl f ws S1 with
      | .ok w S2 => .ok w S2
      | .exc c fs _ S2 => .exc c fs env S2
      | .bad => .bad)
    | none => (match pg.new f with
      | some (n, fz) => guard' (decide (ws.length = n)) (mkR env S1.length f fz (cl (mName f "__init__") (.ref S1.length :: ws) (S1 ++ [SO.ins f []])))
      | none => lift (bcall S1 f ws) S1)))
  | .Call (.Name f _) [] [] _ => guard' (gloB g.sc f && !odd f) (match pg.ar f with
    | some n => guard' (decide (0 = n)) (back env (cl f [] S))
    | none => (match pg.new f with
      | some (n, fz) => guard' (decide (0 = n)) (mkR env S.length f fz (cl (mName f "__init__") [.ref S.length] (S ++ [SO.ins f []])))
      | none => .bad))
  | _ => .bad
where
  partR (E : Evs) (g : Gm) (env : Env') (S : Sto) (o : Option Expr) : R (Option Int) := match o with
    | none => .ok none S
    | some e => (E.e g env S e).bind fun w S1 => (match w with
      | .int i => .ok (some i) S1
      | _ => .bad)
def plainT : Expr → Bool
  | .BoolOp .. => false
  | .IfExp .. => false
  | .Compare .. => false
  | .UnaryOp .Not _ _ => false
  | _ => true
def stepT (E : Evs) (g : Gm) (env : Env') (S : Sto) (e : Expr) : R Bool := match e with
  | .UnaryOp .Not a _ => (E.t g env S a).bind fun b S1 => .ok (!b) S1
  | .BoolOp op es _ => allR (fun e S => E.t g env S e) op es S
  | .Compare a [op] [b] _ => guard' (!behindInMarks op b) ((E.e g env S a).bind fun x S1 => (E.e g env S1 b).bind fun y S2 => lift (cmpop S2 op x y) S2)
  | .Compare a [op, op'] [b, c] _ => guard' (!lastMarks [op, op'] [b, c]) ((E.e g env S a).bind fun x S1 => (E.e g env S1 b).bind fun y S2 => (lift (cmpop S2 op x y) S2).bind fun d S3 => (match d with
    | false => .ok false S3
    | true => (E.e g env S3 c).bind fun z S4 => lift (cmpop S4 op' y z) S4))
  | e => guard' (plainT e) ((E.e g env S e).bind fun w S1 => lift (truth S1 w) S1)
def isComp : Expr → Bool
  | .ListComp .. => true
  | .SetComp .. => true
  | .DictComp .. => true
  | _ => false
def isTup : Expr → Bool
  | .Tuple .. => true
  | _ => false
def nextN (g : Gm) (x : Str) (w : W) (env : Env') (S : Sto) : R Out' := match bindN g x w env with
  | some env1 => .ok (.next env1) S
  | none => .bad
/-! ### what an except clause hands back: n the caught exception, of class c, with attributes fs -/
mutual
def suE (pg : Pg) (g : Gm) (n c : Str) (fs : List (Str × W)) : Nat → Expr → Option W
  | 0, _ => none
  | k + 1, e => match e with
    | .Constant v _ _ => (match v with
      | .int i => some (.int i)
      | .bool b => some (.bl b)
      | .none => some .non
      | .str s => some (.str s)
      | _ => none)
    | .Attribute (.Name y _) f _ => if y = n ∧ pg.exf c f = true then fs.lookup f else none
    | .Tuple es _ _ => (match es.all notStar, suEs pg g n c fs k es with
      | true, some ws => if small ws.length then some (.tup ws) else none
      | _, _ => none)
    | .IfExp t a b _ => (match suT pg g n c t with
      | some true => suE pg g n c fs k a
      | some false => suE pg g n c fs k b
      | none => none)
    | _ => none
def suEs (pg : Pg) (g : Gm) (n c : Str) (fs : List (Str × W)) : Nat → List Expr → Option (List W)
  | 0, _ => none
  | _ + 1, [] => some []
  | k + 1, e :: es => match suE pg g n c fs k e, suEs pg g n c fs k es with
    | some w, some ws => some (w :: ws)
    | _, _ => none
def suT (pg : Pg) (g : Gm) (n c : Str) : Expr → Option Bool
  | .Call (.Name f _) [.Name y _, .Name t _] [] _ => if f = "isinstance" ∧ y = n ∧ gloB g.sc f = true ∧ pg.free.contains f = true ∧ gloB g.sc t = true ∧ odd t = false then pg.exi c t else none
  | _ => none
end
/-- the slot of a name that is local here -/
def hdOk (pg : Pg) (g : Gm) : ExceptHandler → Bool
  | .ExceptHandler (some (.Name x _)) (some n) [.Return (some _) _] _ => gloB g.sc x && !odd x && pg.exk x && (slotOf g.N n).isSome && (g.sc.names.lookup n == some .local) && !odd n
  | _ => false
def hdR (pg : Pg) (g : Gm) (c : Str) (fs : List (Str × W)) (env : Env') (S : Sto) : List ExceptHandler → R Out'
  | [] => .exc c fs env S
  | .ExceptHandler (some (.Name x _)) (some n) [.Return (some e) _] _ :: r => (match pg.exm c x with
    | some true => guard' (decide ((slotOf g.N n).getD 0 < env.length)) ((lift (suE pg g n c fs 50 e) S).bind fun w S1 => .ok (.ret w) S1)
    | some false => hdR pg g c fs env S r
    | none => .bad)
  | _ => .bad
def tryR (pg : Pg) (g : Gm) (hds : List ExceptHandler) (r : R Out') : R Out' := match r with
  | .ok o S => .ok o S
  | .exc c fs env S => hdR pg g c fs env S hds
  | .bad => .bad
/-- a value; a display that becomes a cell where fl says so -/
def valC (E : Evs) (g : Gm) (env : Env') (S : Sto) (fl : Bool) (e : Expr) : R W := match fl, e with
  | true, .List es _ => (mapS (fun e S => E.e g env S e) es S).bind fun ws S1 => guard' (small ws.length) (.ok (.ref S1.length) (S1 ++ [SO.lst ws]))
  | true, .Dict [] [] _ => .ok (.ref S.length) (S ++ [SO.dct []])
  | true, .BinOp a .Add b _ => (E.e g env S a).bind fun x S1 => (E.e g env S1 b).bind fun y S2 => (match lstE S2 x, lstE S2 y with
    | some xs, some ys => guard' (small (xs.length + ys.length)) (.ok (.ref S2.length) (S2 ++ [SO.lst (xs ++ ys)]))
    | _, _ => lift (binop S2 .Add x y) S2)
  | _, e => E.e g env S e
/-- names that are stored from the right -/
def swB (g : Gm) (ts : List (Str × Pos)) (vs : List Expr) : Bool :=
  ((if g.sc.kind.isAnnotationScope then ScopeKind.function else g.sc.kind) == .function) && ts.all (fun t => (g.sc.names.lookup t.1 == some .local) && (t.2.line == ((ts.head?.map (·.2.line)).getD 0)) && (slotOf g.N t.1).isSome) && (decide ((ts.map Prod.fst).Nodup) && decide ((ts.map Prod.fst).eraseDups.length = (ts.map Prod.fst).length)) && vs.all notStar && !(vs.all (foldedForSure 8)) && !(vs.all (constantsAlone 8))
def stepS (pg : Pg) (cl : Str → List W → Sto → R W) (E : Evs) (g : Gm) (env : Env') (S : Sto) (st : Stmt) : R Out' := match st with
  | .Return (some e) _ => (valC E g env S (g.muts.contains "return") e).bind fun w S1 => .ok (.ret w) S1
  | .Return none _ => .ok (.ret .non) S
  | .Pass _ => .ok (.next env) S
  | .Break _ => .ok (.brk env) S
  | .Continue _ => .ok (.cont env) S
  | .Expr e _ => guard' (!isComp e) ((E.e g env S e).bind fun _ S1 => .ok (.next env) S1)
  | .If c a b _ => (E.t g env S c).bind fun d S1 => (match d with
    | true => seqR (fun env S s => E.s g env S s) a env S1
    | false => seqR (fun env S s => E.s g env S s) b env S1)
  | .Assign [.Name x p] e _ => guard' (nameOk g (.Name x p)) (match e with
    | .ListComp elt [⟨tg, iter, ifs, 0⟩] sc q => (lcE pg E g env S (g.muts.contains x) elt tg iter ifs sc).bind fun w S1 => nextN g x w env S1
    | e => guard' (!isComp e) ((valC E g env S (g.muts.contains x) e).bind fun w S1 => nextN g x w env S1))
  | .Assign [.Attribute o x _] e _ => ((valC E g env S (g.muts.contains ("." ++ x)) e).bind fun y S1 => (E.e g env S1 o).bind fun z S2 => (match z with
    | .ref n => (match S2[n]? with
      | some (.ins c fs) => guard' (pg.fld c x && decide (fs.length < 1000)) (.ok (.next env) (S2.set n (SO.ins c (putW x y fs))))
      | _ => .bad)
    | _ => .bad))
  | .Assign [.Subscript o i _] e _ => guard' (!isComp e && plainIx i) ((valC E g env S (g.muts.contains "[]") e).bind fun y S1 => (E.e g env S1 o).bind fun x S2 => (E.e g env S2 i).bind fun k S3 => (match x with
    | .ref n => (match S3[n]? with
      | some (.lst ws) => (match k with
        | .int j => (match ixN ws.length j with
          | some j => .ok (.next env) (S3.set n (SO.lst (ws.set j y)))
          | none => .bad)
        | _ => .bad)
      | some (.dct ks) => (match keyW k with
        | some k => guard' (small (ks.length + 1)) (.ok (.next env) (S3.set n (SO.dct (storeK ks k y))))
        | none => .bad)
      | _ => .bad)
    | _ => .bad))
  | .Assign [.Tuple [.Name x px, .Name y py] _ _] (.Tuple [a, b] _ _) _ => guard' (swB g [(x, px), (y, py)] [a, b]) ((valC E g env S (g.muts.contains x) a).bind fun v S1 => (valC E g env S1 (g.muts.contains y) b).bind fun w S2 => .ok (.next ((env.set ((slotOf g.N x).getD 0) (some v)).set ((slotOf g.N y).getD 0) (some w))) S2)
  | .Assign [.Tuple [.Name x px, .Name y py, .Name z pz] _ _] (.Tuple [a, b, c] _ _) _ => guard' (swB g [(x, px), (y, py), (z, pz)] [a, b, c]) ((valC E g env S (g.muts.contains x) a).bind fun u S1 => (valC E g env S1 (g.muts.contains y) b).bind fun v S2 => (valC E g env S2 (g.muts.contains z) c).bind fun w S3 =>
      .ok (.next (((env.set ((slotOf g.N x).getD 0) (some u)).set ((slotOf g.N y).getD 0) (some v)).set ((slotOf g.N z).getD 0) (some w))) S3)
  | .Assign [.Tuple es k p] e _ => guard' (!isTup e && !isComp e && tgOk g (.Tuple es k p)) ((E.e g env S e).bind fun w S1 => (match bindT g (.Tuple es k p) w env with
    | some env1 => .ok (.next env1) S1
    | none => .bad))
  | .AugAssign (.Name x p) .Add e _ => guard' (nameOk g (.Name x p)) (match env[(slotOf g.N x).getD 0]? with
    | some (some (.int a)) => (E.e g env S e).bind fun w S1 => (match w with
      | .int b => nextN g x (.int (a + b)) env S1
      | _ => .bad)
    | some (some (.ref n)) => (E.e g env S e).bind fun w S1 => (match S1[n]?, lstE S1 w with
      | some (.lst xs), some ys => guard' (small (xs.length + ys.length)) (nextN g x (.ref n) env (S1.set n (SO.lst (xs ++ ys))))
      | _, _ => .bad)
    | _ => .bad)
  | .AugAssign (.Subscript o i _) .Add e _ => guard' (plainIx i) ((E.e g env S o).bind fun x S1 => (E.e g env S1 i).bind fun y S2 => (match x, y with
    | .ref n, .int k => (match S2[n]? with
      | some (.lst ws) => (match decide (0 ≤ k ∧ k < 2 ^ 62), ws[k.toNat]? with
        | true, some (.int a) => (E.e g env S2 e).bind fun w S3 => (match w, S3[n]? with
          | .int b, some (.lst ws') => guard' (decide (k.toNat < ws'.length)) (.ok (.next env) (S3.set n (SO.lst (ws'.set k.toNat (.int (a + b))))))
          | _, _ => .bad)
        | _, _ => .bad)
      | _ => .bad)
    | _, _ => .bad))
  | .Raise (some (.Call (.Name c _) (a :: as) [] _)) none _ => guard' (gloB g.sc c && !odd c) (match pg.xc c with
    | some ns => (mapR (fun e S => E.e g env S e) (a :: as) S).bind fun ws S1 => guard' (decide (ws.length = ns.length) && decide (ws.length ≤ 1000)) (.exc c (ns.zip ws).reverse env S1)
    | none => .bad)
  | .Try body (h0 :: hds) [] [] _ => guard' (g.top && (h0 :: hds).all (hdOk pg g)) (tryR pg g (h0 :: hds) (seqR (fun env S s => E.s g env S s) body env S))
  | .For tg iter body [] _ => guard' (notSet iter && tgOk g tg) (match dWalk pg g env S tg iter with
    | some (items, S1) => (match dFlag pg g env S iter with
      | true => forR (fun env S => seqR (fun env S s => E.s g env S s) body env S) (bindT g tg) (fun _ => true) items env S1
      | false => noExc (forR (fun env S => seqR (fun env S s => E.s g env S s) body env S) (bindT g tg) (fun _ => true) items env S1))
    | none => (evIter pg g (fun e S => E.e g env S e) tg iter S).bind fun items S1 => forR (fun env S => seqR (fun env S s => E.s g env S s) body env S) (bindT g tg) items.2 items.1 env S1)
  | .While c body [] _ => whileR (fun env S => E.t g env S c) (fun env S => seqR (fun env S s => E.s g env S s) body env S) 100000 env S
  | _ => .bad
def ev (pg : Pg) (cl : Str → List W → Sto → R W) : Nat → Evs
  | 0 => ⟨fun _ _ _ _ => .bad, fun _ _ _ _ => .bad, fun _ _ _ _ => .bad⟩
  | n + 1 => ⟨stepE pg cl (ev pg cl n), stepT (ev pg cl n), stepS pg cl (ev pg cl n)⟩
end Mi

set_option Elab.async false
set_option linter.all false
set_option maxRecDepth 100000
set_option maxHeartbeats 4000000
/-! Mi4: what the evaluator says is what happens: words, parts. -/
noncomputable section
namespace Mi
open PySem PySem.Spec PyProof.Rows L2
variable [Gam]

/-! ### weakest words -/
section
variable {X : Cx} {e : Expr} {es : List Expr} {st : Stmt} {sts : List Stmt} {σ : L2.St} {H : Hp}
def wE (X : Cx) (e : Expr) : TE := fun σ H Q => ∀ pins s, Inv X pins σ H s → wpAny (model X.prog X.w) X.A (eval e X.env) (EP X pins σ Q) X.xe s
theorem pwE : PE X e (wE X e) := ⟨fun pins s _ _ _ I h => h pins s I⟩
theorem wE_of {t : TE} (h : PE X e t) {Q : VK} (q : t σ H Q) : wE X e σ H Q := fun pins s I => h.run pins s σ H Q I q
def wT (X : Cx) (e : Expr) : TT := fun σ H Q => ∀ pins s, Inv X pins σ H s → wpAny (model X.prog X.w) X.A (isTrue e X.env (eval e X.env)) (TP X pins σ Q) X.xe s
theorem pwT : PT X e (wT X e) := ⟨fun pins s _ _ _ I h => h pins s I⟩
theorem wT_of {t : TT} (h : PT X e t) {Q : Bool → Hp → Prop} (q : t σ H Q) : wT X e σ H Q := fun pins s I => h.run pins s σ H Q I q
def wW (X : Cx) (e : Expr) : TT := fun σ H Q => ∀ whole pins s, Inv X pins σ H s → wpAny (model X.prog X.w) X.A (isTrue e X.env whole) (TP X pins σ Q) X.xe s
theorem pwW : PW X e (wW X e) := ⟨fun wh pins s _ _ _ I h => h wh pins s I⟩
theorem wW_of {t : TT} (h : PW X e t) {Q : Bool → Hp → Prop} (q : t σ H Q) : wW X e σ H Q := fun wh pins s I => h.run wh pins s σ H Q I q
def wA (X : Cx) (es : List Expr) : TA := fun σ H Q => ∀ pos pins s, Inv X pins σ H s → wpAny (model X.prog X.w) X.A (spliced (backTo pos (starEach es X.env))) (AP X pins σ Q) X.xe s
theorem pwA : PA X es (wA X es) := ⟨fun pos pins s _ _ _ I h => h pos pins s I⟩
theorem wA_of {t : TA} (h : PA X es t) {Q : List V → Hp → Prop} (q : t σ H Q) : wA X es σ H Q := fun pos pins s I => h.run pos pins s σ H Q I q
theorem wA_mono {P P' : List V → Hp → Prop} (h : wA X es σ H P) (f : ∀ vs H, P vs H → P' vs H) : wA X es σ H P' := fun pos pins s I => thn (h pos pins s I) fun us s' ⟨vs, H', I', r, q⟩ => ⟨vs, H', I', r, f _ _ q⟩
def wS (X : Cx) (st : Stmt) : TS := fun D σ H => ∀ pins s, Inv X pins σ H s → wpAny (model X.prog X.w) X.A (exec st X.env) (SP X pins D) X.xe s
theorem pwS : PS X st (wS X st) := ⟨fun pins s _ _ _ I h => h pins s I⟩
theorem wS_of {t : TS} (h : PS X st t) {D : Ends} (q : t D σ H) : wS X st D σ H := fun pins s I => h.run pins s σ H D I q
def wSs (X : Cx) (sts : List Stmt) : TS := fun D σ H => ∀ pins s, Inv X pins σ H s → wpAny (model X.prog X.w) X.A (execs sts X.env) (SP X pins D) X.xe s
theorem pwSs : PSs X sts (wSs X sts) := ⟨fun pins s _ _ _ I h => h pins s I⟩
theorem wSs_of {t : TS} (h : PSs X sts t) {D : Ends} (q : t D σ H) : wSs X sts D σ H := fun pins s I => h.run pins s σ H D I q
end

/-! ### slots -/
structure Sl (K : PySem.W.Frag) (B : Hp) (ρ : List Addr) (σ : L2.St) (env : Env') : Prop where
  len : σ.length = env.length
  at_ : ∀ (i : Nat) (w : W), env[i]? = some (some w) → ∃ v, σ[i]? = some (some v) ∧ Rep K B ρ v w
theorem Sl.mono {K : PySem.W.Frag} {B B' H H' : Hp} {ρ ρ' : List Addr} {σ : L2.St} {env : Env'} (s : Sl K B ρ σ env) (e : Ext ρ B H ρ' B' H') : Sl K B' ρ' σ env :=
  ⟨s.len, fun i w h => by
    obtain ⟨v, h1, h2⟩ := s.at_ i w h
    exact ⟨v, h1, h2.mono e.b e.pre⟩⟩
theorem Sl.set {K : PySem.W.Frag} {B : Hp} {ρ : List Addr} {σ : L2.St} {env : Env'} (s : Sl K B ρ σ env) {v : V} {w : W} (r : Rep K B ρ v w) (i : Nat) : Sl K B ρ (σ.set i (some v)) (env.set i (some w)) := by
  refine ⟨by simp [s.len], fun j x h => ?_⟩
  by_cases hj : i = j
  · subst hj
    by_cases hi : i < env.length
    · rw [List.getElem?_set_self hi] at h
      cases h
      exact ⟨v, by rw [List.getElem?_set_self (by rw [s.len]; exact hi)], r⟩
    · rw [List.getElem?_eq_none (by simp; omega)] at h
      cases h
  · rw [List.getElem?_set_ne hj] at h
    rw [List.getElem?_set_ne hj]
    exact s.at_ j x h
theorem Sl.wipe {K : PySem.W.Frag} {B : Hp} {ρ : List Addr} {σ : L2.St} {env : Env'} (s : Sl K B ρ σ env) : ∀ vs : List Nat, Sl K B ρ (wipe σ vs) (wipeE env vs)
  | [] => s
  | v :: vs => by
    have ih := Sl.wipe s vs
    unfold L2.wipe wipeE
    refine ⟨by simp [ih.len], fun j x h => ?_⟩
    by_cases hj : v = j
    · subst hj
      by_cases hi : v < (wipeE env vs).length
      · rw [List.getElem?_set_self hi] at h
        cases h
      · rw [List.getElem?_eq_none (by simp; omega)] at h
        cases h
    · rw [List.getElem?_set_ne hj] at h
      rw [List.getElem?_set_ne hj]
      exact ih.at_ j x h

/-! ### what is let out -/
inductive RepF (K : PySem.W.Frag) (B : Hp) (ρ : List Addr) : List (Str × V) → List (Str × W) → Prop
  | nil : RepF K B ρ [] []
  | cons {x : Str} {v : V} {w : W} {fv : List (Str × V)} {fs : List (Str × W)} : Rep K B ρ v w → RepF K B ρ fv fs → RepF K B ρ ((x, v) :: fv) ((x, w) :: fs)
def ExP (K : PySem.W.Frag) (mg : Str → Option Value) (Wx : WX) : Str → List (Str × W) → Env' → List Addr → Hp → Hp → Prop := fun c fs env ρ' B' H' =>
  ∀ σ' C d fv, Sl K B' ρ' σ' env → mg c = some (.ref C) → H' d = some (.xd fv) → RepF K B' ρ' fv fs → Wx (.ref C) (some d) σ' H'
/-- what a def promises: what the evaluator's call says -/
def SpF (K : PySem.W.Frag) (mg : Str → Option Value) (cl : Str → List W → Sto → R W) (f : Str) (n : Nat) : Sp := fun vs H Q E => vs.length = n ∧ ∃ ρ S B ws, SR K ρ S B H ∧ RepL K B ρ vs ws ∧
  Hold K (cl f ws S) ρ B H (fun w S' ρ' B' H' => ∀ v, Rep K B' ρ' v w → Q v H') (fun c fs _ ρ' B' H' => ∀ C d fv, mg c = some (.ref C) → H' d = some (.xd fv) → RepF K B' ρ' fv fs → E (.ref C) (some d) H')

/-! ### where the evaluator stands -/
/-- what the __init__ of an exception promises: it keeps what it is given under the names -/
def SpI (K : PySem.W.Frag) (ns : List Str) : Sp := fun vs H Q _ => vs.length = ns.length + 1 ∧ ∃ a C us, vs = .ref a :: us ∧ OexC K C ∧ (∀ f ∈ ns, PySem.W.findIn K (.ref C) f = some none) ∧ H a = some (exo a C none) ∧
  ∀ dx, H dx = none → dx ≠ a → Q .non (upd (upd H dx (exd dx (ns.zip us).reverse)) a (exo a C (some dx)))
/-- what isinstance asks of a class -/
structure IsC (K : PySem.W.Frag) (C : Addr) : Prop where
  cl : Cls K C
  ha : PySem.W.findIn K (.ref C) "__class__" = some (some (.builtin "object.__class__"))
  hn : PySem.W.specialIn K (.builtin "object.__class__") "__get__" = some (some (.builtin "getset_descriptor.__get__"))
  htk : PySem.W.takesIn K (.builtin "object.__class__") = some true
  hm : PySem.W.mroIn K C (.type "object") = some true
/-- a type by its name -/
def TyN (K : PySem.W.Frag) (c : Str) (u : Value) : Prop := match tyB c with
  | some n => u = .type n
  | none => ∃ C, Gam.cls c = some C ∧ u = .ref C ∧ IsC K C
structure CxOk (pg : Pg) (cl : Str → List W → Sto → R W) (g : Gm) (Wx : WX) (X : Cx) : Prop where
  N : X.N = g.N
  nd : X.N.Nodup
  sc : X.env.scope = g.sc
  fn : X.fn = g.fn
  calm : X.calm = true
  un : X.A.units + 65 < cLine
  pass : PassesOwn (model X.prog X.w) X.A X.env X.xe
  tk : Takes X Wx
  cst : ∀ x w, pg.cst x = some w → ∃ u v, X.mg x = some u ∧ RelV v u ∧ ∀ B, Rep X.K B [] v w
  fns : ∀ f n, pg.ar f = some n → ∃ a fd k ps, ps.length = n ∧ FnOk X.prog X.w X.K X.mg X.base (L2.CX X.prog X.w) k a fd ps (SpF X.K X.mg cl f n) ∧ X.mg f = some (.ref a) ∧ PySem.W.keepIn X.K (.ref a) = true ∧ Binds X.K fd ps [] ∧ Room k X.A
  free : ∀ f ∈ pg.free, X.mg f = none
  flds : ∀ c f, pg.fld c f = true → ∃ C, Gam.cls c = some C ∧ Cls X.K C ∧ NoAttr X.K C f
  xcs : ∀ c ns, pg.xc c = some ns → ∃ C a fd k ps, X.mg c = some (.ref C) ∧ OexC X.K C ∧ (∀ f ∈ ns, PySem.W.findIn X.K (.ref C) f = some none) ∧ PySem.W.findIn X.K (.ref C) "__init__" = some (some (.ref a)) ∧ PySem.W.typeIn X.K (.ref a) = some (.type "function") ∧
    FnOk X.prog X.w X.K X.mg X.base (L2.CX X.prog X.w) k a fd ps (SpI X.K ns) ∧ Binds X.K fd ps [] ∧ Room (k + 1) X.A
  top : g.top = true → X.stack = X.env :: X.outer ∧ X.env.frame = some X.env.locals
  exk : ∀ x, pg.exk x = true → ∃ C, X.mg x = some (.ref C)
  exm : ∀ c x b, pg.exm c x = some b → ∃ C Cx, X.mg c = some (.ref C) ∧ X.mg x = some (.ref Cx) ∧ PySem.W.exmOne X.K (.ref C) (.ref Cx) = some b
  exf : ∀ c f, pg.exf c f = true → ∃ C, X.mg c = some (.ref C) ∧ XfC X.K C ∧ PySem.W.findIn X.K (.ref C) f = some none
  exi : ∀ c t b, pg.exi c t = some b → ∃ C cv, X.mg c = some (.ref C) ∧ ExcC X.K C ∧ PySem.W.kitOne X.K (.ref C) cv = some b ∧ ((∃ Ct, X.mg t = some (.ref Ct) ∧ cv = .ref Ct) ∨ (X.mg t = none ∧ ∃ T, bootBuiltins t = some (.type T) ∧ cv = .type T))
  isi : ∀ c t b, pg.isi c t = some b → ∃ u cv, TyN X.K c u ∧ PySem.W.kitOne X.K u cv = some b ∧ ((∃ Ct, X.mg t = some (.ref Ct) ∧ cv = .ref Ct) ∨ (X.mg t = none ∧ ∃ T, bootBuiltins t = some (.type T) ∧ cv = .type T))
  mts : ∀ c m n, pg.mt c m = some n → ∃ C a fd k ps, Gam.cls c = some C ∧ Cls X.K C ∧ Meth X.K C m a ∧ FnOk X.prog X.w X.K X.mg X.base (L2.CX X.prog X.w) k a fd ps (SpF X.K X.mg cl (mName c m) (n + 1)) ∧ Binds X.K fd ps [] ∧ Room k X.A
  news : ∀ c n fz, pg.new c = some (n, fz) → ∃ C a fd k ps, Gam.cls c = some C ∧ X.mg c = some (.ref C) ∧ Mk X.K C a ∧ FnOk X.prog X.w X.K X.mg X.base (L2.CX X.prog X.w) k a fd ps (SpF X.K X.mg cl (mName c "__init__") (n + 1)) ∧ Binds X.K fd ps [] ∧ Room (k + 1) X.A

def okE (K : PySem.W.Frag) (Q : VK) : W → Sto → List Addr → Hp → Hp → Prop := fun w _ ρ' B' H' => ∀ v, Rep K B' ρ' v w → Q v H'
def okT (Q : Bool → Hp → Prop) : Bool → Sto → List Addr → Hp → Hp → Prop := fun b _ _ _ H' => Q b H'
def okA (K : PySem.W.Frag) (Q : List V → Hp → Prop) : List W → Sto → List Addr → Hp → Hp → Prop := fun ws _ ρ' B' H' => ∀ vs, RepL K B' ρ' vs ws → Q vs H'
def okS (K : PySem.W.Frag) (D : Ends) : Out' → Sto → List Addr → Hp → Hp → Prop := fun o _ ρ' B' H' => match o with
  | .next env => ∀ σ', Sl K B' ρ' σ' env → D.nx σ' H'
  | .ret w => ∀ v, Rep K B' ρ' v w → D.rt v H'
  | .brk env => ∀ σ', Sl K B' ρ' σ' env → D.bk σ' H'
  | .cont env => ∀ σ', Sl K B' ρ' σ' env → D.ct σ' H'
/-- the evaluator is right -/
structure EvOk (pg : Pg) (cl : Str → List W → Sto → R W) (E : Evs) : Prop where
  e : ∀ {g : Gm} {Wx : WX} {X : Cx}, CxOk pg cl g Wx X → ∀ {e : Expr} {env : Env'} {S : Sto} {σ : L2.St} {ρ : List Addr} {B H : Hp} {Q : VK}, Sl X.K B ρ σ env → SR X.K ρ S B H → Hold X.K (E.e g env S e) ρ B H (okE X.K Q) (ExP X.K X.mg Wx) → wE X e σ H Q
  t : ∀ {g : Gm} {Wx : WX} {X : Cx}, CxOk pg cl g Wx X → ∀ {e : Expr} {env : Env'} {S : Sto} {σ : L2.St} {ρ : List Addr} {B H : Hp} {Q : Bool → Hp → Prop}, Sl X.K B ρ σ env → SR X.K ρ S B H → Hold X.K (E.t g env S e) ρ B H (okT Q) (ExP X.K X.mg Wx) → wT X e σ H Q
  s : ∀ {g : Gm} {Wx : WX} {X : Cx}, CxOk pg cl g Wx X → ∀ {st : Stmt} {env : Env'} {S : Sto} {σ : L2.St} {ρ : List Addr} {B H : Hp} {D : Ends}, Sl X.K B ρ σ env → SR X.K ρ S B H → Hold X.K (E.s g env S st) ρ B H (okS X.K D) (ExP X.K X.mg Wx) → wS X st D σ H

section
variable {pg : Pg} {cl : Str → List W → Sto → R W} {E : Evs} {g : Gm} {Wx : WX} {X : Cx}
/-- the next part -/
theorem EvOk.e' (h : EvOk pg cl E) (C : CxOk pg cl g Wx X) {β : Type} {e : Expr} {env : Env'} {S : Sto} {σ : L2.St} {ρ : List Addr} {B H : Hp} {Q : VK} {f : W → Sto → R β} {ok : β → Sto → List Addr → Hp → Hp → Prop} (sl : Sl X.K B ρ σ env) (sr : SR X.K ρ S B H)
    (hd : Hold X.K ((E.e g env S e).bind f) ρ B H ok (ExP X.K X.mg Wx)) (k : ∀ w S' ρ' B' H' v, Ext ρ B H ρ' B' H' → SR X.K ρ' S' B' H' → Sl X.K B' ρ' σ env → Rep X.K B' ρ' v w → Hold X.K (f w S') ρ' B' H' ok (ExP X.K X.mg Wx) → Q v H') : wE X e σ H Q :=
  h.e C sl sr (hd.bind.imp (fun w S' ρ' B' H' x s' q v r => k w S' ρ' B' H' v x s' (sl.mono x) r q) fun _ _ _ _ _ _ q => q)
theorem EvOk.t' (h : EvOk pg cl E) (C : CxOk pg cl g Wx X) {β : Type} {e : Expr} {env : Env'} {S : Sto} {σ : L2.St} {ρ : List Addr} {B H : Hp} {Q : Bool → Hp → Prop} {f : Bool → Sto → R β} {ok : β → Sto → List Addr → Hp → Hp → Prop} (sl : Sl X.K B ρ σ env) (sr : SR X.K ρ S B H)
    (hd : Hold X.K ((E.t g env S e).bind f) ρ B H ok (ExP X.K X.mg Wx)) (k : ∀ b S' ρ' B' H', Ext ρ B H ρ' B' H' → SR X.K ρ' S' B' H' → Sl X.K B' ρ' σ env → Hold X.K (f b S') ρ' B' H' ok (ExP X.K X.mg Wx) → Q b H') : wT X e σ H Q :=
  h.t C sl sr (hd.bind.imp (fun b S' ρ' B' H' x s' q => k b S' ρ' B' H' x s' (sl.mono x) q) fun _ _ _ _ _ _ q => q)
theorem Hold.here {K : PySem.W.Frag} {α : Type} {a : α} {S : Sto} {ρ : List Addr} {B H : Hp} {ok : α → Sto → List Addr → Hp → Hp → Prop} {ex : Str → List (Str × W) → Env' → List Addr → Hp → Hp → Prop} (h : Hold K (.ok a S) ρ B H ok ex) (s : SR K ρ S B H) : ok a S ρ B H := h ρ B H Ext.refl s
/-- a value at the end -/
theorem Hold.val {K : PySem.W.Frag} {w : W} {S : Sto} {ρ : List Addr} {B H : Hp} {Q : VK} {ex : Str → List (Str × W) → Env' → List Addr → Hp → Hp → Prop} (h : Hold K (.ok w S) ρ B H (okE K Q) ex) : Val K w S Q ρ B H :=
  fun ρ' B' H' v x s r => h ρ' B' H' x s v r

/-! ### rows of parts -/
theorem star_no {e : Expr} {es : List Expr} {env : Env} (h : notStar e = true) : starEach (e :: es) env = (false, eval e env) :: starEach es env := by
  cases e <;> first | rfl | cases h
theorem mapR0_ok (hE : EvOk pg cl E) (C : CxOk pg cl g Wx X) : ∀ {es : List Expr} {env : Env'} {S : Sto} {σ : L2.St} {ρ : List Addr} {B H : Hp} {Q : List V → Hp → Prop}, es.all notStar = true → Sl X.K B ρ σ env → SR X.K ρ S B H →
    Hold X.K (mapR0 (fun e S => E.e g env S e) es S) ρ B H (okA X.K Q) (ExP X.K X.mg Wx) → wA X es σ H Q
  | [], env, S, σ, ρ, B, H, Q, hs, sl, sr, h => wA_of pa_nil (h.here sr [] .nil)
  | e :: es, env, S, σ, ρ, B, H, Q, hs, sl, sr, h => by
    unfold mapR0 at h
    rw [List.all_cons, Bool.and_eq_true] at hs
    refine wA_of (pa_cons pwE pwA (star_no hs.1)) ?_
    refine hE.e' C sl sr h fun w S1 ρ1 B1 H1 v x s1 sl1 r q => ?_
    refine mapR0_ok hE C hs.2 sl1 s1 (q.bind.imp (fun ws S2 ρ2 B2 H2 x2 s2 q2 vs rs => ?_) fun _ _ _ _ _ _ z => z)
    exact q2.here s2 (v :: vs) (.cons (r.mono x2.b x2.pre) rs)
theorem mapR_ok (hE : EvOk pg cl E) (C : CxOk pg cl g Wx X) {es : List Expr} {env : Env'} {S : Sto} {σ : L2.St} {ρ : List Addr} {B H : Hp} {Q : List V → Hp → Prop} (sl : Sl X.K B ρ σ env) (sr : SR X.K ρ S B H)
    (h : Hold X.K (mapR (fun e S => E.e g env S e) es S) ρ B H (okA X.K Q) (ExP X.K X.mg Wx)) : wA X es σ H Q :=
  let ⟨h1, h2⟩ := h.grd
  mapR0_ok hE C h1 sl sr h2
theorem mapR_stars {K : PySem.W.Frag} {β : Type} {f : Expr → Sto → R W} {es : List Expr} {S : Sto} {k : List W → Sto → R β} {ρ : List Addr} {B H : Hp} {ok : β → Sto → List Addr → Hp → Hp → Prop} {ex : Str → List (Str × W) → Env' → List Addr → Hp → Hp → Prop}
    (h : Hold K ((mapR f es S).bind k) ρ B H ok ex) : ∀ e ∈ es, notStar e = true := by
  have q := h.bind.grd.1
  exact List.all_eq_true.mp q
theorem mapR_bind (hE : EvOk pg cl E) (C : CxOk pg cl g Wx X) {β : Type} {es : List Expr} {env : Env'} {S : Sto} {σ : L2.St} {ρ : List Addr} {B H : Hp} {Q : List V → Hp → Prop} {f : List W → Sto → R β} {ok : β → Sto → List Addr → Hp → Hp → Prop} (sl : Sl X.K B ρ σ env) (sr : SR X.K ρ S B H)
    (hd : Hold X.K ((mapR (fun e S => E.e g env S e) es S).bind f) ρ B H ok (ExP X.K X.mg Wx)) (k : ∀ ws S' ρ' B' H' vs, Ext ρ B H ρ' B' H' → SR X.K ρ' S' B' H' → Sl X.K B' ρ' σ env → RepL X.K B' ρ' vs ws → Hold X.K (f ws S') ρ' B' H' ok (ExP X.K X.mg Wx) → Q vs H') : wA X es σ H Q :=
  mapR_ok hE C sl sr (hd.bind.imp (fun ws S' ρ' B' H' x s' q vs r => k ws S' ρ' B' H' vs x s' (sl.mono x) r q) fun _ _ _ _ _ _ q => q)
theorem allR_ok (hE : EvOk pg cl E) (C : CxOk pg cl g Wx X) {op : BoolOp} {pos : Pos} : ∀ {es : List Expr} {env : Env'} {S : Sto} {σ : L2.St} {ρ : List Addr} {B H : Hp} {Q : Bool → Hp → Prop}, Sl X.K B ρ σ env → SR X.K ρ S B H →
    Hold X.K (allR (fun e S => E.t g env S e) op es S) ρ B H (okT Q) (ExP X.K X.mg Wx) → wW X (.BoolOp op es pos) σ H Q
  | [], env, S, σ, ρ, B, H, Q, sl, sr, h => h.elim
  | [a], env, S, σ, ρ, B, H, Q, sl, sr, h => by
    cases op with
    | And => exact wW_of (pw_and1 pwT) (hE.t C sl sr h)
    | Or => exact wW_of (pw_or1 pwT) (hE.t C sl sr h)
  | a :: b :: r, env, S, σ, ρ, B, H, Q, sl, sr, h => by
    unfold allR at h
    cases op with
    | And =>
      refine wW_of (pw_and pwT pwW) (hE.t' C sl sr h fun c S1 ρ1 B1 H1 x s1 sl1 q => ?_)
      cases c with
      | true => exact iteT (allR_ok hE C sl1 s1 q)
      | false => exact iteF (q.here s1)
    | Or =>
      refine wW_of (pw_or pwT pwW) (hE.t' C sl sr h fun c S1 ρ1 B1 H1 x s1 sl1 q => ?_)
      cases c with
      | true => exact iteT (q.here s1)
      | false => exact iteF (allR_ok hE C sl1 s1 q)
theorem valR_ok (hE : EvOk pg cl E) (C : CxOk pg cl g Wx X) {op : BoolOp} {pos : Pos} : ∀ {es : List Expr} {env : Env'} {S : Sto} {σ : L2.St} {ρ : List Addr} {B H : Hp} {Q : VK}, Sl X.K B ρ σ env → SR X.K ρ S B H →
    Hold X.K (valR (fun e S => E.e g env S e) op es S) ρ B H (okE X.K Q) (ExP X.K X.mg Wx) → wE X (.BoolOp op es pos) σ H Q
  | [], env, S, σ, ρ, B, H, Q, sl, sr, h => h.elim
  | [a], env, S, σ, ρ, B, H, Q, sl, sr, h => wE_of (pe_one pwE) (hE.e C sl sr h)
  | a :: b :: r, env, S, σ, ρ, B, H, Q, sl, sr, h => by
    unfold valR at h
    cases op with
    | And =>
      refine wE_of (pe_and pwE pwE) (hE.e' C sl sr h fun w S1 ρ1 B1 H1 v x s1 sl1 rv q => ?_)
      cases w with
      | bl c =>
        cases rv
        refine ⟨c, rfl, ?_⟩
        cases c with
        | true => exact iteT (valR_ok hE C sl1 s1 q)
        | false => exact iteF (q.here s1 _ (.bl _))
      | _ => exact q.elim
    | Or =>
      refine wE_of (pe_or pwE pwE) (hE.e' C sl sr h fun w S1 ρ1 B1 H1 v x s1 sl1 rv q => ?_)
      cases w with
      | bl c =>
        cases rv
        refine ⟨c, rfl, ?_⟩
        cases c with
        | true => exact iteT (q.here s1 _ (.bl _))
        | false => exact iteF (valR_ok hE C sl1 s1 q)
      | _ => exact q.elim
theorem seqR_ok (hE : EvOk pg cl E) (C : CxOk pg cl g Wx X) : ∀ {sts : List Stmt} {env : Env'} {S : Sto} {σ : L2.St} {ρ : List Addr} {B H : Hp} {D : Ends}, Sl X.K B ρ σ env → SR X.K ρ S B H →
    Hold X.K (seqR (fun env S s => E.s g env S s) sts env S) ρ B H (okS X.K D) (ExP X.K X.mg Wx) → wSs X sts D σ H
  | [], env, S, σ, ρ, B, H, D, sl, sr, h => wSs_of pss_nil (h.here sr σ sl)
  | s :: r, env, S, σ, ρ, B, H, D, sl, sr, h => by
    unfold seqR at h
    refine wSs_of (pss_cons pwS pwSs) ?_
    refine hE.s C sl sr (h.bind.imp (fun o S1 ρ1 B1 H1 x s1 q => ?_) fun _ _ _ _ _ _ z => z)
    cases o with
    | next env1 => exact fun σ' sl' => seqR_ok hE C sl' s1 q
    | ret w => exact q.here s1
    | brk env1 => exact q.here s1
    | cont env1 => exact q.here s1
end
/-! ### displays -/
section
variable {pg : Pg} {cl : Str → List W → Sto → R W} {E : Evs} {g : Gm} {Wx : WX} {X : Cx}
theorem mapS_ok (hE : EvOk pg cl E) (C : CxOk pg cl g Wx X) : ∀ {es : List Expr} {env : Env'} {S : Sto} {σ : L2.St} {ρ : List Addr} {B H : Hp} {Q : List V → Hp → Prop}, Sl X.K B ρ σ env → SR X.K ρ S B H →
    Hold X.K (mapS (fun e S => E.e g env S e) es S) ρ B H (okA X.K Q) (ExP X.K X.mg Wx) → wA X es σ H Q
  | [], env, S, σ, ρ, B, H, Q, sl, sr, h => wA_of pa_nil (h.here sr [] .nil)
  | e :: es, env, S, σ, ρ, B, H, Q, sl, sr, h => by
    have plain : notStar e = true → Hold X.K ((E.e g env S e).bind fun w S1 => (mapS (fun e S => E.e g env S e) es S1).bind fun ws S2 => .ok (w :: ws) S2) ρ B H (okA X.K Q) (ExP X.K X.mg Wx) → wA X (e :: es) σ H Q := fun ns h => by
      refine wA_of (pa_cons pwE pwA (star_no ns)) (hE.e' C sl sr h fun w S1 ρ1 B1 H1 v x s1 sl1 r k => ?_)
      refine (show wA X es σ H1 _ from mapS_ok hE C sl1 s1 (k.bind.imp (fun ws S2 ρ2 B2 H2 x2 s2 k2 vs rs => ?_) fun _ _ _ _ _ _ z => z))
      exact k2.here s2 _ (.cons (r.mono x2.b x2.pre) rs)
    cases e with
    | Starred e p =>
      have h' : Hold X.K ((E.e g env S e).bind fun w S1 => (match (seqL S1 w).orElse (fun _ => seqT w) with
        | some xs => (mapS (fun e S => E.e g env S e) es S1).bind fun ws S2 => .ok (xs ++ ws) S2
        | none => .bad)) ρ B H (okA X.K Q) (ExP X.K X.mg Wx) := h
      refine wA_of (StX.pa_star pwE pwA) (hE.e' C sl sr h' fun w S1 ρ1 B1 H1 v x s1 sl1 r k => ?_)
      cases q : (seqL S1 w).orElse (fun _ => seqT w) with
      | none => rw [q] at k; exact k.elim
      | some xs =>
        rw [q] at k
        have both : ∃ p vs, v = .ref p ∧ (SqT X.K H1 p vs ∨ SqL X.K H1 p vs) ∧ RepL X.K B1 ρ1 vs xs := by
          cases q1 : seqL S1 w with
          | some ys =>
            rw [q1] at q
            cases q
            obtain ⟨p, vs, e1, e2, e3⟩ := seqL_ok s1 r q1
            exact ⟨p, vs, e1, .inr e2, e3⟩
          | none =>
            rw [q1] at q
            obtain ⟨p, vs, e1, e2, e3⟩ := seqT_ok s1 r (show seqT w = some xs from q)
            exact ⟨p, vs, e1, .inl e2, e3⟩
        obtain ⟨p, vs, rfl, hs, rs⟩ := both
        refine ⟨p, vs, rfl, hs, (show wA X es σ H1 _ from mapS_ok hE C sl1 s1 (k.bind.imp (fun ws S2 ρ2 B2 H2 x2 s2 k2 us ru => ?_) fun _ _ _ _ _ _ z => z))⟩
        exact k2.here s2 _ ((rs.mono x2.b x2.pre).append ru)
    | _ => exact plain rfl h
theorem mapS_bind (hE : EvOk pg cl E) (C : CxOk pg cl g Wx X) {β : Type} {es : List Expr} {env : Env'} {S : Sto} {σ : L2.St} {ρ : List Addr} {B H : Hp} {Q : List V → Hp → Prop} {f : List W → Sto → R β} {ok : β → Sto → List Addr → Hp → Hp → Prop} (sl : Sl X.K B ρ σ env) (sr : SR X.K ρ S B H)
    (hd : Hold X.K ((mapS (fun e S => E.e g env S e) es S).bind f) ρ B H ok (ExP X.K X.mg Wx)) (k : ∀ ws S' ρ' B' H' vs, Ext ρ B H ρ' B' H' → SR X.K ρ' S' B' H' → Sl X.K B' ρ' σ env → RepL X.K B' ρ' vs ws → Hold X.K (f ws S') ρ' B' H' ok (ExP X.K X.mg Wx) → Q vs H') : wA X es σ H Q :=
  mapS_ok hE C sl sr (hd.bind.imp (fun ws S' ρ' B' H' x s' q vs r => k ws S' ρ' B' H' vs x s' (sl.mono x) r q) fun _ _ _ _ _ _ q => q)
end
/-! ### a frame is left -/
section
variable {K : PySem.W.Frag} {ρ : List Addr} {S : Sto} {B H : Hp} {n0 : Nat}
/-- the cells of this frame, never to change -/
def addB (B H : Hp) (m : List Addr) : Hp := fun a => if a ∈ m then H a else B a
theorem addB_in {m : List Addr} {a : Addr} (h : a ∈ m) : addB B H m a = H a := if_pos h
theorem addB_out {m : List Addr} {a : Addr} (h : a ∉ m) : addB B H m a = B a := if_neg h
theorem addB_same (s : SR K ρ S B H) : Same B (addB B H (ρ.drop n0)) := fun a o h => by
  by_cases hm : a ∈ ρ.drop n0
  · rw [addB_in hm]
    exact s.same a o h
  · rw [addB_out hm]
    exact h
theorem zip_obj {κ : Type} {fv : List (κ × V)} {fs : List (κ × W)} {xs : List W} {K' : PySem.W.Frag} {B' : Hp} {ρ' : List Addr} (e0 : fv.map Prod.fst = fs.map Prod.fst) (z : RepL K' B' ρ' (fv.map Prod.snd) xs) :
    fv.map Prod.fst = (((fs.map Prod.fst).zip xs) : List (κ × W)).map Prod.fst ∧ RepL K' B' ρ' (fv.map Prod.snd) ((((fs.map Prod.fst).zip xs) : List (κ × W)).map Prod.snd) := by
  have l1 := z.length
  have l2 := congrArg List.length e0
  simp only [List.length_map] at l1 l2
  have l3 : (fs.map Prod.fst).length = xs.length := by rw [List.length_map]; omega
  rw [List.map_fst_zip (by omega), List.map_snd_zip (by omega)]
  exact ⟨e0, z⟩
mutual
theorem frzW_ok (s : SR K ρ S B H) : ∀ {f : Nat} {v : V} {w w' : W}, Rep K B ρ v w → frzW S n0 f w = some w' → Rep K (addB B H (ρ.drop n0)) (ρ.take n0) v w'
  | 0, _, _, _, _, e => by cases e
  | f + 1, _, _, _, .non, e => by cases e; exact .non
  | f + 1, _, _, _, .bl b, e => by cases e; exact .bl b
  | f + 1, _, _, _, .int b, e => by cases e; exact .int b
  | f + 1, _, _, _, .str b, e => by cases e; exact .str b
  | f + 1, _, .tup ws, w', .tup h r, e => by
    unfold frzW at e
    cases q : frzs S n0 f ws with
    | none => simp only [q] at e; cases e
    | some xs =>
      simp only [q] at e
      cases e
      exact .tup (Same.tup (addB_same s) h) (frzs_ok s r q)
  | f + 1, _, .lst ws, w', .lst h r, e => by
    unfold frzW at e
    cases q : frzs S n0 f ws with
    | none => simp only [q] at e; cases e
    | some xs =>
      simp only [q] at e
      cases e
      exact .lst (addB_same s _ _ h) (frzs_ok s r q)
  | f + 1, _, .frl ws, w', .frl h r fl, e => by
    unfold frzW at e
    cases e
    exact .frl ((addB_same s).seq h) (r.flatAny fl) fl
  | f + 1, _, .obj c fs, w', .obj hc h e0 r, e => by
    unfold frzW at e
    cases q : frzs S n0 f (fs.map Prod.snd) with
    | none => simp only [q] at e; cases e
    | some xs =>
      simp only [q] at e
      cases e
      obtain ⟨z1, z2⟩ := zip_obj e0 (frzs_ok s r q)
      exact .obj hc (addB_same s _ _ h) z1 z2
  | f + 1, _, .dct fs, w', .dct h e0 r, e => by
    unfold frzW at e
    cases q : frzs S n0 f (fs.map Prod.snd) with
    | none => simp only [q] at e; cases e
    | some xs =>
      simp only [q] at e
      cases e
      obtain ⟨z1, z2⟩ := zip_obj e0 (frzs_ok s r q)
      exact .dct (Same.rd (addB_same s) h) z1 z2
  | f + 1, .ref a, .ref n, w', .ref h, e => by
    unfold frzW at e
    by_cases hn : n < n0
    · simp only [if_pos hn] at e
      cases e
      exact .ref (by rw [List.getElem?_take_of_lt hn]; exact h)
    · simp only [if_neg hn] at e
      cases q : S[n]? with
      | none => simp only [q] at e; cases e
      | some o =>
        simp only [q] at e
        cases o with
        | lst ws =>
          cases q2 : frzs S n0 f ws with
          | none => simp only [q2] at e; cases e
          | some xs =>
            simp only [q2] at e
            cases e
            obtain ⟨u, hu, ro⟩ := s.at h q
            cases ro with
            | lst rr =>
              have hm : a ∈ ρ.drop n0 := by
                refine List.mem_of_getElem? (i := n - n0) ?_
                rw [List.getElem?_drop, Nat.add_sub_cancel' (Nat.le_of_not_lt hn)]
                exact h
              exact .lst (by rw [addB_in hm]; exact hu) (frzs_ok s rr q2)
        | ins c fs =>
          cases q2 : frzs S n0 f (fs.map Prod.snd) with
          | none => simp only [q2] at e; cases e
          | some xs =>
            simp only [q2] at e
            cases e
            obtain ⟨u, hu, ro⟩ := s.at h q
            cases ro with
            | ins hc e0 rr =>
              have hm : a ∈ ρ.drop n0 := by
                refine List.mem_of_getElem? (i := n - n0) ?_
                rw [List.getElem?_drop, Nat.add_sub_cancel' (Nat.le_of_not_lt hn)]
                exact h
              obtain ⟨z1, z2⟩ := zip_obj e0 (frzs_ok s rr q2)
              exact .obj hc (by rw [addB_in hm]; exact hu) z1 z2
        | dct fs =>
          cases q2 : frzs S n0 f (fs.map Prod.snd) with
          | none => simp only [q2] at e; cases e
          | some xs =>
            simp only [q2] at e
            cases e
            obtain ⟨u, hu, ro⟩ := s.at h q
            cases ro with
            | dct e0 rr =>
              have hm : a ∈ ρ.drop n0 := by
                refine List.mem_of_getElem? (i := n - n0) ?_
                rw [List.getElem?_drop, Nat.add_sub_cancel' (Nat.le_of_not_lt hn)]
                exact h
              obtain ⟨z1, z2⟩ := zip_obj e0 (frzs_ok s rr q2)
              exact .dct (.inl (by rw [addB_in hm]; exact hu)) z1 z2
        | imd fs =>
          cases q2 : frzs S n0 f (fs.map Prod.snd) with
          | none => simp only [q2] at e; cases e
          | some xs =>
            simp only [q2] at e
            cases e
            obtain ⟨kv, h1, e0, rr⟩ := s.cell n a _ h q
            obtain ⟨z1, z2⟩ := zip_obj e0 (frzs_ok s rr q2)
            exact .dct (Same.rd (addB_same s) h1) z1 z2
theorem frzs_ok (s : SR K ρ S B H) : ∀ {f : Nat} {vs : List V} {ws ws' : List W}, RepL K B ρ vs ws → frzs S n0 f ws = some ws' → RepL K (addB B H (ρ.drop n0)) (ρ.take n0) vs ws'
  | 0, _, _, _, _, e => by cases e
  | f + 1, _, [], _, .nil, e => by cases e; exact .nil
  | f + 1, _, w :: ws, _, .cons r t, e => by
    unfold frzs at e
    cases q1 : frzW S n0 f w with
    | none => simp only [q1] at e; cases e
    | some x =>
      cases q2 : frzs S n0 f ws with
      | none => simp only [q1, q2] at e; cases e
      | some xs =>
        simp only [q1, q2] at e
        cases e
        exact .cons (frzW_ok s r q1) (frzs_ok s t q2)
end
theorem frzS_get {S0 : Sto} {n0 : Nat} : ∀ {l l' : List SO}, frzS S0 n0 l = some l' → l'.length = l.length ∧ ∀ (i : Nat) (o' : SO), l'[i]? = some o' → ∃ o : SO, l[i]? = some o ∧ frzO S0 n0 o = some o'
  | [], l', e => by cases e; exact ⟨rfl, fun i o' h => by simp at h⟩
  | o :: r, l', e => by
    unfold frzS at e
    cases q1 : frzO S0 n0 o with
    | none => simp only [q1] at e; cases e
    | some x =>
      cases q2 : frzS S0 n0 r with
      | none => simp only [q1, q2] at e; cases e
      | some xs =>
        simp only [q1, q2] at e
        cases e
        obtain ⟨h1, h2⟩ := frzS_get q2
        refine ⟨by simp [h1], fun i o' h => ?_⟩
        cases i with
        | zero =>
          have z : x = o' := by simpa using h
          exact ⟨o, by simp, by rw [q1, z]⟩
        | succ i =>
          obtain ⟨o2, h3, h4⟩ := h2 i o' (by simpa using h)
          exact ⟨o2, by simpa using h3, h4⟩
/-- a frame is left -/
theorem exitW_ok {w : W} {Q : VK} {ρ0 : List Addr} {B0 H0 : Hp} {v : V} {ex : Str → List (Str × W) → Env' → List Addr → Hp → Hp → Prop} (x : Ext ρ0 B0 H0 ρ B H) (s : SR K ρ S B H) (r : Rep K B ρ v w) (hn : ρ0.length = n0)
    (h : Hold K (exitW n0 w S) ρ0 B0 H0 (okE K Q) ex) : Q v H := by
  unfold exitW at h
  split at h
  · exact h ρ B H x s v r
  · cases q1 : frzW S n0 100000 w with
    | none => simp only [q1] at h; exact h.elim
    | some w' =>
      cases q2 : frzS S n0 (S.take n0) with
      | none => simp only [q1, q2] at h; exact h.elim
      | some S' =>
        simp only [q1, q2] at h
        obtain ⟨m, hp, hm⟩ := x.p
        have ht : ρ.take n0 = ρ0 := by rw [hp, ← hn]; simp
        have hd : ρ.drop n0 = m := by rw [hp, ← hn]; simp
        have r' := frzW_ok s r q1
        obtain ⟨l1, l2⟩ := frzS_get q2
        have hle : n0 ≤ S.length := by rw [← s.len, hp, ← hn]; simp
        refine h ρ0 (addB B H (ρ.drop n0)) H ⟨x.b.trans (addB_same s), ⟨[], by simp, fun a h => by simp at h⟩, x.frame, x.there, fun a o ha hr hb => ?_⟩ ⟨fun a o ha => ?_, ?_, ?_, fun i a o e1 e2 => ?_⟩ v ?_
        · rw [addB_out (fun z => by
            rw [hd] at z
            rw [hm a z] at ha
            cases ha)]
          exact x.new a o ha hr hb
        · by_cases z : a ∈ ρ.drop n0
          · rw [addB_in z] at ha
            exact ha
          · rw [addB_out z] at ha
            exact s.same a o ha
        · rw [l1, List.length_take, hn]
          omega
        · have z := s.nd
          rw [hp] at z
          exact (List.nodup_append.mp z).1
        · obtain ⟨o1, h1, h2⟩ := l2 i o e2
          have hi : i < n0 := by rw [← hn]; exact (List.getElem?_eq_some_iff.mp e1).1
          rw [List.getElem?_take_of_lt hi] at h1
          have e3 : ρ[i]? = some a := by rw [hp]; rw [List.getElem?_append_left (by rw [hn]; exact hi)]; exact e1
          have na : a ∉ ρ.drop n0 := fun z => by
            have nd := s.nd
            rw [hp] at nd
            rw [hd] at z
            exact (List.nodup_append.mp nd).2.2 a (List.mem_of_getElem? e1) a z rfl
          have c1 := s.cell i a o1 e3 h1
          cases o1 with
          | imd fs =>
            obtain ⟨kv, h3, e0, rr⟩ := c1
            have h2 : (frzs S n0 100000 (fs.map Prod.snd)).map (fun ws => SO.imd ((fs.map Prod.fst).zip ws)) = some o := h2
            cases q3 : frzs S n0 100000 (fs.map Prod.snd) with
            | none => rw [q3] at h2; cases h2
            | some xs =>
              rw [q3] at h2
              cases h2
              have z := frzs_ok s rr q3
              rw [ht] at z
              obtain ⟨z1, z2⟩ := zip_obj e0 z
              exact ⟨kv, Same.rd (addB_same s) h3, z1, z2⟩
          | lst ws =>
            obtain ⟨nb, u, hu, ro⟩ := c1
            refine Cel.mk (by rw [addB_out na]; exact nb) hu ?_
            cases ro with
            | lst rr =>
              have h2 : (frzs S n0 100000 ws).map SO.lst = some o := h2
              cases q3 : frzs S n0 100000 ws with
              | none => rw [q3] at h2; cases h2
              | some xs =>
                rw [q3] at h2
                cases h2
                have z := frzs_ok s rr q3
                rw [ht] at z
                exact .lst z
          | ins c fs =>
            obtain ⟨nb, u, hu, ro⟩ := c1
            refine Cel.mk (by rw [addB_out na]; exact nb) hu ?_
            cases ro with
            | ins hc e0 rr =>
              have h2 : (frzs S n0 100000 (fs.map Prod.snd)).map (fun ws => SO.ins c ((fs.map Prod.fst).zip ws)) = some o := h2
              cases q3 : frzs S n0 100000 (fs.map Prod.snd) with
              | none => rw [q3] at h2; cases h2
              | some xs =>
                rw [q3] at h2
                cases h2
                have z := frzs_ok s rr q3
                rw [ht] at z
                obtain ⟨z1, z2⟩ := zip_obj e0 z
                exact .ins hc z1 z2
          | dct fs =>
            obtain ⟨nb, u, hu, ro⟩ := c1
            refine Cel.mk (by rw [addB_out na]; exact nb) hu ?_
            cases ro with
            | dct e0 rr =>
              have h2 : (frzs S n0 100000 (fs.map Prod.snd)).map (fun ws => SO.dct ((fs.map Prod.fst).zip ws)) = some o := h2
              cases q3 : frzs S n0 100000 (fs.map Prod.snd) with
              | none => rw [q3] at h2; cases h2
              | some xs =>
                rw [q3] at h2
                cases h2
                have z := frzs_ok s rr q3
                rw [ht] at z
                obtain ⟨z1, z2⟩ := zip_obj e0 z
                exact .dct z1 z2
        · rw [ht] at r'
          exact r'
end
end Mi

set_option Elab.async false
set_option linter.all false
set_option maxRecDepth 100000
set_option maxHeartbeats 4000000
/-! Mi5: names, built-in calls, subscripts, truth. -/
noncomputable section
namespace Mi
open PySem PySem.Spec PyProof.Rows L2
variable [Gam]
section
variable {pg : Pg} {cl : Str → List W → Sto → R W} {E : Evs} {g : Gm} {Wx : WX} {X : Cx}

theorem vis_ok (C : CxOk pg cl g Wx X) {x : Str} (h : visB g.sc x = true) : Vis X.env.scope x := by
  unfold visB at h
  unfold Vis
  rw [C.sc]
  split at h
  · rename_i e; exact .inl e
  · rename_i e; exact .inr (.inl e)
  · rename_i e; exact .inr (.inr e)
  · cases h
theorem glo_okB (C : CxOk pg cl g Wx X) {x : Str} (h : gloB g.sc x = true) : Gl X x := by
  unfold gloB at h
  show X.env.scope.names.lookup x = _
  rw [C.sc]
  split at h
  · assumption
  · cases h
theorem odd_no {x : Str} (h : (!odd x) = true) : (x == ("__debug__" : Str)) = false ∧ (x == ("__classdict__" : Str)) = false ∧ x ≠ "__name__" := by
  unfold odd at h
  cases h1 : (x == ("__debug__" : Str)) with
  | true => rw [h1] at h; cases h
  | false =>
    cases h2 : (x == ("__classdict__" : Str)) with
    | true => rw [h1, h2] at h; cases h
    | false =>
      cases h3 : (x == ("__name__" : Str)) with
      | true => rw [h1, h2, h3] at h; cases h
      | false =>
        refine ⟨rfl, rfl, fun e => ?_⟩
        subst e
        simp at h3
theorem nameE_ok (C : CxOk pg cl g Wx X) {x : Str} {pos : Pos} {env : Env'} {S : Sto} {σ : L2.St} {ρ : List Addr} {B H : Hp} {Q : VK} (sl : Sl X.K B ρ σ env) (sr : SR X.K ρ S B H)
    (h : Hold X.K (nameE pg g env S x) ρ B H (okE X.K Q) (ExP X.K X.mg Wx)) : wE X (.Name x pos) σ H Q := by
  unfold nameE at h
  obtain ⟨h1, h2⟩ := h.grd
  obtain ⟨o1, o2, o3⟩ := odd_no h1
  split at h2
  · rename_i hv
    split at h2
    · rename_i i hi
      split at h2
      · rename_i w hw
        obtain ⟨v, e1, r⟩ := sl.at_ i w hw
        exact wE_of (pe_var (i := i) (by rw [C.N]; exact slotOf_get hi) (vis_ok C hv) o1 o2) ⟨v, e1, h2.here sr v r⟩
      · exact h2.elim
    · exact h2.elim
  · obtain ⟨h3, h4⟩ := h2.grd
    obtain ⟨w, e, k⟩ := h4.lift
    obtain ⟨u, v, m, r, rp⟩ := C.cst x w e
    exact wE_of (pe_glob (glo_okB C h3) m r o1) (k ρ B H Ext.refl sr v ((rp B).mono (Same.refl B) ⟨ρ, rfl⟩))

/-! ### built-in calls -/
theorem bools_ok {K : PySem.W.Frag} {B : Hp} {ρ : List Addr} : ∀ {vs : List V} {ws : List W} {bs : List Bool}, RepL K B ρ vs ws → bools ws = some bs → vs = bs.map V.bl
  | _, _, _, .nil, e => by cases e; rfl
  | _, _, _, .cons (w := w) r t, e => by
    cases r with
    | bl b =>
      unfold bools at e
      cases q : bools _ with
      | none => rw [q] at e; cases e
      | some bs =>
        rw [q] at e
        cases e
        rw [List.map_cons, bools_ok t q]
    | _ => cases e
theorem lenW_ok {K : PySem.W.Frag} {B H : Hp} {ρ : List Addr} {S : Sto} {v : V} {w : W} {n : Int} (s : SR K ρ S B H) (r : Rep K B ρ v w) (e : lenW S w = some n) : ∃ m : Nat, LenV K v H m ∧ n = m := by
  unfold lenW at e
  split at e
  · cases r
    split at e
    · rename_i hz
      cases e
      exact ⟨_, ⟨small_line hz, rfl⟩, rfl⟩
    · cases e
  · split at e
    · rename_i ws hs
      cases e
      obtain ⟨a, xs, rfl, h1, h2⟩ := seqL_ok s r hs
      exact ⟨_, .inl ⟨xs, h1, rfl⟩, by rw [h2.length]⟩
    · cases q : seqT w with
      | none => rw [q] at e; cases e
      | some ws =>
        rw [q] at e
        cases e
        obtain ⟨a, xs, rfl, h1, h2⟩ := seqT_ok s r q
        exact ⟨_, .inr ⟨xs, h1, rfl⟩, by rw [h2.length]⟩
theorem one_of {K : PySem.W.Frag} {B : Hp} {ρ : List Addr} {vs : List V} {w : W} (r : RepL K B ρ vs [w]) : ∃ v, vs = [v] ∧ Rep K B ρ v w := by
  cases r with
  | cons r t => cases t; exact ⟨_, rfl, r⟩
theorem two_of {K : PySem.W.Frag} {B : Hp} {ρ : List Addr} {vs : List V} {w w' : W} (r : RepL K B ρ vs [w, w']) : ∃ v v', vs = [v, v'] ∧ Rep K B ρ v w ∧ Rep K B ρ v' w' := by
  cases r with
  | cons r t =>
    cases t with
    | cons r' t => cases t; exact ⟨_, _, rfl, r, r'⟩
theorem stars_no {env : Env} {pos : Pos} : ∀ {es : List Expr}, (∀ e ∈ es, notStar e = true) → (backTo pos (starEach es env)).any (·.1) = false
  | [], _ => rfl
  | e :: es, h => by
    rw [star_no (h e (List.mem_cons_self ..))]
    show (false || (backTo pos (starEach es env)).any (·.1)) = false
    rw [stars_no fun e' he => h e' (List.mem_cons_of_mem _ he)]
    rfl
/-- the call of a built-in -/
theorem strsW_ok {K : PySem.W.Frag} {B : Hp} {ρ : List Addr} : ∀ {vs : List V} {ws : List W} {ys : List Str}, RepL K B ρ vs ws → strsW ws = some ys → vs = ys.map V.str
  | _, _, _, .nil, e => by cases e; rfl
  | _, w :: ws, ys, .cons r t, e => by
    cases r with
    | str z =>
      have e' : (strsW ws).map (z :: ·) = some ys := e
      cases q : strsW ws with
      | none => rw [q] at e'; cases e'
      | some zs =>
        rw [q] at e'
        cases e'
        rw [strsW_ok t q]
        rfl
    | _ => cases e
theorem repL_strs {K : PySem.W.Frag} {B : Hp} {ρ : List Addr} : ∀ ys : List Str, RepL K B ρ (ys.map V.str) (ys.map W.str)
  | [] => .nil
  | y :: r => .cons (.str y) (repL_strs r)
theorem keyStrs_ok : ∀ {kv : List (Key × V)} {ks : List (Key × W)} {xs : List Str}, kv.map Prod.fst = ks.map Prod.fst → keyStrs ks = some xs → kv.map (·.1) = xs.map Sum.inr
  | [], [], xs, _, h => by cases h; rfl
  | [], _ :: _, _, e, _ => by cases e
  | _ :: _, [], _, e, _ => by cases e
  | (k, v) :: kv, (k', w) :: ks, xs, e, h => by
    injection e with e1 e2
    have e1 : k = k' := e1
    subst e1
    cases k with
    | inl i => cases h
    | inr x =>
      have h' : (keyStrs ks).map (x :: ·) = some xs := h
      cases q : keyStrs ks with
      | none => rw [q] at h'; cases h'
      | some ys =>
        rw [q] at h'
        cases h'
        have ih := keyStrs_ok e2 q
        show Sum.inr x :: kv.map (·.1) = Sum.inr x :: ys.map Sum.inr
        rw [ih]
theorem bcall_ok (C : CxOk pg cl g Wx X) {f : Str} {p pos : Pos} {a : Expr} {as : List Expr} {Q : VK} {t : TA} (hg : gloB g.sc f = true) (hk : known f = true) (ho : (!odd f) = true) (hm : X.mg f = none) (hs : ∀ e ∈ a :: as, notStar e = true) (ha : PA X (a :: as) t) {σ : L2.St} {H0 : Hp}
    (k : t σ H0 fun vs H => ∃ S1 ρ B ws w, SR X.K ρ S1 B H ∧ RepL X.K B ρ vs ws ∧ bcall S1 f ws = some w ∧ Val X.K w S1 Q ρ B H)
    (mono : ∀ {P P' : List V → Hp → Prop}, t σ H0 P → (∀ vs H, P vs H → P' vs H) → t σ H0 P') : wE X (.Call (.Name f p) (a :: as) [] pos) σ H0 Q := by
  obtain ⟨o1, o2, o3⟩ := odd_no ho
  have he := star_no (es := as) (env := X.env) (hs a (List.mem_cons_self ..))
  have hp : (backTo pos (starEach as X.env)).any (·.1) = false := stars_no fun e' he => hs e' (List.mem_cons_of_mem _ he)
  have bi : ∀ {id : String}, bootBuiltins f = some (.builtin id) → (t σ H0 fun vs H => callW X (.builtin id) vs H Q) → wE X (.Call (.Name f p) (a :: as) [] pos) σ H0 Q := fun hv q =>
    wE_of (pe_callB callW_r (glo_okB C hg) hm hv ha o3 o1 he hp) q
  have ty : ∀ {id : String}, bootBuiltins f = some (.type id) → (t σ H0 fun vs H => callW X (.type id) vs H Q) → wE X (.Call (.Name f p) (a :: as) [] pos) σ H0 Q := fun hv q =>
    wE_of (pe_callTy callW_r (glo_okB C hg) hm hv ha o3 o1 he hp) q
  by_cases c : f = "len"
  · subst c
    refine bi boot_len (mono k fun vs H ⟨S1, ρ, B, ws, w, sr, r, e, v⟩ => ?_)
    unfold bcall at e
    rw [if_pos rfl] at e
    split at e
    · rename_i x
      unfold lenD at e
      cases qd : seqD S1 x with
      | some ks =>
        rw [qd] at e
        cases e
        obtain ⟨y, rfl, ry⟩ := one_of r
        obtain ⟨p, kv, rfl, h1, e1, r1⟩ := seqD_ok sr ry qd
        have l1 := congrArg List.length e1
        simp only [List.length_map] at l1
        exact callW_of call_lenR ⟨p, kv, rfl, h1, by rw [l1]; exact v.here sr (.int _)⟩
      | none =>
      rw [qd] at e
      cases q : lenW S1 x with
      | none => simp only [q] at e; cases e
      | some n =>
        simp only [q] at e
        cases e
        obtain ⟨y, rfl, ry⟩ := one_of r
        obtain ⟨m, h1, rfl⟩ := lenW_ok sr ry q
        exact callW_of call_len ⟨y, m, rfl, h1, v.here sr (.int _)⟩
    · cases e
  by_cases c2 : f = "int"
  · subst c2
    refine ty boot_int (mono k fun vs H ⟨S1, ρ, B, ws, w, sr, r, e, v⟩ => ?_)
    unfold bcall at e
    rw [if_neg c, if_pos rfl] at e
    split at e
    · cases e
      obtain ⟨y, rfl, ry⟩ := one_of r
      cases ry
      exact callW_of call_int1 (.inl ⟨_, rfl, v.here sr (.int _)⟩)
    · rename_i a
      split at e
      · rename_i hl
        cases q : PySem.intText? a with
        | none => rw [q] at e; cases e
        | some n =>
          rw [q] at e
          cases e
          obtain ⟨y, rfl, ry⟩ := one_of r
          cases ry
          exact callW_of call_int_str ⟨_, _, rfl, q, hl, v.here sr (.int _)⟩
      · cases e
    · cases e
  by_cases c3 : f = "str"
  · subst c3
    refine ty boot_str (mono k fun vs H ⟨S1, ρ, B, ws, w, sr, r, e, v⟩ => ?_)
    unfold bcall at e
    rw [if_neg c, if_neg c2, if_pos rfl] at e
    split at e
    · split at e
      · rename_i hl
        cases e
        obtain ⟨y, rfl, ry⟩ := one_of r
        cases ry
        exact callW_of call_str_int ⟨_, rfl, hl, v.here sr (.str _)⟩
      · cases e
    · cases e
  by_cases c4 : f = "all"
  · subst c4
    refine bi boot_all (mono k fun vs H ⟨S1, ρ, B, ws, w, sr, r, e, v⟩ => ?_)
    unfold bcall at e
    rw [if_neg c, if_neg c2, if_neg c3, if_pos rfl] at e
    split at e
    · rename_i x
      split at e
      · rename_i xs hx
        cases q : bools xs with
        | none => rw [q] at e; cases e
        | some bs =>
          rw [q] at e
          cases e
          obtain ⟨y, rfl, ry⟩ := one_of r
          obtain ⟨l, ys, rfl, h1, h2⟩ := seqL_ok sr ry hx
          rw [bools_ok h2 q] at h1
          exact callW_of (cr_all C.calm) ⟨l, bs, rfl, h1, v.here sr (.bl _)⟩
      · cases e
    · cases e
  by_cases c5 : f = "any"
  · subst c5
    refine bi boot_any (mono k fun vs H ⟨S1, ρ, B, ws, w, sr, r, e, v⟩ => ?_)
    unfold bcall at e
    rw [if_neg c, if_neg c2, if_neg c3, if_neg c4, if_pos rfl] at e
    split at e
    · rename_i x
      split at e
      · rename_i xs hx
        cases q : bools xs with
        | none => rw [q] at e; cases e
        | some bs =>
          rw [q] at e
          cases e
          obtain ⟨y, rfl, ry⟩ := one_of r
          obtain ⟨l, ys, rfl, h1, h2⟩ := seqL_ok sr ry hx
          rw [bools_ok h2 q] at h1
          exact callW_of (cr_any C.calm) ⟨l, bs, rfl, h1, v.here sr (.bl _)⟩
      · cases e
    · cases e
  by_cases c6 : f = "min"
  · subst c6
    refine bi boot_min (mono k fun vs H ⟨S1, ρ, B, ws, w, sr, r, e, v⟩ => ?_)
    unfold bcall at e
    rw [if_neg c, if_neg c2, if_neg c3, if_neg c4, if_neg c5, if_pos rfl] at e
    split at e
    · cases e
      obtain ⟨y, z, rfl, ry, rz⟩ := two_of r
      cases ry; cases rz
      exact callW_of (call_min2 C.calm) ⟨_, _, rfl, v.here sr (.int _)⟩
    · cases e
  by_cases c7 : f = "max"
  · subst c7
    refine bi boot_max (mono k fun vs H ⟨S1, ρ, B, ws, w, sr, r, e, v⟩ => ?_)
    unfold bcall at e
    rw [if_neg c, if_neg c2, if_neg c3, if_neg c4, if_neg c5, if_neg c6, if_pos rfl] at e
    split at e
    · cases e
      obtain ⟨y, z, rfl, ry, rz⟩ := two_of r
      cases ry; cases rz
      exact callW_of (call_max2 C.calm) ⟨_, _, rfl, v.here sr (.int _)⟩
    · cases e
  by_cases c8 : f = "list"
  · subst c8
    refine ty boot_list (mono k fun vs H ⟨S1, ρ, B, ws, w, sr, r, e, v⟩ => ?_)
    unfold bcall at e
    rw [if_neg c, if_neg c2, if_neg c3, if_neg c4, if_neg c5, if_neg c6, if_neg c7, if_pos rfl] at e
    split at e
    · rename_i x
      split at e
      · rename_i xs hx
        cases e
        obtain ⟨y, rfl, ry⟩ := one_of r
        obtain ⟨l, ys, rfl, h1, h2⟩ := seqL_ok sr ry hx
        exact callW_of call_list_of ⟨l, ys, rfl, .inl h1, fun p hp => v.newL sr h2 hp⟩
      · cases q : seqT x with
        | none => rw [q] at e; cases e
        | some xs =>
          rw [q] at e
          cases e
          obtain ⟨y, rfl, ry⟩ := one_of r
          obtain ⟨l, ys, rfl, h1, h2⟩ := seqT_ok sr ry q
          exact callW_of call_list_of ⟨l, ys, rfl, .inr h1, fun p hp => v.newL sr h2 hp⟩
    · cases e
  by_cases c9 : f = "tuple"
  · subst c9
    refine ty boot_tuple (mono k fun vs H ⟨S1, ρ, B, ws, w, sr, r, e, v⟩ => ?_)
    unfold bcall at e
    rw [if_neg c, if_neg c2, if_neg c3, if_neg c4, if_neg c5, if_neg c6, if_neg c7, if_neg c8, if_pos rfl] at e
    split at e
    · rename_i x
      split at e
      · rename_i xs hx
        cases e
        obtain ⟨y, rfl, ry⟩ := one_of r
        obtain ⟨l, ys, rfl, h1, h2⟩ := seqL_ok sr ry hx
        exact callW_of call_tuple_of ⟨l, ys, rfl, .inl ⟨h1, fun p hp => v.newT sr h2 hp⟩⟩
      · cases q : seqT x with
        | none => rw [q] at e; cases e
        | some xs =>
          rw [q] at e
          cases e
          obtain ⟨y, rfl, ry⟩ := one_of r
          cases ry with
          | tup h1 h2 =>
            cases q
            exact callW_of call_tuple_of ⟨_, _, rfl, .inr ⟨Same.tup sr.same h1, v.here sr (.tup h1 h2)⟩⟩
          | _ => cases q
    · cases e
  by_cases c10 : f = "sorted"
  · subst c10
    refine bi (id := "sorted") rfl (mono k fun vs H ⟨S1, ρ, B, ws, w, sr, r, e, v⟩ => ?_)
    unfold bcall at e
    rw [if_neg c, if_neg c2, if_neg c3, if_neg c4, if_neg c5, if_neg c6, if_neg c7, if_neg c8, if_neg c9, if_pos rfl] at e
    split at e
    · rename_i x
      split at e
      · rename_i ks hk1
        split at e
        · rename_i xs hx
          split at e
          · rename_i hl
            cases e
            obtain ⟨y, rfl, ry⟩ := one_of r
            obtain ⟨p, kv, rfl, h1, e1, r1⟩ := seqD_ok sr ry hk1
            exact callW_of (call_sortedD C.calm) ⟨p, kv, xs, rfl, h1, keyStrs_ok e1 hx, hl, fun ys q pm so hq => by rw [sortStr_one pm so]; exact v.newL sr (repL_strs _) hq⟩
          · cases e
        · cases e
      · split at e
        · rename_i us hu
          split at e
          · rename_i xs hx
            split at e
            · rename_i hl
              cases e
              obtain ⟨y, rfl, ry⟩ := one_of r
              obtain ⟨l, ys, rfl, h1, h2⟩ := seqL_ok sr ry hu
              cases strsW_ok h2 hx
              exact callW_of cr_sortedS ⟨l, xs, rfl, h1, hl, fun ys q pm so hq => by rw [sortStr_one pm so]; exact v.newL sr (repL_strs _) hq⟩
            · cases e
          · cases e
        · cases e
    · cases e
  · exfalso
    unfold known at hk
    rw [decide_eq_false c, decide_eq_false c2, decide_eq_false c3, decide_eq_false c4, decide_eq_false c5, decide_eq_false c6, decide_eq_false c7, decide_eq_false c8, decide_eq_false c9, decide_eq_false c10] at hk
    cases hk

/-! ### subscripts -/
theorem atI_rep {K : PySem.W.Frag} {B : Hp} {ρ : List Addr} {xs : List V} {ws : List W} {i : Int} {w : W} (r : RepL K B ρ xs ws) (e : atI ws i = some w) : ∃ v, atI xs i = some v ∧ Rep K B ρ v w := by
  unfold atI at e ⊢
  rw [← r.length] at e
  cases q : ixN xs.length i with
  | none => rw [q] at e; cases e
  | some j =>
    rw [q] at e
    exact r.get e
theorem ixS0_ok {B H : Hp} {ρ : List Addr} {S : Sto} {Q : VK} {x y : V} {a b c : W} (s : SR X.K ρ S B H) (rx : Rep X.K B ρ x a) (ry : Rep X.K B ρ y b) (e : ixS0 S a b = some c) (k : Val X.K c S Q ρ B H) : ixW X x y H Q := by
  unfold ixS0 at e
  split at e
  · cases ry
    split at e
    · cases rx
      split at e
      · rename_i z hz
        cases q : atI z.cps.toList _ with
        | none => rw [q] at e; cases e
        | some d =>
          rw [q] at e
          cases e
          exact ixW_of ix_str ⟨_, _, d, rfl, rfl, small_line hz, q, k.here s (.str _)⟩
      · cases e
    · split at e
      · rename_i ws hs
        obtain ⟨p, xs, rfl, h1, h2⟩ := seqL_ok s rx hs
        obtain ⟨v, e1, rv⟩ := atI_rep h2 e
        exact ixW_of ix_list ⟨p, xs, _, v, rfl, rfl, h1, e1, k.here s rv⟩
      · split at e
        · rename_i ws hs
          obtain ⟨p, xs, rfl, h1, h2⟩ := seqT_ok s rx hs
          obtain ⟨v, e1, rv⟩ := atI_rep h2 e
          exact ixW_of ix_tup ⟨p, xs, _, v, rfl, rfl, h1, e1, k.here s rv⟩
        · cases e
  · cases e
theorem ixS_ok {B H : Hp} {ρ : List Addr} {S : Sto} {Q : VK} {x y : V} {a b c : W} (hu : X.A.units + 65 < cLine) (s : SR X.K ρ S B H) (rx : Rep X.K B ρ x a) (ry : Rep X.K B ρ y b) (e : ixS S a b = some c) (k : Val X.K c S Q ρ B H) : ixW X x y H Q := by
  unfold ixS at e
  split at e
  · rename_i ks kk q1 q2
    obtain ⟨p, kv, rfl, h1, e1, r1⟩ := seqD_ok s rx q1
    cases keyW_ok ry q2
    obtain ⟨v, hv, rv⟩ := (find_ok (k := kk) e1 r1).1 _ e
    refine ixW_of (ix_dictD (by omega)) ⟨p, v, rfl, ?_, k.here s rv⟩
    rw [← hv]
    exact .inl ⟨kv, kk, h1, rfl, rfl⟩
  · exact ixS0_ok s rx ry e k
def slW (X : Cx) : V → Option Int → Option Int → Hp → VK → Prop := fun x lo hi H Q => ∀ pins s σ v vl vu sl, Inv X pins σ H s → RelV x v → s.heap.IsSliceOf sl vl vu .none → IsPart vl lo → IsPart vu hi →
  ∃ T id, typeLookup (.type T) "__getitem__" = pure (some (.builtin id)) ∧ s.TypeIs v T ∧ wpAny (model X.prog X.w) X.A (getItem v (.ref sl)) (EP X pins σ Q) X.xe s
theorem slW_r : SlR X (slW X) := fun pins s σ H x v vl vu lo hi sl Q I rx hs pl pu h => h pins s σ v vl vu sl I rx hs pl pu
theorem slW_of {r : V → Option Int → Option Int → Hp → VK → Prop} (h : SlR X r) {x : V} {lo hi : Option Int} {H : Hp} {Q : VK} (q : r x lo hi H Q) : slW X x lo hi H Q := fun pins s σ v vl vu sl I rx hs pl pu => h pins s σ H x v vl vu lo hi sl Q I rx hs pl pu q
theorem cut_rep {K : PySem.W.Frag} {B : Hp} {ρ : List Addr} {xs : List V} {ws : List W} {lo hi : Option Int} (r : RepL K B ρ xs ws) : RepL K B ρ (cutV xs lo hi) (cutW ws lo hi) := by
  unfold cutV cutW
  rw [← r.length]
  exact (r.drop _).take _
theorem slS_ok {B H : Hp} {ρ : List Addr} {S : Sto} {Q : VK} {x : V} {a c : W} {lo hi : Option Int} (s : SR X.K ρ S B H) (rx : Rep X.K B ρ x a) (e : slS S a lo hi = some c) (k : Val X.K c S Q ρ B H) : slW X x lo hi H Q := by
  unfold slS at e
  split at e
  · cases rx
    split at e
    · rename_i z hz
      cases e
      exact slW_of sl_str ⟨_, rfl, small_line hz, k.here s (.str _)⟩
    · cases e
  · split at e
    · rename_i ws hs
      cases e
      obtain ⟨p, xs, rfl, h1, h2⟩ := seqL_ok s rx hs
      exact slW_of sl_list ⟨p, xs, rfl, h1, fun q hq => k.newL s (cut_rep h2) hq⟩
    · cases q : seqT a with
      | none => rw [q] at e; cases e
      | some ws =>
        rw [q] at e
        cases e
        cases rx with
        | tup h1 h2 =>
          cases q
          refine slW_of sl_tupA ⟨_, _, rfl, Same.tup s.same h1, fun hc => ?_, fun _ p hp => k.newT s (cut_rep h2) hp⟩
          have ec : cutW ws lo hi = ws := by
            unfold cutW
            rw [← h2.length, hc.1, hc.2, h2.length]
            simp
          have k' : Val X.K (.tup (cutW ws lo hi)) S Q ρ B H := k
          rw [ec] at k'
          exact k'.here s (.tup h1 h2)
        | _ => cases q

/-! ### truth -/
theorem truth_ok {K : PySem.W.Frag} {B H : Hp} {ρ : List Addr} {S : Sto} {v : V} {w : W} {b : Bool} (s : SR K ρ S B H) (r : Rep K B ρ v w) (e : truth S w = some b) : TruV K v H b := by
  have emp : ∀ {xs : List V} {ws : List W}, RepL K B ρ xs ws → (!ws.isEmpty) = !xs.isEmpty := fun r => by cases r <;> rfl
  unfold truth at e
  split at e
  · cases r; cases e; rfl
  · cases r; cases e; rfl
  · cases r; cases e; rfl
  · cases r
    split at e
    · rename_i hz
      cases e
      exact ⟨small_line hz, rfl⟩
    · cases e
  · split at e
    · rename_i ws hs
      cases e
      obtain ⟨p, xs, rfl, h1, h2⟩ := seqL_ok s r hs
      exact .inl ⟨xs, h1, emp h2⟩
    · cases q : seqT w with
      | none => rw [q] at e; cases e
      | some ws =>
        rw [q] at e
        cases e
        obtain ⟨p, xs, rfl, h1, h2⟩ := seqT_ok s r q
        exact .inr (.inl ⟨xs, h1, emp h2⟩)
end
end Mi

set_option Elab.async false
set_option linter.all false
set_option maxRecDepth 100000
set_option maxHeartbeats 4000000
/-! Mi6: targets, walks, loops, comprehensions. -/
noncomputable section
namespace Mi
open PySem PySem.Spec PyProof.Rows L2
variable [Gam]

/-! ### targets -/
def tgNs (g : Gm) : List Expr → TGs
  | [] => gNil
  | .Name x _ :: r => gCons (gName ((slotOf g.N x).getD 0)) (tgNs g r)
  | _ :: _ => fun _ _ _ _ => False
def tgG (K : PySem.W.Frag) (g : Gm) : Expr → TG
  | .Name x _ => gName ((slotOf g.N x).getD 0)
  | .Tuple es _ _ => gTup K es.length (tgNs g es)
  | _ => fun _ _ _ _ => False
def slots (g : Gm) : Expr → List Nat
  | .Name x _ => [(slotOf g.N x).getD 0]
  | .Tuple es _ _ => es.filterMap fun | .Name x _ => some ((slotOf g.N x).getD 0) | _ => none
  | _ => []
section
variable {pg : Pg} {cl : Str → List W → Sto → R W} {E : Evs} {g : Gm} {Wx : WX} {X : Cx}
theorem loc_ok (C : CxOk pg cl g Wx X) {x : Str} (h : locB g x = true) : L2.Loc X.env.scope x ∧ (X.fn x = true ∨ X.env.scope.names.lookup x = some .local) := by
  unfold locB at h
  unfold L2.Loc
  rw [C.sc, C.fn]
  split at h
  · rename_i e; exact ⟨.inl e, .inr e⟩
  · rename_i e; exact ⟨.inr e, .inl h⟩
  · cases h
theorem pg_nameB (C : CxOk pg cl g Wx X) {x : Str} {p : Pos} (h : nameOk g (.Name x p) = true) : PG X (.Name x p) (gName ((slotOf g.N x).getD 0)) := by
  unfold nameOk at h
  rw [Bool.and_eq_true] at h
  obtain ⟨h1, h2⟩ := h
  obtain ⟨i, hi⟩ := Option.isSome_iff_exists.mp h2
  rw [hi]
  obtain ⟨l1, l2⟩ := loc_ok C h1
  exact pg_name C.nd (by rw [C.N]; exact slotOf_get hi) l1 l2
theorem pgs_names (C : CxOk pg cl g Wx X) : ∀ {es : List Expr}, es.all (nameOk g) = true → PGs X es (tgNs g es) ∧ (assignEach es X.env).length = es.length ∧ (assignEach es X.env).findIdx? (·.1) = none
  | [], _ => ⟨pgs_nil, rfl, rfl⟩
  | e :: es, h => by
    rw [List.all_cons, Bool.and_eq_true] at h
    obtain ⟨h1, h2⟩ := h
    obtain ⟨i1, i2, i3⟩ := pgs_names C h2
    cases e with
    | Name x p =>
      refine ⟨pgs_cons (pg_nameB C h1) i1, ?_, ?_⟩
      · show (assignEach es X.env).length + 1 = es.length + 1
        rw [i2]
      · show List.findIdx? (·.1) ((false, _) :: assignEach es X.env) = none
        rw [List.findIdx?_cons, i3]
        rfl
    | _ => cases h1
theorem pg_tg (C : CxOk pg cl g Wx X) {tg : Expr} (h : tgOk g tg = true) : PG X tg (tgG X.K g tg) := by
  cases tg with
  | Name x p => exact pg_nameB C h
  | Tuple es k p =>
    obtain ⟨i1, i2, i3⟩ := pgs_names C (show es.all (nameOk g) = true from h)
    exact pg_tup C.calm i1 i2 i3
  | _ => cases h

theorem wipe_get (σ : L2.St) : ∀ (vs : List Nat) (i : Nat), (wipe σ vs)[i]? = if i ∈ vs then (if i < σ.length then some none else none) else σ[i]?
  | [], i => by simp [wipe]
  | v :: vs, i => by
    have ih := wipe_get σ vs i
    unfold L2.wipe
    by_cases h : v = i
    · subst h
      rw [if_pos (List.mem_cons_self ..)]
      by_cases hl : v < σ.length
      · rw [if_pos hl, List.getElem?_set_self (by rw [wipe_length]; exact hl)]
      · rw [if_neg hl, List.getElem?_eq_none (by simp [wipe_length]; omega)]
    · rw [List.getElem?_set_ne h, ih]
      have : (i ∈ v :: vs) = (i ∈ vs) := by
        apply propext
        constructor
        · intro q
          rcases List.mem_cons.mp q with q | q
          · exact absurd q.symm h
          · exact q
        · exact List.mem_cons_of_mem _
      simp only [this]
theorem wipe_set {σ : L2.St} {vs : List Nat} {i : Nat} {x : Option V} (h : i ∈ vs) : wipe (σ.set i x) vs = wipe σ vs := by
  apply List.ext_getElem?
  intro j
  rw [wipe_get, wipe_get]
  by_cases hj : j ∈ vs
  · rw [if_pos hj, if_pos hj, List.length_set]
  · rw [if_neg hj, if_neg hj]
    have : i ≠ j := fun e => hj (e ▸ h)
    rw [List.getElem?_set_ne this]
theorem wipe_wipe {σ : L2.St} {vs : List Nat} : wipe (wipe σ vs) vs = wipe σ vs := by
  apply List.ext_getElem?
  intro j
  rw [wipe_get, wipe_get]
  by_cases hj : j ∈ vs
  · rw [if_pos hj, if_pos hj, wipe_length]
  · rw [if_neg hj, if_neg hj]
/-- what binding a target does -/
theorem bindN_ok {K : PySem.W.Frag} {B : Hp} {ρ : List Addr} {σ : L2.St} {env env1 : Env'} {x : Str} {v : V} {w : W} (sl : Sl K B ρ σ env) (r : Rep K B ρ v w) (e : bindN g x w env = some env1) :
    Sl K B ρ (σ.set ((slotOf g.N x).getD 0) (some v)) env1 := by
  unfold bindN at e
  split at e
  · cases q : slotOf g.N x with
    | none => rw [q] at e; cases e
    | some i =>
      rw [q] at e
      cases e
      exact sl.set r i
  · cases e
theorem bindNs_ok {K : PySem.W.Frag} {B H : Hp} {ρ : List Addr} : ∀ {es : List Expr} {ix : List Nat} {xs : List V} {ws : List W} {σ : L2.St} {env env1 : Env'} {P : L2.St → Hp → Prop}, Sl K B ρ σ env → RepL K B ρ xs ws → namesIx g es = some ix → bindIx ix ws env = some env1 →
    (∀ σ2, Sl K B ρ σ2 env1 → (∀ vs, (∀ i ∈ es.filterMap (fun | .Name x _ => some ((slotOf g.N x).getD 0) | _ => none), i ∈ vs) → wipe σ2 vs = wipe σ vs) → P σ2 H) → tgNs g es xs σ H P ∧ es.length = ws.length
  | [], _, _, _, σ, env, env1, P, sl, .nil, e0, e, k => by
    cases e0
    cases e
    exact ⟨⟨rfl, k σ sl fun _ _ => rfl⟩, rfl⟩
  | [], _, _, _, σ, env, env1, P, sl, .cons _ _, e0, h, k => by
    cases e0
    cases h
  | e :: es, ix, _, _, σ, env, env1, P, sl, r, e0, h, k => by
    unfold namesIx at e0
    cases q1 : nameIx g e with
    | none => rw [q1] at e0; cases e0
    | some i =>
      cases q2 : namesIx g es with
      | none => rw [q1, q2] at e0; cases e0
      | some is =>
        rw [q1, q2] at e0
        cases e0
        cases r with
        | nil => cases h
        | @cons v xs w ws r t =>
          cases e with
          | Name x p =>
            have hi : slotOf g.N x = some i := by
              have q3 : (if locB g x = true then slotOf g.N x else none) = some i := q1
              by_cases hl : locB g x = true
              · rw [if_pos hl] at q3
                exact q3
              · rw [if_neg hl] at q3
                cases q3
            have s2 : Sl K B ρ (σ.set ((slotOf g.N x).getD 0) (some v)) (env.set i (some w)) := by
              rw [hi]
              exact sl.set r i
            have ih := bindNs_ok (H := H) (P := P) s2 t q2 h (fun σ2 s2 hw => k σ2 s2 fun vs hv => ?_)
            · exact ⟨⟨v, xs, rfl, ih.1⟩, by rw [List.length_cons, List.length_cons, ih.2]⟩
            · rw [hw vs fun i hi => hv i (List.mem_cons_of_mem _ hi)]
              exact wipe_set (hv _ (List.mem_cons_self ..))
          | _ => cases q1
theorem bindT_ok {K : PySem.W.Frag} {B H : Hp} {ρ : List Addr} {S : Sto} {tg : Expr} {v : V} {w : W} {σ : L2.St} {env env1 : Env'} {P : L2.St → Hp → Prop} (s : SR K ρ S B H) (sl : Sl K B ρ σ env) (r : Rep K B ρ v w) (e : bindT g tg w env = some env1)
    (k : ∀ σ2, Sl K B ρ σ2 env1 → (∀ vs, (∀ i ∈ slots g tg, i ∈ vs) → wipe σ2 vs = wipe σ vs) → P σ2 H) : tgG K g tg v σ H P := by
  cases tg with
  | Name x p => exact k _ (bindN_ok sl r e) fun vs hv => wipe_set (hv _ (List.mem_cons_self ..))
  | Tuple es k' p =>
    unfold bindT at e
    cases q0 : namesIx g es with
    | none => simp only [q0] at e; cases e
    | some ix =>
      simp only [q0] at e
      unfold bindTs at e
      cases q : seqT w with
      | none => rw [q] at e; cases e
      | some ws =>
        rw [q] at e
        obtain ⟨a, xs, rfl, h1, h2⟩ := seqT_ok s r q
        have z := bindNs_ok (H := H) (P := P) sl h2 q0 e k
        exact ⟨a, xs, rfl, h1, by rw [h2.length]; exact z.2.symm, z.1⟩
  | _ => cases e

/-! ### walks -/
/-- what walks the items -/
structure Wk (K : PySem.W.Frag) (B0 : Hp) (ρ0 : List Addr) (J : It) (items : Itm) : Prop where
  wk : ∃ (G : Hp → Prop) (Y : Nat → Hp → V → Hp → Prop), Walk J items.1.length G Y ∧ (∀ ρ S B H, Same B0 B → (∃ m, ρ = ρ0 ++ m) → SR K ρ S B H → items.2 S = true → G H) ∧
    ∀ i x H H' ρ S B, i < items.1.length → Same B0 B → (∃ m, ρ = ρ0 ++ m) → SR K ρ S B H → items.2 S = true → Y i H x H' → ∃ B' w, items.1[i]? = some w ∧ Ext ρ B H ρ B' H' ∧ SR K ρ S B' H' ∧ Rep K B' ρ x w
theorem wk_list {K : PySem.W.Frag} {B : Hp} {ρ : List Addr} {a : Addr} {xs : List V} {ws : List W} (h : SqL K B a xs) (r : RepL K B ρ xs ws) : Wk K B ρ (Itl K a) (still ws) := by
  refine ⟨⟨fun H => SqL K H a xs, YAt xs, ?_, fun ρ1 S B1 H s p sr _ => sr.same.seq (s.seq h), fun i x H H' ρ1 S B1 hi s p sr _ y => ?_⟩⟩
  · show Walk _ ws.length _ _
    rw [← r.length]
    exact walk_list
  · obtain ⟨e1, e2⟩ := y
    subst e1
    obtain ⟨w, h1, h2⟩ := r.get' e2
    exact ⟨B1, w, h1, Ext.refl, sr, h2.mono s p⟩
theorem wk_tup {K : PySem.W.Frag} {B : Hp} {ρ : List Addr} {a : Addr} {xs : List V} {ws : List W} (h : SqT K B a xs) (r : RepL K B ρ xs ws) : Wk K B ρ (Itt K a) (still ws) := by
  refine ⟨⟨fun H => SqT K H a xs, YAt xs, ?_, fun ρ1 S B1 H s p sr _ => Same.tup sr.same (Same.tup s h), fun i x H H' ρ1 S B1 hi s p sr _ y => ?_⟩⟩
  · show Walk _ ws.length _ _
    rw [← r.length]
    exact walk_tup
  · obtain ⟨e1, e2⟩ := y
    subst e1
    obtain ⟨w, h1, h2⟩ := r.get' e2
    exact ⟨B1, w, h1, Ext.refl, sr, h2.mono s p⟩
theorem wk_str {K : PySem.W.Frag} {B : Hp} {ρ : List Addr} {z : Str} : Wk K B ρ (Its z) (still (strW z)) := by
  refine ⟨⟨fun _ => True, fun i H v H' => H' = H ∧ ∃ c, z.cps[i]? = some c ∧ v = .str ⟨#[c]⟩, ?_, fun _ _ _ _ _ _ _ _ => trivial, fun i x H H' ρ1 S B1 hi s p sr _ y => ?_⟩⟩
  · have e : (strW z).length = z.cps.size := by simp [strW]
    show Walk _ (strW z).length _ _
    rw [e]
    exact walk_str
  · obtain ⟨e1, c, e2, e3⟩ := y
    subst e1 e3
    refine ⟨B1, .str ⟨#[c]⟩, ?_, Ext.refl, sr, .str _⟩
    show (strW z)[i]? = _
    unfold strW
    rw [List.getElem?_map, Array.getElem?_toList, e2]
    rfl
theorem wk_rng {K : PySem.W.Frag} {B : Hp} {ρ : List Addr} {lo : Int} {n : Nat} : Wk K B ρ (Itr lo n) (still ((List.range n).map fun i : Nat => W.int (lo + (i : Int)))) := by
  refine ⟨⟨fun _ => True, YFn fun i => .int (lo + i), ?_, fun _ _ _ _ _ _ _ _ => trivial, fun i x H H' ρ1 S B1 hi s p sr _ y => ?_⟩⟩
  · have e : ((List.range n).map fun i : Nat => W.int (lo + (i : Int))).length = n := by simp
    show Walk _ ((List.range n).map fun i : Nat => W.int (lo + (i : Int))).length _ _
    rw [e]
    exact walk_range
  · obtain ⟨e1, e2⟩ := y
    subst e1 e2
    have hi' : i < n := by simpa [still] using hi
    exact ⟨B1, .int (lo + (i : Int)), by simp [still, hi'], Ext.refl, sr, .int _⟩
/-- a cell's list, as long as it stays what it is -/
theorem wk_cell {K : PySem.W.Frag} {B : Hp} {ρ : List Addr} {a : Addr} {n : Nat} {ws : List W} (hn : ρ[n]? = some a) : Wk K B ρ (Itl K a) (ws, sameL n ws) := by
  have at_ : ∀ {ρ1 : List Addr} {S : Sto} {B1 H : Hp}, (∃ m, ρ1 = ρ ++ m) → SR K ρ1 S B1 H → sameL n ws S = true → ∃ xs, H a = some (.lst xs) ∧ RepL K B1 ρ1 xs ws := fun {ρ1 S B1 H} p sr h => by
    unfold sameL at h
    split at h
    · rename_i ws' q
      have e := eqFs_ok h
      subst e
      obtain ⟨u, hu, ro⟩ := sr.at (pre_get p hn) q
      cases ro with
      | lst rr => exact ⟨_, hu, rr⟩
    · cases h
  refine ⟨⟨fun H => ∃ xs, SqL K H a xs ∧ xs.length = ws.length, fun i H x H' => H' = H ∧ ∀ xs, SqL K H a xs → xs[i]? = some x, ⟨fun i H hi q => ?_, fun H q => ?_, fun i H x H' _ _ y => y⟩, fun ρ1 S B1 H s p sr h => ?_, fun i x H H' ρ1 S B1 hi s p sr h y => ?_⟩⟩
  · obtain ⟨xs, q, l⟩ := q
    have hi' : i < ws.length := hi
    exact ⟨xs, xs[i], q, by simp⟩
  · obtain ⟨xs, q, l⟩ := q
    exact ⟨xs, q, by rw [l]; exact Nat.le_refl _⟩
  · obtain ⟨xs, h1, h2⟩ := at_ p sr h
    exact ⟨xs, SqL.of h1, h2.length⟩
  · obtain ⟨rfl, y2⟩ := y
    obtain ⟨xs, h3, h4⟩ := at_ p sr h
    obtain ⟨w, h5, h6⟩ := h4.get' (y2 xs (SqL.of h3))
    exact ⟨B1, w, h5, Ext.refl, sr, h6⟩
def wI (X : Cx) (tg iter : Expr) : TI := fun σ H R => ∀ pins s, Inv X pins σ H s → wpAny (model X.prog X.w) X.A (eval iter X.env) (fun v s1 => wpAny (model X.prog X.w) X.A (pyIter v) (PIE X pins σ tg R) X.xe s1) X.xe s
theorem pwI {tg iter : Expr} : PI X tg iter (wI X tg iter) := ⟨fun pins s _ _ _ I h => h pins s I⟩
theorem wI_of {tg iter : Expr} {t : TI} (h : PI X tg iter t) {σ : L2.St} {H : Hp} {R : It → Hp → Prop} (q : t σ H R) : wI X tg iter σ H R := fun pins s I => h.run pins s σ H R I q
/-- any expression that is walked -/
theorem evWalk_ok (hE : EvOk pg cl E) (C : CxOk pg cl g Wx X) {tg e : Expr} {env : Env'} {S : Sto} {σ : L2.St} {ρ : List Addr} {B H : Hp} {R' : It → Hp → Prop} (sl : Sl X.K B ρ σ env) (sr : SR X.K ρ S B H)
    (h : Hold X.K ((E.e g env S e).bind fun w S1 => walkW w S1) ρ B H (fun items S' ρ' B' H' => ∀ J, Wk X.K B' ρ' J items → R' J H') (ExP X.K X.mg Wx)) : wI X tg e σ H R' := by
  cases q : E.e g env S e with
  | bad => rw [q] at h; exact h.elim
  | exc c fs en S1 =>
    rw [q] at h
    refine wI_of (pi_list pwE) (hE.e C sl sr ?_)
    rw [q]
    exact h
  | ok w S1 =>
    rw [q] at h
    have go : ∀ {t : V → Hp → Prop}, (∀ ρ' B' H' v, Ext ρ B H ρ' B' H' → SR X.K ρ' S1 B' H' → Rep X.K B' ρ' v w → t v H') → wE X e σ H t := fun k => hE.e C sl sr (by
      rw [q]
      exact fun ρ' B' H' x s v r => k ρ' B' H' v x s r)
    cases w with
    | lst ws =>
      refine wI_of (pi_list pwE) (go fun ρ' B' H' v x s r => ?_)
      cases r with
      | lst h1 h2 => exact ⟨_, rfl, ⟨_, SqL.of (s.same _ _ h1)⟩, h ρ' B' H' x s _ (wk_list (SqL.of h1) h2)⟩
    | frl ws =>
      refine wI_of (pi_list pwE) (go fun ρ' B' H' v x s r => ?_)
      cases r with
      | frl h1 h2 _ => exact ⟨_, rfl, ⟨_, s.same.seq h1⟩, h ρ' B' H' x s _ (wk_list h1 h2)⟩
    | tup ws =>
      refine wI_of (pi_tup pwE) (go fun ρ' B' H' v x s r => ?_)
      cases r with
      | tup h1 h2 => exact ⟨_, rfl, ⟨_, Same.tup s.same h1⟩, h ρ' B' H' x s _ (wk_tup h1 h2)⟩
    | str z =>
      refine wI_of (pi_str pwE) (go fun ρ' B' H' v x s r => ?_)
      cases r
      exact ⟨z, rfl, h ρ' B' H' x s _ wk_str⟩
    | ref n =>
      have h' : Hold X.K (match S1[n]? with
        | some (.lst ws) => .ok (ws, sameL n ws) S1
        | _ => .bad) ρ B H (fun items S' ρ' B' H' => ∀ J, Wk X.K B' ρ' J items → R' J H') (ExP X.K X.mg Wx) := h
      cases qn : S1[n]? with
      | none => rw [qn] at h'; exact h'.elim
      | some o =>
        rw [qn] at h'
        cases o with
        | lst ws =>
          refine wI_of (pi_list pwE) (go fun ρ' B' H' v x s r => ?_)
          cases r with
          | @ref _ a hn =>
            obtain ⟨u, hu, ro⟩ := s.at hn qn
            cases ro with
            | @lst xs _ rr => exact ⟨_, rfl, ⟨xs, SqL.of hu⟩, h' ρ' B' H' x s _ (wk_cell hn)⟩
        | _ => exact h'.elim
    | _ => exact h.elim
theorem free_ok (C : CxOk pg cl g Wx X) {f : Str} (h : pg.free.contains f = true) : X.mg f = none := C.free f (List.contains_iff_mem.mp h)
theorem enumW_at : ∀ {ws : List W} {n i : Nat} {w : W}, ws[i]? = some w → (enumW n ws)[i]? = some (.tup [.int ((n + i : Nat) : Int), w])
  | [], _, _, _, h => by simp at h
  | x :: r, n, 0, w, h => by
    simp at h
    subst h
    simp [enumW]
  | x :: r, n, i + 1, w, h => by
    have z := enumW_at (ws := r) (n := n + 1) (i := i) (w := w) (by simpa using h)
    simp only [enumW, List.getElem?_cons_succ]
    rw [z]
    congr 4
    omega
theorem enumW_len : ∀ (ws : List W) (n : Nat), (enumW n ws).length = ws.length
  | [], _ => rfl
  | _ :: r, n => by simp [enumW, enumW_len r (n + 1)]
theorem wk_enumS {K : PySem.W.Frag} {B : Hp} {ρ : List Addr} {z : Str} : Wk K B ρ (ItsE z) (still (enumW 0 (strW z))) := by
  have ln : (strW z).length = z.cps.size := by simp [strW]
  refine ⟨⟨fun _ => True, fun i H v H' => ∃ T c, v = .ref T ∧ H T = none ∧ H' = upd H T (.tup [.int (i : Nat), .str ⟨#[c]⟩]) ∧ z.cps[i]? = some c, ?_, fun _ _ _ _ _ _ _ _ => trivial, fun i x H H' ρ1 S B1 hi s p sr _ y => ?_⟩⟩
  · show Walk _ (enumW 0 (strW z)).length _ _
    rw [enumW_len, ln]
    exact walk_enumS
  · obtain ⟨T, c, rfl, h2, rfl, h4⟩ := y
    have e2 : Ext ρ1 B1 H ρ1 (upd B1 T (.tup [.int (i : Nat), .str ⟨#[c]⟩])) (upd H T (.tup [.int (i : Nat), .str ⟨#[c]⟩])) := Ext.fresh sr.same h2
    have at_ : (strW z)[i]? = some (.str ⟨#[c]⟩) := by
      unfold strW
      rw [List.getElem?_map, Array.getElem?_toList, h4]
      rfl
    have z2 := enumW_at (n := 0) at_
    rw [Nat.zero_add] at z2
    exact ⟨_, _, z2, e2, sr.fresh h2, .tup (SqT.of upd_same) (.cons (.int _) (.cons (.str _) .nil))⟩
theorem wk_enum {K : PySem.W.Frag} {B : Hp} {ρ : List Addr} {a : Addr} {ws : List W} {chk : Sto → Bool} (at_ : ∀ {ρ1 : List Addr} {S : Sto} {B1 H : Hp}, Same B B1 → (∃ m, ρ1 = ρ ++ m) → SR K ρ1 S B1 H → chk S = true → ∃ xs, SqL K H a xs ∧ RepL K B1 ρ1 xs ws) : Wk K B ρ (Ite K a) (enumW 0 ws, chk) := by
  refine ⟨⟨fun H => ∃ xs, SqL K H a xs ∧ xs.length = ws.length, fun i H v H' => ∃ T x, v = .ref T ∧ H T = none ∧ H' = upd H T (.tup [.int (i : Nat), x]) ∧ ∀ xs, SqL K H a xs → xs[i]? = some x, ⟨fun i H hi q => ?_, fun H q => ?_, fun i H x H' _ _ y => y⟩, fun ρ1 S B1 H s p sr h => ?_, fun i x H H' ρ1 S B1 hi s p sr h y => ?_⟩⟩
  · obtain ⟨xs, q, l⟩ := q
    have hi' : i < (enumW 0 ws).length := hi
    rw [enumW_len] at hi'
    exact ⟨xs, xs[i], q, by simp⟩
  · obtain ⟨xs, q, l⟩ := q
    exact ⟨xs, q, by show xs.length ≤ (enumW 0 ws).length; rw [enumW_len, l]; exact Nat.le_refl _⟩
  · obtain ⟨xs, h1, h2⟩ := at_ s p sr h
    exact ⟨xs, h1, h2.length⟩
  · obtain ⟨T, x, rfl, h2, rfl, h4⟩ := y
    obtain ⟨xs, h3, h5⟩ := at_ s p sr h
    obtain ⟨w, h6, h7⟩ := h5.get' (h4 xs h3)
    have e2 : Ext ρ1 B1 H ρ1 (upd B1 T (.tup [.int (i : Nat), x])) (upd H T (.tup [.int (i : Nat), x])) := Ext.fresh sr.same h2
    have z2 := enumW_at (n := 0) h6
    rw [Nat.zero_add] at z2
    exact ⟨_, _, z2, e2, sr.fresh h2, .tup (SqT.of upd_same) (.cons (.int _) (.cons (h7.mono e2.b e2.pre) .nil))⟩
/-- enumerate -/
theorem evEnum_ok (hE : EvOk pg cl E) (C : CxOk pg cl g Wx X) {tg e : Expr} {p pos : Pos} {env : Env'} {S : Sto} {σ : L2.St} {ρ : List Addr} {B H : Hp} {R' : It → Hp → Prop} (sl : Sl X.K B ρ σ env) (sr : SR X.K ρ S B H)
    (g1 : gloB g.sc "enumerate" = true) (g2 : pg.free.contains "enumerate" = true) (g3 : isTupE tg = true) (g4 : notStar e = true)
    (h : Hold X.K ((E.e g env S e).bind fun w S1 => enumWk w S1) ρ B H (fun items S' ρ' B' H' => ∀ J, Wk X.K B' ρ' J items → R' J H') (ExP X.K X.mg Wx)) : wI X tg (.Call (.Name "enumerate" p) [e] [] pos) σ H R' := by
  have hm : X.mg "enumerate" = none := C.free _ (List.contains_iff_mem.mp g2)
  have st : starEach [e] X.env = [(false, eval e X.env)] := star_no g4
  cases tg with
  | Tuple elts kk tp =>
    cases q : E.e g env S e with
    | bad => rw [q] at h; exact h.elim
    | exc c fs en S1 =>
      rw [q] at h
      refine wI_of (pi_enum (glo_okB C g1) hm (pa_cons pwE pa_nil st) st) (hE.e C sl sr ?_)
      rw [q]
      exact h
    | ok w S1 =>
      rw [q] at h
      have go : ∀ {t : V → Hp → Prop}, (∀ ρ' B' H' v, Ext ρ B H ρ' B' H' → SR X.K ρ' S1 B' H' → Rep X.K B' ρ' v w → t v H') → wE X e σ H t := fun k => hE.e C sl sr (by
        rw [q]
        exact fun ρ' B' H' x s v r => k ρ' B' H' v x s r)
      cases w with
      | str z =>
        refine wI_of (pi_enumS (glo_okB C g1) hm (pa_cons pwE pa_nil st) st) (go fun ρ' B' H' v x s r => ?_)
        cases r
        exact ⟨z, rfl, h ρ' B' H' x s _ wk_enumS⟩
      | lst ws =>
        refine wI_of (pi_enum (glo_okB C g1) hm (pa_cons pwE pa_nil st) st) (go fun ρ' B' H' v x s r => ?_)
        cases r with
        | lst h1 h2 => exact ⟨_, _, rfl, SqL.of (s.same _ _ h1), h ρ' B' H' x s _ (wk_enum fun sm p sr _ => ⟨_, SqL.of (sr.same _ _ (sm _ _ h1)), h2.mono sm p⟩)⟩
      | frl ws =>
        refine wI_of (pi_enum (glo_okB C g1) hm (pa_cons pwE pa_nil st) st) (go fun ρ' B' H' v x s r => ?_)
        cases r with
        | frl h1 h2 _ => exact ⟨_, _, rfl, s.same.seq h1, h ρ' B' H' x s _ (wk_enum fun sm p sr _ => ⟨_, sr.same.seq (sm.seq h1), h2.mono sm p⟩)⟩
      | ref n =>
        have h' : Hold X.K (match S1[n]? with
          | some (.lst ws) => .ok (enumW 0 ws, sameL n ws) S1
          | _ => .bad) ρ B H (fun items S' ρ' B' H' => ∀ J, Wk X.K B' ρ' J items → R' J H') (ExP X.K X.mg Wx) := h
        cases qn : S1[n]? with
        | none => rw [qn] at h'; exact h'.elim
        | some o =>
          rw [qn] at h'
          cases o with
          | lst ws =>
            refine wI_of (pi_enum (glo_okB C g1) hm (pa_cons pwE pa_nil st) st) (go fun ρ' B' H' v x s r => ?_)
            cases r with
            | @ref _ a hn =>
              obtain ⟨u, hu, ro⟩ := s.at hn qn
              cases ro with
              | lst rr =>
                refine ⟨_, _, rfl, SqL.of hu, h' ρ' B' H' x s _ (wk_enum fun {ρ1 S B1 H} sm p sr hk => ?_)⟩
                unfold sameL at hk
                split at hk
                · rename_i ws' q'
                  have e := eqFs_ok hk
                  subst e
                  obtain ⟨u', hu', ro'⟩ := sr.at (pre_get p hn) q'
                  cases ro' with
                  | lst rr' => exact ⟨_, SqL.of hu', rr'⟩
                · cases hk
          | _ => exact h'.elim
      | _ => exact h.elim
  | _ => cases g3
theorem evIter_ok (hE : EvOk pg cl E) (C : CxOk pg cl g Wx X) {tg iter : Expr} {env : Env'} {S : Sto} {σ : L2.St} {ρ : List Addr} {B H : Hp} {R' : It → Hp → Prop} (sl : Sl X.K B ρ σ env) (sr : SR X.K ρ S B H)
    (h : Hold X.K (evIter pg g (fun e S => E.e g env S e) tg iter S) ρ B H (fun items S' ρ' B' H' => ∀ J, Wk X.K B' ρ' J items → R' J H') (ExP X.K X.mg Wx)) : wI X tg iter σ H R' := by
  unfold evIter at h
  split at h
  · rename_i p a q
    obtain ⟨h1, h2⟩ := h.grd
    rw [Bool.and_eq_true] at h1
    have hs := mapR_stars h2
    refine wI_of (pi_range1 (glo_okB C h1.1) (free_ok C h1.2) pwA (star_no (hs a (by simp)))) ?_
    refine mapR_bind hE C sl sr h2 fun ws S1 ρ1 B1 H1 vs x s1 sl1 r k => ?_
    split at k
    · obtain ⟨k1, k2⟩ := k.grd
      obtain ⟨v, rfl, rv⟩ := one_of r
      cases rv
      have b := of_decide_eq_true k1
      exact ⟨_, rfl, b.1, b.2, k2.here s1 _ wk_rng⟩
    · exact k.elim
  · rename_i p a b q
    obtain ⟨h1, h2⟩ := h.grd
    rw [Bool.and_eq_true] at h1
    have hs := mapR_stars h2
    have sb : starEach [b] X.env = [(false, eval b X.env)] := star_no (hs b (by simp))
    refine wI_of (pi_range2 (glo_okB C h1.1) (free_ok C h1.2) pwA (by rw [star_no (hs a (by simp)), sb]) sb) ?_
    refine mapR_bind hE C sl sr h2 fun ws S1 ρ1 B1 H1 vs x s1 sl1 r k => ?_
    split at k
    · obtain ⟨k1, k2⟩ := k.grd
      obtain ⟨v, v', rfl, rv, rv'⟩ := two_of r
      cases rv; cases rv'
      have b := of_decide_eq_true k1
      exact ⟨_, _, rfl, b, k2.here s1 _ wk_rng⟩
    · exact k.elim
  · rename_i p a q
    obtain ⟨h1, h2⟩ := h.grd
    rw [Bool.and_eq_true, Bool.and_eq_true, Bool.and_eq_true] at h1
    obtain ⟨⟨⟨g1, g2⟩, g3⟩, g4⟩ := h1
    exact evEnum_ok hE C sl sr g1 g2 g3 g4 h2
  · rename_i e he1 he2 he3
    obtain ⟨h1, h2⟩ := h.grd
    exact evWalk_ok hE C sl sr h2
end
end Mi

set_option Elab.async false
set_option linter.all false
set_option maxRecDepth 100000
set_option maxHeartbeats 4000000
/-! Ma6b: a dict that never changes is locked and unlocked while it is walked. -/
noncomputable section
namespace Mi
open PySem PySem.Spec PyProof.Rows L2
variable [Gam]
/-- how a dict that never changes may stand -/
def Is (kv : List (Key × V)) (u : HO) : Prop := u = .dK kv ∨ ∃ o, u = .frz o (.dK kv)
theorem Is.rd {kv : List (Key × V)} {u : HO} {B : Hp} {d : Addr} (h : Is kv u) (e : B d = some u) : L2.Rd B d (.dK kv) := by
  rcases h with rfl | ⟨o, rfl⟩
  · exact .inl e
  · exact .inr ⟨o, e⟩
theorem rd_one {kv kv' : List (Key × V)} {u : HO} {B : Hp} {d : Addr} (h : Is kv u) (e : B d = some u) (r : L2.Rd B d (.dK kv')) : kv' = kv := by
  rcases h with rfl | ⟨o, rfl⟩ <;> rcases r with r | ⟨o', r⟩ <;> (rw [e] at r; cases r) <;> rfl
section
variable {K : PySem.W.Frag} {B B' H H' : Hp} {ρ ρ' : List Addr} {S : Sto} {d : Addr} {kv : List (Key × V)} {u u' : HO}
theorem sw_at {a : Addr} {x : HO} (hu : B d = some u) (i : Is kv u) (hx : ∀ kv', x ≠ .dK kv') (hx2 : ∀ o kv', x ≠ .frz o (.dK kv')) (h : B a = some x) : upd B d u' a = some x := by
  have hne : a ≠ d := fun e => by
    subst e
    rw [hu] at h
    cases h
    rcases i with rfl | ⟨o', rfl⟩
    · exact hx _ rfl
    · exact hx2 _ _ rfl
  rw [upd_ne hne]
  exact h
theorem sw_rd {a : Addr} {x : HO} (hu : B d = some u) (i : Is kv u) (hx : ∀ kv', x ≠ .dK kv') (hx2 : ∀ o kv', x ≠ .frz o (.dK kv')) (h : L2.Rd B a x) : L2.Rd (upd B d u') a x := by
  rcases h with h | ⟨o, h⟩
  · exact .inl (sw_at hu i hx hx2 h)
  · exact .inr ⟨o, sw_at hu i (fun kv' e => by cases e) (fun o' kv' e => by
      injection e with e1 e2
      exact hx _ e2) h⟩
theorem sw_dk {a : Addr} {kv' : List (Key × V)} (hu : B d = some u) (i : Is kv u) (i' : Is kv u') (h : L2.Rd B a (.dK kv')) : L2.Rd (upd B d u') a (.dK kv') := by
  by_cases e : a = d
  · subst e
    cases rd_one i hu h
    exact i'.rd upd_same
  · rcases h with h | ⟨o, h⟩
    · exact .inl (by rw [upd_ne e]; exact h)
    · exact .inr ⟨o, by rw [upd_ne e]; exact h⟩
mutual
theorem Rep.swap (hu : B d = some u) (i : Is kv u) (i' : Is kv u') : ∀ {v : V} {w : W}, Rep K B ρ v w → Rep K (upd B d u') ρ v w
  | _, _, .non => .non
  | _, _, .bl b => .bl b
  | _, _, .int b => .int b
  | _, _, .str b => .str b
  | _, _, .tup h r => .tup (h.imp (sw_rd hu i (fun _ e => by cases e) (fun _ _ e => by cases e)) id) (RepL.swap hu i i' r)
  | _, _, .lst h r => .lst (sw_at hu i (fun _ e => by cases e) (fun _ _ e => by cases e) h) (RepL.swap hu i i' r)
  | _, _, .frl h r f => .frl (h.imp (sw_rd hu i (fun _ e => by cases e) (fun _ _ e => by cases e)) id) (RepL.swap hu i i' r) f
  | _, _, .ref h => .ref h
  | _, _, .obj hc h e r => .obj hc (sw_at hu i (fun _ e => by cases e) (fun _ _ e => by cases e) h) e (RepL.swap hu i i' r)
  | _, _, .dct h e r => .dct (sw_dk hu i i' h) e (RepL.swap hu i i' r)
theorem RepL.swap (hu : B d = some u) (i : Is kv u) (i' : Is kv u') : ∀ {vs : List V} {ws : List W}, RepL K B ρ vs ws → RepL K (upd B d u') ρ vs ws
  | _, _, .nil => .nil
  | _, _, .cons h r => .cons (Rep.swap hu i i' h) (RepL.swap hu i i' r)
end
theorem RepO.swap (hu : B d = some u) (i : Is kv u) (i' : Is kv u') {x : HO} {o : SO} (r : RepO K B ρ x o) : RepO K (upd B d u') ρ x o := by
  cases r with
  | lst r => exact .lst (r.swap hu i i')
  | ins hc e r => exact .ins hc e (r.swap hu i i')
  | dct e r => exact .dct e (r.swap hu i i')
theorem SR.swap (s : SR K ρ S B H) (hu : B d = some u) (i : Is kv u) (i' : Is kv u') : SR K ρ S (upd B d u') (upd H d u') := by
  refine ⟨fun c x q => ?_, s.len, s.nd, fun j c so e1 e2 => ?_⟩
  · by_cases hc : c = d
    · subst hc
      rw [upd_same] at q ⊢
      exact q
    · rw [upd_ne hc] at q ⊢
      exact s.same c x q
  · have z := s.cell j c so e1 e2
    cases q : isImd so with
    | false =>
      obtain ⟨hb, x, hx, r⟩ := z.live q
      have hc : c ≠ d := fun e => by rw [e, hu] at hb; cases hb
      exact Cel.mk (by rw [upd_ne hc]; exact hb) (by rw [upd_ne hc]; exact hx) (r.swap hu i i')
    | true =>
      cases so with
      | imd ks =>
        obtain ⟨kv', h1, h2, h3⟩ := z
        exact ⟨kv', sw_dk hu i i' h1, h2, h3.swap hu i i'⟩
      | _ => cases q
theorem Sl.swap {σ : L2.St} {env : Env'} (s : Sl K B ρ σ env) (hu : B d = some u) (i : Is kv u) (i' : Is kv u') : Sl K (upd B d u') ρ σ env :=
  ⟨s.len, fun j w h => by
    obtain ⟨v, h1, h2⟩ := s.at_ j w h
    exact ⟨v, h1, h2.swap hu i i'⟩⟩
/-- a way that began locked, seen unlocked -/
theorem Ext.unlock (e : Ext ρ (upd B d u') (upd H d u') ρ' B' H') (hu : B d = some u) (hH : H d = some u) : Ext ρ B H ρ' (upd B' d u) (upd H' d u) := by
  refine ⟨fun c x q => ?_, ?_, fun c x q hn => ?_, fun c x q => ?_, fun c x q hr n => ?_⟩
  · by_cases hc : c = d
    · subst hc
      rw [upd_same]
      exact hu.symm.trans q
    · rw [upd_ne hc]
      exact e.b c x (by rw [upd_ne hc]; exact q)
  · obtain ⟨m, h1, h2⟩ := e.p
    refine ⟨m, h1, fun c hc => ?_⟩
    have z := h2 c hc
    have hcd : c ≠ d := fun q => by rw [q, upd_same] at z; cases z
    rw [upd_ne hcd] at z
    exact z
  · by_cases hc : c = d
    · subst hc
      rw [upd_same]
      exact hH.symm.trans q
    · rw [upd_ne hc]
      exact e.frame c x (by rw [upd_ne hc]; exact q) hn
  · by_cases hc : c = d
    · subst hc
      exact ⟨u, upd_same⟩
    · obtain ⟨o', z⟩ := e.there c x (by rw [upd_ne hc]; exact q)
      exact ⟨o', by rw [upd_ne hc]; exact z⟩
  · have hc : c ≠ d := fun q' => by rw [q', hu] at n; cases n
    rw [upd_ne hc]
    exact e.new c x (by rw [upd_ne hc]; exact q) hr (by rw [upd_ne hc]; exact n)
/-- what holds unlocked, seen from where the dict is locked -/
theorem Hold.lock {α : Type} {r : R α} {ok : α → Sto → List Addr → Hp → Hp → Prop} {ex ex' : Str → List (Str × W) → Env' → List Addr → Hp → Hp → Prop} (h : Hold K (noExc r) ρ B H ok ex) (hu : B d = some u) (hH : H d = some u) (i : Is kv u) (i' : Is kv u') :
    Hold K r ρ (upd B d u') (upd H d u') (fun a S ρ' B' H' => B' d = some u' ∧ H' d = some u' ∧ ok a S ρ' (upd B' d u) (upd H' d u)) ex' := by
  cases r with
  | bad => exact h.elim
  | exc c fs e S => exact h.elim
  | ok a S =>
    intro ρ' B' H' e s
    have b1 : B' d = some u' := e.b _ _ upd_same
    exact ⟨b1, s.same _ _ b1, h _ _ _ (e.unlock hu hH) (s.swap b1 i' i)⟩
end
/-- the same, an exception left as it is: the dict was a cell's -/
theorem Hold.lockC {K : PySem.W.Frag} {α : Type} {r : R α} {ρ : List Addr} {B H : Hp} {d : Addr} {kv : List (Key × V)} {u' : HO} {ok : α → Sto → List Addr → Hp → Hp → Prop} {ex : Str → List (Str × W) → Env' → List Addr → Hp → Hp → Prop} (h : Hold K r ρ B H ok ex) (hb : B d = none) (hr : d ∈ ρ) (hH : H d = some (.dK kv)) (i' : Is kv u') :
    Hold K r ρ (upd (upd B d (.dK kv)) d u') (upd H d u') (fun a S ρ' B' H' => B' d = some u' ∧ H' d = some u' ∧ ok a S ρ' (upd B' d (.dK kv)) (upd H' d (.dK kv))) ex := by
  have x1 : Ext ρ B H ρ (upd B d (.dK kv)) H := ⟨fun c x z => by rw [upd_ne (ne_of_none z hb)]; exact z, ⟨[], by simp, fun c hc => by simp at hc⟩, fun _ _ z _ => z, fun _ o z => ⟨o, z⟩, fun c x z hn nb => by
    rw [upd_ne (fun e => hn (by rw [e]; exact hr))]
    exact nb⟩
  have x2 : Ext ρ B H ρ (upd (upd B d (.dK kv)) d u') (upd H d u') := ⟨fun c x z => by rw [upd_ne (ne_of_none z hb), upd_ne (ne_of_none z hb)]; exact z, ⟨[], by simp, fun c hc => by simp at hc⟩, fun c x z hn => by
      rw [upd_ne (fun e => hn (by rw [e]; exact hr))]
      exact z, fun c x z => by
      by_cases e : c = d
      · rw [e]; exact ⟨u', upd_same⟩
      · exact ⟨x, by rw [upd_ne e]; exact z⟩, fun c x z hn nb => by
      have e : c ≠ d := fun e => hn (by rw [e]; exact hr)
      rw [upd_ne e, upd_ne e]
      exact nb⟩
  cases r with
  | bad => exact h.elim
  | exc c fs e S => exact fun ρ' B' H' e s => h _ _ _ (x2.trans e) s
  | ok a S => exact Hold.lock (r := .ok a S) (ex := ex) (ex' := ex) (h.ext x1) upd_same hH (.inl rfl) i'
/-! ### walks of a dict that is locked -/
theorem zip_at {κ : Type} {kv : List (κ × V)} {ks : List (κ × W)} (e : kv.map Prod.fst = ks.map Prod.fst) {i : Nat} {k : κ} {v : V} (h : kv[i]? = some (k, v)) : ∃ w, ks[i]? = some (k, w) := by
  have h1 : (kv.map Prod.fst)[i]? = some k := by rw [List.getElem?_map, h]; rfl
  rw [e, List.getElem?_map] at h1
  cases q : ks[i]? with
  | none => rw [q] at h1; cases h1
  | some p =>
    rw [q] at h1
    obtain ⟨k', w⟩ := p
    cases h1
    exact ⟨w, rfl⟩
theorem wk_keys {K : PySem.W.Frag} {B : Hp} {ρ : List Addr} {d : Addr} {o : Obj} {kv : List (Key × V)} {ks : List (Key × W)} (h : B d = some (.frz o (.dK kv))) (e : kv.map Prod.fst = ks.map Prod.fst) : Wk K B ρ (Itk d o kv) (still (ks.map fun p => keyOfW p.1)) := by
  have ln := congrArg List.length e
  simp only [List.length_map] at ln
  refine ⟨⟨fun H => H d = some (.frz o (.dK kv)), fun i H x H' => H' = H ∧ ∃ k v, kv[i]? = some (k, v) ∧ x = kV k, ?_, fun ρ1 S B1 H s p sr _ => sr.same _ _ (s _ _ h), fun i x H H' ρ1 S B1 hi s p sr _ y => ?_⟩⟩
  · show Walk _ (ks.map _).length _ _
    rw [List.length_map, ← ln]
    exact walk_keys
  · obtain ⟨rfl, k, v, h1, rfl⟩ := y
    obtain ⟨w, h2⟩ := zip_at e h1
    refine ⟨B1, keyOfW k, ?_, Ext.refl, sr, ?_⟩
    · show (ks.map _)[i]? = _
      rw [List.getElem?_map, h2]
      rfl
    · cases k with
      | inl n => exact .int n
      | inr z => exact .str z
theorem wk_vals {K : PySem.W.Frag} {B : Hp} {ρ : List Addr} {d : Addr} {o : Obj} {kv : List (Key × V)} {ks : List (Key × W)} (h : B d = some (.frz o (.dK kv))) (e : kv.map Prod.fst = ks.map Prod.fst) (r : RepL K B ρ (kv.map Prod.snd) (ks.map Prod.snd)) : Wk K B ρ (Itd d o kv) (still (ks.map Prod.snd)) := by
  have ln := congrArg List.length e
  simp only [List.length_map] at ln
  refine ⟨⟨fun H => H d = some (.frz o (.dK kv)), fun i H x H' => H' = H ∧ ∃ k, kv[i]? = some (k, x), ?_, fun ρ1 S B1 H s p sr _ => sr.same _ _ (s _ _ h), fun i x H H' ρ1 S B1 hi s p sr _ y => ?_⟩⟩
  · show Walk _ (ks.map _).length _ _
    rw [List.length_map, ← ln]
    exact walk_values
  · obtain ⟨rfl, k, h1⟩ := y
    have h2 : (kv.map Prod.snd)[i]? = some x := by rw [List.getElem?_map, h1]; rfl
    obtain ⟨w, h3, h4⟩ := r.get' h2
    exact ⟨B1, w, h3, Ext.refl, sr, h4.mono s p⟩
theorem wk_items {K : PySem.W.Frag} {B : Hp} {ρ : List Addr} {d : Addr} {o : Obj} {kv : List (Key × V)} {ks : List (Key × W)} (h : B d = some (.frz o (.dK kv))) (e : kv.map Prod.fst = ks.map Prod.fst) (r : RepL K B ρ (kv.map Prod.snd) (ks.map Prod.snd)) : Wk K B ρ (Iti d o kv) (still (ks.map fun p => W.tup [keyOfW p.1, p.2])) := by
  have ln := congrArg List.length e
  simp only [List.length_map] at ln
  refine ⟨⟨fun H => H d = some (.frz o (.dK kv)), YPair (fun i => kv[i]?.map fun q => kV q.1) (fun i => kv[i]?.map Prod.snd), ?_, fun ρ1 S B1 H s p sr _ => sr.same _ _ (s _ _ h), fun i x H H' ρ1 S B1 hi s p sr _ y => ?_⟩⟩
  · show Walk _ (ks.map _).length _ _
    rw [List.length_map, ← ln]
    exact walk_items
  · obtain ⟨T, a, b, rfl, h2, rfl, h4, h5⟩ := y
    dsimp only at h4 h5
    cases q : kv[i]? with
    | none => rw [q] at h4; cases h4
    | some p0 =>
      obtain ⟨k, v⟩ := p0
      rw [q] at h4 h5
      cases h4
      cases h5
      obtain ⟨w, h6⟩ := zip_at e q
      have h7 : (kv.map Prod.snd)[i]? = some v := by rw [List.getElem?_map, q]; rfl
      obtain ⟨w', h8, h9⟩ := r.get' h7
      have ew : w' = w := by
        rw [List.getElem?_map, h6] at h8
        cases h8
        rfl
      subst ew
      have rk : Rep K B1 ρ1 (kV k) (keyOfW k) := by
        cases k with
        | inl n => exact .int n
        | inr z => exact .str z
      have e2 : Ext ρ1 B1 H ρ1 (upd B1 T (.tup [kV k, v])) (upd H T (.tup [kV k, v])) := Ext.fresh sr.same h2
      refine ⟨upd B1 T (.tup [kV k, v]), W.tup [keyOfW k, w'], ?_, e2, sr.fresh h2, .tup (SqT.of upd_same) (.cons (rk.mono e2.b e2.pre) (.cons ((h9.mono s p).mono e2.b e2.pre) .nil))⟩
      show (ks.map _)[i]? = _
      rw [List.getElem?_map, h6]
      rfl
end Mi

set_option Elab.async false
set_option linter.all false
set_option maxRecDepth 100000
set_option maxHeartbeats 4000000
/-! Mi7: loops, comprehensions, one step deeper. -/
noncomputable section
namespace Mi
open PySem PySem.Spec PyProof.Rows L2
variable [Gam]
section
variable {K : PySem.W.Frag}
theorem Hold.bind0 {α β : Type} {r : R α} {f : α → Sto → R β} {ρ : List Addr} {B H : Hp} {okb : β → Sto → List Addr → Hp → Hp → Prop} {ex : Str → List (Str × W) → Env' → List Addr → Hp → Hp → Prop} (h : Hold K (r.bind f) ρ B H okb ex) :
    Hold K r ρ B H (fun a S _ _ _ => Hold K (f a S) ρ B H okb ex) ex := by
  cases r with
  | ok a S => exact fun _ _ _ _ _ => h
  | exc c fs en S => exact h
  | bad => exact h
theorem SR.notin {ρ : List Addr} {S : Sto} {B H : Hp} (s : SR K ρ S B H) {a : Addr} (h : H a = none) : a ∉ ρ := fun hm => by
  obtain ⟨i, hi⟩ := List.getElem?_of_mem hm
  have hl : i < S.length := by rw [← s.len]; exact (List.getElem?_eq_some_iff.mp hi).1
  obtain ⟨u, hu⟩ := (s.cell i a S[i] hi (by simp [hl])).held s.same
  rw [h] at hu
  cases hu
/-- what is not held changes -/
theorem SR.side {ρ : List Addr} {S : Sto} {B H : Hp} {a : Addr} {o : HO} (s : SR K ρ S B H) (hb : B a = none) (hn : a ∉ ρ) : SR K ρ S B (upd H a o) := by
  refine ⟨fun c u q => ?_, s.len, s.nd, fun i c so e1 e2 => ?_⟩
  · rw [upd_ne (ne_of_none q hb)]
    exact s.same c u q
  · have hc : c ≠ a := fun e => hn (by rw [← e]; exact List.mem_of_getElem? e1)
    exact (s.cell i c so e1 e2).mono (Same.refl B) ⟨[], by simp⟩ (fun n => n) (fun u hu => by rw [upd_ne hc]; exact hu)
theorem Ext.side {ρ ρ1 : List Addr} {B B1 H H1 : Hp} {a : Addr} {o : HO} (e : Ext ρ B H ρ1 B1 H1) (h : H a = none) : Ext ρ B H ρ1 B1 (upd H1 a o) := by
  refine ⟨e.b, e.p, fun c u q hn => ?_, fun c u q => ?_, e.new⟩
  · rw [upd_ne (ne_of_none q h)]
    exact e.frame c u q hn
  · rw [upd_ne (ne_of_none q h)]
    exact e.there c u q
/-- what was not held is kept, never to change -/
theorem SR.keep {ρ : List Addr} {S : Sto} {B H : Hp} {a : Addr} {o : HO} (s : SR K ρ S B H) (hb : B a = none) (hn : a ∉ ρ) (ha : H a = some o) : SR K ρ S (upd B a o) H := by
  have sm : Same B (upd B a o) := fun c u q => by
    rw [upd_ne (ne_of_none q hb)]
    exact q
  refine ⟨fun c u q => ?_, s.len, s.nd, fun i c so e1 e2 => ?_⟩
  · by_cases hc : c = a
    · subst hc
      rw [upd_same] at q
      cases q
      exact ha
    · rw [upd_ne hc] at q
      exact s.same c u q
  · have hc : c ≠ a := fun e => hn (by rw [← e]; exact List.mem_of_getElem? e1)
    exact (s.cell i c so e1 e2).mono sm ⟨[], by simp⟩ (fun n => by rw [upd_ne hc]; exact n) (fun u hu => hu)
/-- what was laid becomes a cell -/
theorem SR.own {ρ : List Addr} {S : Sto} {B H : Hp} {a : Addr} {xs : List V} {ws : List W} (s : SR K ρ S B H) (hn : a ∉ ρ) (hb : B a = none) (ha : H a = some (.lst xs)) (r : RepL K B ρ xs ws) : SR K (ρ ++ [a]) (S ++ [SO.lst ws]) B H := by
  refine ⟨s.same, by simp [s.len], ?_, fun i c so' e1 e2 => ?_⟩
  · rw [List.nodup_append]
    refine ⟨s.nd, by simp, fun x hx y hy e => ?_⟩
    rw [List.mem_singleton.mp hy] at e
    rw [e] at hx
    exact hn hx
  · by_cases hi : i < ρ.length
    · rw [List.getElem?_append_left hi] at e1
      rw [List.getElem?_append_left (by rw [← s.len]; exact hi)] at e2
      exact (s.cell i c so' e1 e2).mono (Same.refl B) ⟨[a], rfl⟩ (fun n => n) (fun u hu => hu)
    · have hl : i = ρ.length := by
        have z := (List.getElem?_eq_some_iff.mp e1).1
        simp at z
        omega
      subst hl
      simp at e1
      rw [s.len] at e2
      simp at e2
      subst e1
      subst e2
      exact Cel.mk hb ha (.lst (r.mono (Same.refl B) ⟨[a], rfl⟩))
theorem Ext.own {ρ ρ1 : List Addr} {B B1 H H1 : Hp} {a : Addr} (e : Ext ρ B H ρ1 B1 H1) (h : H a = none) : Ext ρ B H (ρ1 ++ [a]) B1 H1 := by
  obtain ⟨m, hm, hf⟩ := e.p
  refine ⟨e.b, ⟨m ++ [a], by rw [hm, List.append_assoc], fun c hc => ?_⟩, e.frame, e.there, e.new⟩
  rcases List.mem_append.mp hc with hc | hc
  · exact hf c hc
  · rw [List.mem_singleton.mp hc]
    exact h
theorem Ext.keep {ρ ρ1 : List Addr} {B B1 H H1 : Hp} {a : Addr} {o : HO} (e : Ext ρ B H ρ1 B1 H1) (h : H a = none) (hb : B1 a = none) : Ext ρ B H ρ1 (upd B1 a o) H1 := by
  refine ⟨fun c u q => ?_, e.p, e.frame, e.there, fun c u q nr n => ?_⟩
  · have z := e.b c u q
    rw [upd_ne (ne_of_none z hb)]
    exact z
  · rw [upd_ne (ne_of_none q h)]
    exact e.new c u q nr n
end
section
variable {pg : Pg} {cl : Str → List W → Sto → R W} {E : Evs} {g : Gm} {Wx : WX} {X : Cx}

/-! ### for -/
theorem drop_at {α : Type} {l : List α} {i : Nat} {x : α} (h : l[i]? = some x) : l.drop i = x :: l.drop (i + 1) := by
  obtain ⟨hi, e⟩ := List.getElem?_eq_some_iff.mp h
  rw [List.drop_eq_getElem_cons hi, e]
theorem forR_chk {K : PySem.W.Frag} {body : Env' → Sto → R Out'} {bnd : W → Env' → Option Env'} {chk : Sto → Bool} {ws : List W} {env : Env'} {S : Sto} {ρ : List Addr} {B H : Hp} {ok : Out' → Sto → List Addr → Hp → Hp → Prop} {ex : Str → List (Str × W) → Env' → List Addr → Hp → Hp → Prop}
    (h : Hold K (forR body bnd chk ws env S) ρ B H ok ex) : chk S = true := by
  cases ws with
  | nil => exact (show Hold K (guard' (chk S) (.ok (.next env) S)) ρ B H ok ex from h).grd.1
  | cons w ws =>
    unfold forR at h
    exact h.grd.1
theorem lcR_chk {K : PySem.W.Frag} {fl : Bool} {step : W → Sto → R (Option W)} {chk : Sto → Bool} {ws acc : List W} {S : Sto} {ρ : List Addr} {B H : Hp} {ok : W → Sto → List Addr → Hp → Hp → Prop} {ex : Str → List (Str × W) → Env' → List Addr → Hp → Hp → Prop}
    (h : Hold K (lcR fl step chk ws acc S) ρ B H ok ex) : chk S = true := by
  cases ws with
  | nil => exact (show Hold K (guard' (chk S) (laidR fl acc S)) ρ B H ok ex from h).grd.1
  | cons w ws =>
    unfold lcR at h
    exact h.grd.1
theorem forR_ok {K : PySem.W.Frag} {body : Env' → Sto → R Out'} {tg : Expr} {items : Itm} {ex : Str → List (Str × W) → Env' → List Addr → Hp → Hp → Prop} {J : It} {tb : TS} {D : Ends} {σ : L2.St} {H : Hp} {env : Env'} {S : Sto} {ρ : List Addr} {B : Hp}
    (hb : ∀ {env : Env'} {S : Sto} {σ : L2.St} {ρ : List Addr} {B H : Hp} {D : Ends}, Sl K B ρ σ env → SR K ρ S B H → Hold K (body env S) ρ B H (okS K D) ex → tb D σ H)
    (wk : Wk K B ρ J items) (sl : Sl K B ρ σ env) (sr : SR K ρ S B H) (h : Hold K (forR body (bindT g tg) items.2 items.1 env S) ρ B H (okS K D) ex) :
    ∃ W : Nat → Nat → L2.St → Hp → Prop, (∃ m, W 0 m σ H) ∧ ∀ i m σ H, W i m σ H →
      (J.stop i H ∧ D.nx σ H) ∨ (J.go i H ∧ ∃ N : L2.St → Hp → Prop, (∀ σ' H', N σ' H' → ∃ m', m' < m ∧ W (i + 1) m' σ' H') ∧ ∀ x H', J.yld i H x H' → tgG K g tg x σ H' fun σ2 H2 => tb { D with nx := N, ct := N, bk := D.nx } σ2 H2) := by
  obtain ⟨G, Y, w, hG, hY⟩ := wk.wk
  refine for_it w (fun i σ' H' => ∃ env S ρ1 B1, Same B B1 ∧ (∃ m, ρ1 = ρ ++ m) ∧ Sl K B1 ρ1 σ' env ∧ SR K ρ1 S B1 H' ∧ Hold K (forR body (bindT g tg) items.2 (items.1.drop i) env S) ρ1 B1 H' (okS K D) ex) ?_ ?_ ?_ ?_
  · exact ⟨env, S, ρ, B, Same.refl B, ⟨[], by simp⟩, sl, sr, h⟩
  · rintro i σ' H' hi ⟨env, S, ρ1, B1, s, p, _, sr, h⟩
    exact hG ρ1 S B1 H' s p sr (forR_chk h)
  · rintro i x σ' H1 H2 hi ⟨env, S, ρ1, B1, s, p, sl, sr, h⟩ y
    obtain ⟨B2, wi, e1, e2, s2, rx⟩ := hY i x H1 H2 ρ1 S B1 hi s p sr (forR_chk h) y
    have h2 := h.ext e2
    rw [drop_at e1] at h2
    unfold forR at h2
    replace h2 := h2.grd.2
    cases q : bindT g tg wi env with
    | none => rw [q] at h2; exact h2.elim
    | some env1 =>
      rw [q] at h2
      refine bindT_ok s2 (sl.mono e2) rx q fun σ2 sl2 _ => ?_
      refine hb sl2 s2 (h2.bind.imp (fun o S3 ρ3 B3 H3 x3 s3 k => ?_) fun _ _ _ _ _ _ z => z)
      have pp : Same B B3 ∧ ∃ m, ρ3 = ρ ++ m := by
        obtain ⟨m1, p1⟩ := p
        obtain ⟨m2, p2⟩ := e2.pre
        obtain ⟨m3, p3⟩ := x3.pre
        exact ⟨(s.trans e2.b).trans x3.b, ⟨m1 ++ m2 ++ m3, by rw [p3, p2, p1]; simp⟩⟩
      cases o with
      | next env2 => exact fun σ3 sl3 => ⟨env2, S3, ρ3, B3, pp.1, pp.2, sl3, s3, k⟩
      | cont env2 => exact fun σ3 sl3 => ⟨env2, S3, ρ3, B3, pp.1, pp.2, sl3, s3, k⟩
      | brk env2 => exact fun σ3 sl3 => k.here s3 σ3 sl3
      | ret v => exact fun u ru => k.here s3 u ru
  · rintro σ' H' ⟨env, S, ρ1, B1, s, p, sl, sr, h⟩
    rw [List.drop_length] at h
    exact (show Hold K (guard' (items.2 S) (.ok (.next env) S)) ρ1 B1 H' (okS K D) ex from h).grd.2.here sr σ' sl

/-! ### while -/
theorem whileR_ok {K : PySem.W.Frag} {test : Env' → Sto → R Bool} {body : Env' → Sto → R Out'} {ex : Str → List (Str × W) → Env' → List Addr → Hp → Hp → Prop} {tt : TT} {tb : TS} {D : Ends} {σ : L2.St} {H : Hp} {env : Env'} {S : Sto} {ρ : List Addr} {B : Hp} {m : Nat}
    (ht : ∀ {env : Env'} {S : Sto} {σ : L2.St} {ρ : List Addr} {B H : Hp} {Q : Bool → Hp → Prop}, Sl K B ρ σ env → SR K ρ S B H → Hold K (test env S) ρ B H (okT Q) ex → tt σ H Q)
    (hb : ∀ {env : Env'} {S : Sto} {σ : L2.St} {ρ : List Addr} {B H : Hp} {D : Ends}, Sl K B ρ σ env → SR K ρ S B H → Hold K (body env S) ρ B H (okS K D) ex → tb D σ H)
    (sl : Sl K B ρ σ env) (sr : SR K ρ S B H) (h : Hold K (whileR test body m env S) ρ B H (okS K D) ex) : tWhile tt tb D σ H := by
  refine ⟨fun m σ' H' => ∃ env S ρ1 B1, Sl K B1 ρ1 σ' env ∧ SR K ρ1 S B1 H' ∧ Hold K (whileR test body m env S) ρ1 B1 H' (okS K D) ex, ⟨m, env, S, ρ, B, sl, sr, h⟩, ?_⟩
  rintro m σ' H' ⟨env, S, ρ1, B1, sl, sr, h⟩
  cases m with
  | zero => exact h.elim
  | succ m =>
    unfold whileR at h
    refine ht sl sr (h.bind.imp (fun c S2 ρ2 B2 H2 x2 s2 k => ?_) fun _ _ _ _ _ _ z => z)
    cases c with
    | false =>
      exact (show D.nx σ' H2 from k.here s2 σ' (sl.mono x2))
    | true =>
      refine ⟨fun σ3 H3 => ∃ env S ρ1 B1, Sl K B1 ρ1 σ3 env ∧ SR K ρ1 S B1 H3 ∧ Hold K (whileR test body m env S) ρ1 B1 H3 (okS K D) ex, fun σ3 H3 n => ⟨m, Nat.lt_succ_self m, n⟩, ?_⟩
      refine hb (sl.mono x2) s2 (k.bind.imp (fun o S3 ρ3 B3 H3 x3 s3 k => ?_) fun _ _ _ _ _ _ z => z)
      cases o with
      | next env2 => exact fun σ3 sl3 => ⟨env2, S3, ρ3, B3, sl3, s3, k⟩
      | cont env2 => exact fun σ3 sl3 => ⟨env2, S3, ρ3, B3, sl3, s3, k⟩
      | brk env2 => exact fun σ3 sl3 => k.here s3 σ3 sl3
      | ret v => exact fun u ru => k.here s3 u ru

theorem any_keys {k : Key} : ∀ {kv : List (Key × V)} {ks : List (Key × W)}, kv.map Prod.fst = ks.map Prod.fst → (kv.any fun p => decide (p.1 = k)) = (ks.any fun p => decide (p.1 = k))
  | [], [], _ => rfl
  | [], _ :: _, e => by cases e
  | _ :: _, [], e => by cases e
  | (x, v) :: kv, (y, w) :: ks, e => by
    injection e with e1 e2
    have e1 : x = y := e1
    rw [List.any_cons, List.any_cons, any_keys e2, e1]
theorem map_kv {K : PySem.W.Frag} {ρ : List Addr} {B : Hp} {k : Key} {y : V} {u : W} (ry : Rep K B ρ y u) : ∀ {kv : List (Key × V)} {ks : List (Key × W)}, kv.map Prod.fst = ks.map Prod.fst → RepL K B ρ (kv.map Prod.snd) (ks.map Prod.snd) →
    (kv.map (fun p => if p.1 = k then (p.1, y) else p)).map Prod.fst = (ks.map (fun p => if p.1 = k then (p.1, u) else p)).map Prod.fst ∧ RepL K B ρ ((kv.map (fun p => if p.1 = k then (p.1, y) else p)).map Prod.snd) ((ks.map (fun p => if p.1 = k then (p.1, u) else p)).map Prod.snd)
  | [], [], _, _ => ⟨rfl, .nil⟩
  | [], _ :: _, e, _ => by cases e
  | _ :: _, [], e, _ => by cases e
  | (x, v) :: kv, (z, w) :: ks, e, r => by
    injection e with e1 e2
    have e1 : x = z := e1
    subst e1
    cases r with
    | cons r1 r2 =>
      obtain ⟨h1, h2⟩ := map_kv ry e2 r2
      simp only [List.map_cons]
      by_cases h : x = k
      · simp only [h, if_true]
        exact ⟨by rw [h1], .cons ry h2⟩
      · simp only [h, if_false]
        exact ⟨by rw [h1], .cons r1 h2⟩
theorem store_kv {K : PySem.W.Frag} {ρ : List Addr} {B : Hp} {k : Key} {y : V} {u : W} (ry : Rep K B ρ y u) {kv : List (Key × V)} {ks : List (Key × W)} (e : kv.map Prod.fst = ks.map Prod.fst) (r : RepL K B ρ (kv.map Prod.snd) (ks.map Prod.snd)) :
    (putK kv k y).map Prod.fst = (storeK ks k u).map Prod.fst ∧ RepL K B ρ ((putK kv k y).map Prod.snd) ((storeK ks k u).map Prod.snd) := by
  unfold putK storeK
  rw [any_keys e]
  split
  · exact map_kv ry e r
  · rw [List.map_append, List.map_append, List.map_append, List.map_append, e]
    exact ⟨rfl, r.append (.cons ry .nil)⟩
/-! ### comprehensions -/
def wEb (X : Cx) (scope : Scope) (e : Expr) : TE := fun σ H Q => ∀ (s0 : Shared) (H0 : Hp) (C : Addr) (cl : List (Str × Addr)) (fp : List Addr), wE (X.blk s0 H0 scope (compEnvC scope cl C X.env) fp) e σ H Q
def wTb (X : Cx) (scope : Scope) (e : Expr) : TT := fun σ H Q => ∀ (s0 : Shared) (H0 : Hp) (C : Addr) (cl : List (Str × Addr)) (fp : List Addr), wT (X.blk s0 H0 scope (compEnvC scope cl C X.env) fp) e σ H Q
theorem cx_blk (C : CxOk pg cl g Wx X) (scope : Scope) (s0 : Shared) (H0 : Hp) (Ca : Addr) (cls : List (Str × Addr)) (fp : List Addr) : CxOk pg cl (blkG g scope) (fun _ _ _ _ => False) (X.blk s0 H0 scope (compEnvC scope cls Ca X.env) fp) where
  N := C.N
  nd := C.nd
  sc := by
    show relS scope X.env.scope = relS scope g.sc
    rw [C.sc]
  fn := rfl
  calm := C.calm
  un := C.un
  pass := PassesOwn.never
  tk := takes0
  cst := C.cst
  fns := C.fns
  free := C.free
  flds := C.flds
  xcs := C.xcs
  top := fun h => by cases h
  exk := C.exk
  exm := C.exm
  exf := C.exf
  exi := C.exi
  isi := C.isi
  mts := C.mts
  news := C.news
/-- what a turn of a comprehension leaves -/
def turnP (Dl : Addr) (PN : Hp → Prop) : Option V → Hp → Prop
  | none, H' => PN H'
  | some y, H' => ∃ acc, H' Dl = some (.lst acc) ∧ acc.length < sizeLine ∧ PN (upd H' Dl (.lst (acc ++ [y])))
theorem lcR_ok {K : PySem.W.Frag} {fl : Bool} {step : W → Sto → R (Option W)} {tg : Expr} {items : Itm} {ex : Str → List (Str × W) → Env' → List Addr → Hp → Hp → Prop} {J : It} {tt : TT} {te : TE} {σ : L2.St} {H : Hp} {env : Env'} {S : Sto} {ρ : List Addr} {B : Hp} {vs : List Nat} {Q : VK} {Dl : Addr}
    (hv : ∀ i ∈ slots g tg, i ∈ vs)
    (hs : ∀ {w : W} {S : Sto} {σ : L2.St} {ρ : List Addr} {B H : Hp} {P : Option V → Hp → Prop}, Sl K B ρ σ env → SR K ρ S B H → ∀ {v}, Rep K B ρ v w → Hold K (step w S) ρ B H (fun o S' ρ' B' H' => match o with
        | none => P none H'
        | some y => ∀ v', Rep K B' ρ' v' y → P (some v') H') ex → tgG K g tg v (wipe σ vs) H fun σ2 H2 => wipe σ2 vs = wipe σ vs ∧ tt σ2 H2 fun b H3 => if b = true then te σ2 H3 fun y H4 => P (some y) H4 else P none H3)
    (wk : Wk K B ρ J items) (sl : Sl K B ρ σ env) (sr : SR K ρ S B H) (hD : H Dl = none) (h : Hold K (lcR fl step items.2 items.1 [] S) ρ B H (okE K Q) ex) :
    ∃ W : Nat → Nat → Hp → Prop, (∃ m, W 0 m (upd H Dl (.lst []))) ∧ ∀ i m H, W i m H →
      (J.stop i H ∧ Q (.ref Dl) H) ∨ (J.go i H ∧ ∃ Nx : Hp → Prop, (∀ H', Nx H' → ∃ m', m' < m ∧ W (i + 1) m' H') ∧ ∀ x H', J.yld i H x H' → tgG K g tg x (wipe σ vs) H' fun σ2 H2 => wipe σ2 vs = wipe σ vs ∧ tt σ2 H2 fun b H3 =>
        if b = true then te σ2 H3 fun y H4 => ∃ acc, H4 Dl = some (.lst acc) ∧ acc.length < sizeLine ∧ Nx (upd H4 Dl (.lst (acc ++ [y]))) else Nx H3) := by
  obtain ⟨G, Y, w, hG, hY⟩ := wk.wk
  refine lc_it w (fun i H' => ∃ S ρ1 B1 acc accV, Ext ρ B H ρ1 B1 H' ∧ SR K ρ1 S B1 H' ∧ H' Dl = some (.lst accV) ∧ Dl ∉ ρ1 ∧ B1 Dl = none ∧ RepL K B1 ρ1 accV acc ∧ Hold K (lcR fl step items.2 (items.1.drop i) acc S) ρ B H (okE K Q) ex) ?_ ?_ ?_ ?_
  · exact ⟨S, ρ, B, [], [], Ext.refl.side hD, sr.junk hD, upd_same, sr.notin hD, sr.same.free hD, .nil, h⟩
  · rintro i H' hi ⟨S, ρ1, B1, acc, accV, x, s, _, _, _, _, h⟩
    exact hG ρ1 S B1 H' x.b x.pre s (lcR_chk h)
  · rintro i x H1 H2 hi ⟨S, ρ1, B1, acc, accV, x1, s1, hd, hn, hb, ra, h⟩ y
    obtain ⟨B2, wi, e1, e2, s2, rx⟩ := hY i x H1 H2 ρ1 S B1 hi x1.b x1.pre s1 (lcR_chk h) y
    rw [drop_at e1] at h
    unfold lcR at h
    replace h := h.grd.2
    have x2 := x1.trans e2
    have hd2 := e2.frame _ _ hd hn
    have hb2 := e2.new _ _ hd hn hb
    have hn2 : Dl ∉ ρ := sr.notin hD
    have key := (h.bind0).ext x2
    refine hs (P := turnP Dl _) (sl.mono x2) s2 rx (key.imp (fun o S3 ρ3 B3 H3 x3 s3 k => ?_) fun _ _ _ _ _ _ z => z)
    have hnr : Dl ∉ ρ3 := by
      obtain ⟨m3, p3, q3⟩ := x3.p
      intro hm
      rw [p3] at hm
      rcases List.mem_append.mp hm with hm | hm
      · exact hn hm
      · rw [q3 _ hm] at hd2; cases hd2
    have hd3 := x3.frame _ _ hd2 hn
    have hb3 := x3.new _ _ hd2 hn hb2
    have ra3 := ra.mono (e2.trans x3).b (e2.trans x3).pre
    cases o with
    | none => exact ⟨S3, ρ3, B3, acc, accV, x2.trans x3, s3, hd3, hnr, hb3, ra3, k⟩
    | some y =>
      intro v' rv
      obtain ⟨k1, k2⟩ := k.grd
      refine ⟨accV, hd3, ?_, S3, ρ3, B3, acc ++ [y], accV ++ [v'], (x2.trans x3).side hD, s3.side hb3 hnr, upd_same, hnr, hb3, ra3.append (.cons rv .nil), k2⟩
      rw [ra3.length]
      exact small_lt k1
  · rintro H' ⟨S, ρ1, B1, acc, accV, x, s, hd, hn, hb, ra, h⟩
    rw [List.drop_length] at h
    replace h := (show Hold K (guard' (items.2 S) (laidR fl acc S)) _ _ _ (okE K Q) ex from h).grd.2
    cases fl with
    | true => exact h (ρ1 ++ [Dl]) B1 H' (x.own hD) (s.own hn hb hd ra) _ (.ref (by rw [← s.len]; simp))
    | false =>
    refine h ρ1 (upd B1 Dl (.lst accV)) H' (x.keep hD hb) (s.keep hb hn hd) _ (.lst upd_same (ra.mono (fun c u q => ?_) ⟨[], by simp⟩))
    rw [upd_ne (ne_of_none q hb)]
    exact q
/-! ### a dict's comprehension -/
theorem dc_it {J : It} {n : Nat} {G : Hp → Prop} {Y : Nat → Hp → V → Hp → Prop} (w : Walk J n G Y) {g : TG} {tt : TT} {tk tv : TE} {vs : List Nat} {σ : L2.St} {H1 : Hp} {D : Addr} {Qd : Hp → Prop} (Pv : Nat → Hp → Prop) (h0 : Pv 0 (upd H1 D (.dK []))) (hG : ∀ i H, i ≤ n → Pv i H → G H)
    (hs : ∀ i x H H', i < n → Pv i H → Y i H x H' → g x (wipe σ vs) H' fun σ2 H2 => wipe σ2 vs = wipe σ vs ∧ tt σ2 H2 fun b H3 =>
      if b = true then tk σ2 H3 fun y H4 => tv σ2 H4 fun z H5 => ∃ kvs k, y = kV k ∧ H5 D = some (.dK kvs) ∧ kvs.length < sizeLine ∧ Pv (i + 1) (upd H5 D (.dK (putK kvs k z))) else Pv (i + 1) H3) (hd : ∀ H, Pv n H → Qd H) :
    ∃ W : Nat → Nat → Hp → Prop, (∃ m, W 0 m (upd H1 D (.dK []))) ∧ ∀ i m H, W i m H →
      (J.stop i H ∧ Qd H) ∨ (J.go i H ∧ ∃ Nx : Hp → Prop, (∀ H', Nx H' → ∃ m', m' < m ∧ W (i + 1) m' H') ∧ ∀ x H', J.yld i H x H' → g x (wipe σ vs) H' fun σ2 H2 => wipe σ2 vs = wipe σ vs ∧ tt σ2 H2 fun b H3 =>
        if b = true then tk σ2 H3 fun y H4 => tv σ2 H4 fun z H5 => ∃ kvs k, y = kV k ∧ H5 D = some (.dK kvs) ∧ kvs.length < sizeLine ∧ Nx (upd H5 D (.dK (putK kvs k z))) else Nx H3) := by
  refine ⟨fun i m H => m = n - i ∧ i ≤ n ∧ Pv i H, ⟨n, (Nat.sub_zero n).symm, Nat.zero_le _, h0⟩, ?_⟩
  intro i m H hw
  obtain ⟨em, hi, p⟩ := hw
  have g0 := hG i H hi p
  rcases Nat.lt_or_eq_of_le hi with lt | eq
  · exact .inr ⟨w.goes i H lt g0, Pv (i + 1), fun H' q => ⟨n - (i + 1), by omega, rfl, lt, q⟩, fun x H' y => hs i x H H' lt p (w.yields i H x H' lt g0 y)⟩
  · subst eq
    exact .inl ⟨w.stops H g0, hd H p⟩
def turnD (Dl : Addr) (PN : Hp → Prop) : Option (V × V) → Hp → Prop
  | none, H' => PN H'
  | some (y, z), H' => ∃ kvs k, y = kV k ∧ H' Dl = some (.dK kvs) ∧ kvs.length < sizeLine ∧ PN (upd H' Dl (.dK (putK kvs k z)))
theorem dcR_ok {K : PySem.W.Frag} {step : W → Sto → R (Option (W × W))} {tg : Expr} {items : Itm} {ex : Str → List (Str × W) → Env' → List Addr → Hp → Hp → Prop} {J : It} {tt : TT} {tk tv : TE} {σ : L2.St} {H : Hp} {env : Env'} {S : Sto} {ρ : List Addr} {B : Hp} {vs : List Nat} {Q : VK} {Dl : Addr}
    (hs : ∀ {w : W} {S : Sto} {σ : L2.St} {ρ : List Addr} {B H : Hp} {P : Option (V × V) → Hp → Prop}, Sl K B ρ σ env → SR K ρ S B H → ∀ {v}, Rep K B ρ v w → Hold K (step w S) ρ B H (fun o S' ρ' B' H' => match o with
        | none => P none H'
        | some (k, y) => ∀ v1 v2, Rep K B' ρ' v1 k → Rep K B' ρ' v2 y → P (some (v1, v2)) H') ex → tgG K g tg v (wipe σ vs) H fun σ2 H2 => wipe σ2 vs = wipe σ vs ∧ tt σ2 H2 fun b H3 => if b = true then tk σ2 H3 fun y H4 => tv σ2 H4 fun z H5 => P (some (y, z)) H5 else P none H3)
    (wk : Wk K B ρ J items) (sl : Sl K B ρ σ env) (sr : SR K ρ S B H) (hD : H Dl = none) (h : Hold K (dcR step items.2 items.1 [] S) ρ B H (okE K Q) ex) :
    ∃ W : Nat → Nat → Hp → Prop, (∃ m, W 0 m (upd H Dl (.dK []))) ∧ ∀ i m H, W i m H →
      (J.stop i H ∧ Q (.ref Dl) H) ∨ (J.go i H ∧ ∃ Nx : Hp → Prop, (∀ H', Nx H' → ∃ m', m' < m ∧ W (i + 1) m' H') ∧ ∀ x H', J.yld i H x H' → tgG K g tg x (wipe σ vs) H' fun σ2 H2 => wipe σ2 vs = wipe σ vs ∧ tt σ2 H2 fun b H3 =>
        if b = true then tk σ2 H3 fun y H4 => tv σ2 H4 fun z H5 => ∃ kvs k, y = kV k ∧ H5 Dl = some (.dK kvs) ∧ kvs.length < sizeLine ∧ Nx (upd H5 Dl (.dK (putK kvs k z))) else Nx H3) := by
  obtain ⟨G, Y, w, hG, hY⟩ := wk.wk
  have chk : ∀ {ws : List W} {acc : List (Key × W)} {S : Sto}, Hold K (dcR step items.2 ws acc S) ρ B H (okE K Q) ex → items.2 S = true := fun {ws acc S} h => by
    cases ws with
    | nil => exact (show Hold K (guard' (items.2 S) (.ok (.dct acc) S)) ρ B H (okE K Q) ex from h).grd.1
    | cons w ws =>
      unfold dcR at h
      exact h.grd.1
  refine dc_it w (fun i H' => ∃ S ρ1 B1 acc accV, Ext ρ B H ρ1 B1 H' ∧ SR K ρ1 S B1 H' ∧ H' Dl = some (.dK accV) ∧ Dl ∉ ρ1 ∧ B1 Dl = none ∧ (accV.map Prod.fst = acc.map Prod.fst ∧ RepL K B1 ρ1 (accV.map Prod.snd) (acc.map Prod.snd)) ∧ Hold K (dcR step items.2 (items.1.drop i) acc S) ρ B H (okE K Q) ex) ?_ ?_ ?_ ?_
  · exact ⟨S, ρ, B, [], [], Ext.refl.side hD, sr.junk hD, upd_same, sr.notin hD, sr.same.free hD, ⟨rfl, .nil⟩, h⟩
  · rintro i H' _ ⟨S, ρ1, B1, acc, accV, x, s, _, _, _, _, h⟩
    exact hG ρ1 S B1 H' x.b x.pre s (chk h)
  · rintro i x H1 H2 hi ⟨S, ρ1, B1, acc, accV, x1, s1, hd, hn, hb, ra, h⟩ y
    obtain ⟨B2, wi, e1, e2, s2, rx⟩ := hY i x H1 H2 ρ1 S B1 hi x1.b x1.pre s1 (chk h) y
    rw [drop_at e1] at h
    unfold dcR at h
    replace h := h.grd.2
    have x2 := x1.trans e2
    have hd2 := e2.frame _ _ hd hn
    have hb2 := e2.new _ _ hd hn hb
    have key := (h.bind0).ext x2
    refine hs (P := turnD Dl _) (sl.mono x2) s2 rx (key.imp (fun o S3 ρ3 B3 H3 x3 s3 k => ?_) fun _ _ _ _ _ _ z => z)
    have hnr : Dl ∉ ρ3 := by
      obtain ⟨m3, p3, q3⟩ := x3.p
      intro hm
      rw [p3] at hm
      rcases List.mem_append.mp hm with hm | hm
      · exact hn hm
      · rw [q3 _ hm] at hd2; cases hd2
    have hd3 := x3.frame _ _ hd2 hn
    have hb3 := x3.new _ _ hd2 hn hb2
    have ra3 := ra.2.mono (e2.trans x3).b (e2.trans x3).pre
    cases o with
    | none => exact ⟨S3, ρ3, B3, acc, accV, x2.trans x3, s3, hd3, hnr, hb3, ⟨ra.1, ra3⟩, k⟩
    | some ky =>
      obtain ⟨kk, yy⟩ := ky
      intro v1 v2 r1 r2
      have k' : Hold K (match keyW kk with
        | some k => guard' (small (acc.length + 1)) (dcR step items.2 (items.1.drop (i + 1)) (storeK acc k yy) S3)
        | none => .bad) ρ B H (okE K Q) ex := k
      cases qk : keyW kk with
      | none => rw [qk] at k'; exact k'.elim
      | some key0 =>
        rw [qk] at k'
        obtain ⟨k1, k2⟩ := k'.grd
        have l1 := congrArg List.length ra.1
        simp only [List.length_map] at l1
        obtain ⟨z1, z2⟩ := store_kv (k := key0) r2 ra.1 ra3
        exact ⟨accV, key0, keyW_ok r1 qk, hd3, by rw [l1]; exact small_lt k1, S3, ρ3, B3, storeK acc key0 yy, putK accV key0 v2, (x2.trans x3).side hD, s3.side hb3 hnr, upd_same, hnr, hb3, ⟨z1, z2⟩, k2⟩
  · rintro H' ⟨S, ρ1, B1, acc, accV, x, s, hd, hn, hb, ra, h⟩
    rw [List.drop_length] at h
    replace h := (show Hold K (guard' (items.2 S) (.ok (.dct acc) S)) _ _ _ (okE K Q) ex from h).grd.2
    refine h ρ1 (upd B1 Dl (.dK accV)) H' (x.keep hD hb) (s.keep hb hn hd) _ (.dct (.inl upd_same) ra.1 (ra.2.mono (fun c u q => ?_) ⟨[], by simp⟩))
    rw [upd_ne (ne_of_none q hb)]
    exact q
end
end Mi

set_option Elab.async false
set_option linter.all false
set_option maxRecDepth 100000
set_option maxHeartbeats 4000000
/-! Mi8: one step deeper is right. -/
noncomputable section
namespace Mi
open PySem PySem.Spec PyProof.Rows L2
variable [Gam]
section
variable {pg : Pg} {cl : Str → List W → Sto → R W} {E : Evs} {g : Gm} {Wx : WX} {X : Cx}
def tPt (X : Cx) : Option Expr → TO
  | none => tNoPart
  | some e => tPart (wE X e)
theorem poT {o : Option Expr} : PO X o (tPt X o) := by
  cases o with
  | none => exact po_none
  | some e => exact po_some pwE
theorem partR_ok (hE : EvOk pg cl E) (C : CxOk pg cl g Wx X) {β : Type} {o : Option Expr} {env : Env'} {S : Sto} {σ : L2.St} {ρ : List Addr} {B H : Hp} {Q : Option Int → Hp → Prop} {f : Option Int → Sto → R β} {ok : β → Sto → List Addr → Hp → Hp → Prop} (sl : Sl X.K B ρ σ env) (sr : SR X.K ρ S B H)
    (hd : Hold X.K ((stepE.partR E g env S o).bind f) ρ B H ok (ExP X.K X.mg Wx)) (k : ∀ w S' ρ' B' H', Ext ρ B H ρ' B' H' → SR X.K ρ' S' B' H' → Sl X.K B' ρ' σ env → Hold X.K (f w S') ρ' B' H' ok (ExP X.K X.mg Wx) → Q w H') : tPt X o σ H Q := by
  cases o with
  | none => exact k none S ρ B H Ext.refl sr sl hd
  | some e =>
    unfold stepE.partR at hd
    refine hE.e' C sl sr hd.bind fun w S1 ρ1 B1 H1 v x s1 sl1 r q => ?_
    cases w with
    | int i =>
      cases r
      exact ⟨i, rfl, k (some i) S1 ρ1 B1 H1 x s1 sl1 (q.here s1)⟩
    | _ => exact q.elim
theorem plain_ix {i : Expr} (h : plainIx i = true) : PlainIx i := by
  intro o k
  cases i <;> first | rfl | cases h
theorem not_set {i : Expr} {env : Env} (h : notSet i = true) : ∀ x, foldedSetIterable i env x = pure x := by
  intro x
  cases i <;> first | rfl | cases h
theorem names_slots {g : Gm} {N : List Str} (hN : g.N = N) {tg : Expr} (h : tgOk g tg = true) : ∀ i ∈ slots g tg, i ∈ (ownOf N tg).map (·.2) := by
  subst hN
  have one : ∀ {x : Str} {p : Pos}, nameOk g (.Name x p) = true → ∃ j, slotOf g.N x = some j := fun h => by
    unfold nameOk at h
    rw [Bool.and_eq_true] at h
    exact Option.isSome_iff_exists.mp h.2
  intro i hi
  cases tg with
  | Name x p =>
    obtain ⟨j, hj⟩ := one (p := p) h
    have e : i = j := by
      have z := List.mem_singleton.mp (show i ∈ [(slotOf g.N x).getD 0] from hi)
      rw [hj] at z
      exact z
    subst e
    unfold ownOf tgNames
    simp [hj]
  | Tuple es k p =>
    obtain ⟨e, he, hi⟩ := List.mem_filterMap.mp (show i ∈ es.filterMap (fun | .Name x _ => some ((slotOf g.N x).getD 0) | _ => none) from hi)
    cases e with
    | Name x q =>
      have z := List.all_eq_true.mp (show es.all (nameOk g) = true from h) _ he
      obtain ⟨j, hj⟩ := one (p := q) z
      have e : i = j := by
        have y : (slotOf g.N x).getD 0 = i := Option.some.inj hi
        rw [hj] at y
        exact y.symm
      subst e
      refine List.mem_map.mpr ⟨(x, i), ?_, rfl⟩
      unfold ownOf tgNames
      refine List.mem_filterMap.mpr ⟨x, List.mem_filterMap.mpr ⟨_, he, rfl⟩, by rw [hj]; rfl⟩
    | _ => cases hi
  | _ => cases hi
theorem Hold.noExc {K : PySem.W.Frag} {α : Type} {r : R α} {ρ : List Addr} {B H : Hp} {ok : α → Sto → List Addr → Hp → Hp → Prop} {ex ex' : Str → List (Str × W) → Env' → List Addr → Hp → Hp → Prop} (h : Hold K (noExc r) ρ B H ok ex) : Hold K r ρ B H ok ex' := by
  cases r with
  | ok a S => exact h
  | exc c fs e S => exact h.elim
  | bad => exact h
def ttOf (X : Cx) (scope : Scope) : List Expr → TT
  | [] => tYes
  | c :: _ => wTb X scope c
theorem pts_of {scope : Scope} {ifs : List Expr} (h : ifs.length ≤ 1) (s0 : Shared) (H0 : Hp) (Ca : Addr) (cs : List (Str × Addr)) (fp : List Addr) : PTs (X.blk s0 H0 scope (compEnvC scope cs Ca X.env) fp) ifs (ttOf X scope ifs) := by
  cases ifs with
  | nil => exact pts_nil
  | cons c r =>
    cases r with
    | nil => exact pts_one ⟨fun pins s σ' H' Q' I q => q s0 H0 Ca cs fp pins s I⟩
    | cons _ _ => simp at h
theorem lcTurn_ok (hE : EvOk pg cl E) (C : CxOk pg cl g Wx X) {elt tg : Expr} {ifs : List Expr} {scope : Scope} {env : Env'} (g3 : tgOk (blkG g scope) tg = true) (g4 : decide (ifs.length ≤ 1) = true) {w : W} {S : Sto} {σ' : L2.St} {ρ' : List Addr} {B' H' : Hp} {P : Option V → Hp → Prop}
    (sl' : Sl X.K B' ρ' σ' env) (sr' : SR X.K ρ' S B' H') {v : V} (rv : Rep X.K B' ρ' v w) (hk : Hold X.K (lcStep E g env elt tg ifs scope w S) ρ' B' H' (fun o S' ρ' B' H' => match o with
        | none => P none H'
        | some y => ∀ v', Rep X.K B' ρ' v' y → P (some v') H') (ExP X.K X.mg Wx)) :
    tgG X.K (blkG g scope) tg v (wipe σ' ((ownOf g.N tg).map (·.2))) H' fun σ2 H2 => wipe σ2 ((ownOf g.N tg).map (·.2)) = wipe σ' ((ownOf g.N tg).map (·.2)) ∧ (ttOf X scope ifs) σ2 H2 fun b H3 => if b = true then (wEb X scope elt) σ2 H3 fun y H4 => P (some y) H4 else P none H3 := by
  have gm : (blkG g scope).N = g.N := rfl
  unfold lcStep at hk
  cases q : bindT (blkG g scope) tg w (wipeE env ((ownOf g.N tg).map (·.2))) with
  | none => rw [q] at hk; exact hk.elim
  | some env1 =>
    rw [q] at hk
    refine bindT_ok sr' (sl'.wipe _) rv q fun σ2 sl2 hw => ⟨?_, ?_⟩
    · rw [hw _ (names_slots gm g3)]
      exact wipe_wipe
    · cases ifs with
      | nil =>
        exact (show wEb X scope elt σ2 H' _ from fun s0 H0 Ca cs fp => hE.e (cx_blk C scope s0 H0 Ca cs fp) sl2 sr' (hk.bind.noExc.imp (fun y S2 ρ2 B2 H2 x2 s2 k2 v' rv' => k2.here s2 v' rv') fun _ _ _ _ _ _ z => z))
      | cons c rest =>
        cases rest with
        | cons _ _ =>
          have z := of_decide_eq_true g4
          simp at z
        | nil =>
          refine (show wTb X scope c σ2 H' _ from fun s0 H0 Ca cs fp => hE.t (cx_blk C scope s0 H0 Ca cs fp) sl2 sr' (hk.bind.noExc.imp (fun b S2 ρ2 B2 H2 x2 s2 k2 => ?_) fun _ _ _ _ _ _ z => z))
          cases b with
          | false => exact (show P none H2 from k2.here s2)
          | true => exact (show wEb X scope elt σ2 H2 _ from fun s0 H0 Ca cs fp => hE.e (cx_blk C scope s0 H0 Ca cs fp) (sl2.mono x2) s2 (k2.bind.noExc.imp (fun y S2 ρ2 B2 H2 x2 s2 k2 v' rv' => k2.here s2 v' rv') fun _ _ _ _ _ _ z => z))
/-- a comprehension, its parts -/
theorem lcE_ok (hE : EvOk pg cl E) (C : CxOk pg cl g Wx X) {fl : Bool} {elt tg iter : Expr} {ifs : List Expr} {scope : Scope} {env : Env'} {S : Sto} {σ : L2.St} {ρ : List Addr} {B H : Hp} {Q : VK} (sl : Sl X.K B ρ σ env) (sr : SR X.K ρ S B H)
    (h : Hold X.K (lcE pg E g env S fl elt tg iter ifs scope) ρ B H (okE X.K Q) (ExP X.K X.mg Wx)) :
    tLc (wI X tg iter) (tgG X.K (blkG g scope) tg) (ttOf X scope ifs) (wEb X scope elt) ((ownOf g.N tg).map (·.2)) σ H Q ∧ notSet iter = true ∧ BlkOk X.N X.env.scope scope (ownOf g.N tg) ∧ tgOk (blkG g scope) tg = true ∧ ifs.length ≤ 1 := by
  obtain ⟨h1, h2⟩ := (show Hold X.K (guard' (lcG g tg iter ifs scope) ((evIter pg g (fun e S => E.e g env S e) tg iter S).bind fun items S1 => lcR fl (lcStep E g env elt tg ifs scope) items.2 items.1 [] S1)) ρ B H (okE X.K Q) (ExP X.K X.mg Wx) from h).grd
  unfold lcG at h1
  rw [Bool.and_eq_true, Bool.and_eq_true, Bool.and_eq_true] at h1
  obtain ⟨⟨⟨g1, g2⟩, g3⟩, g4⟩ := h1
  have gm : (blkG g scope).N = g.N := rfl
  have bk : BlkOk X.N X.env.scope scope (ownOf g.N tg) := by
    rw [C.N, C.sc]
    exact blkOk_by g2
  refine ⟨?_, g1, bk, g3, of_decide_eq_true g4⟩
  refine evIter_ok hE C sl sr (h2.bind.imp (fun items S1 ρ1 B1 H1 x1 s1 k J wk D hD => ?_) fun _ _ _ _ _ _ z => z)
  exact lcR_ok (names_slots gm g3) (fun {w S σ' ρ' B' H' P} sl' sr' v rv hk => lcTurn_ok hE C g3 g4 sl' sr' rv hk) wk (sl.mono x1) s1 hD k

/-! ### objects -/
theorem objS_ok {K : PySem.W.Frag} {ρ : List Addr} {S : Sto} {B H : Hp} {v : V} {w : W} {c : Str} {fs : List (Str × W)} (s : SR K ρ S B H) (r : Rep K B ρ v w) (e : objS S w = some (c, fs)) :
    ∃ a C dx fv, v = .ref a ∧ H a = some (.ins C dx fv) ∧ Gam.cls c = some C ∧ fv.map Prod.fst = fs.map Prod.fst ∧ RepL K B ρ (fv.map Prod.snd) (fs.map Prod.snd) := by
  cases r with
  | obj hc h e0 rr =>
    cases e
    exact ⟨_, _, _, _, rfl, s.same _ _ h, hc, e0, rr⟩
  | @ref n a h =>
    unfold objS at e
    cases q : S[n]? with
    | none => simp only [q] at e; cases e
    | some o =>
      simp only [q] at e
      cases o with
      | ins c' fs' =>
        cases e
        obtain ⟨u, hu, ro⟩ := s.at h q
        cases ro with
        | ins hc e0 rr => exact ⟨_, _, _, _, rfl, hu, hc, e0, rr⟩
      | _ => cases e
  | _ => cases e
theorem look_ok {K : PySem.W.Frag} {ρ : List Addr} {B : Hp} {f : Str} : ∀ {fv : List (Str × V)} {fs : List (Str × W)}, fv.map Prod.fst = fs.map Prod.fst → RepL K B ρ (fv.map Prod.snd) (fs.map Prod.snd) →
    (∀ w, fs.lookup f = some w → ∃ v, fv.lookup f = some v ∧ Rep K B ρ v w) ∧ (fs.lookup f = none → fv.lookup f = none)
  | [], [], _, _ => ⟨fun w h => by (cases h), fun _ => rfl⟩
  | [], _ :: _, e, _ => by cases e
  | _ :: _, [], e, _ => by cases e
  | (x, v) :: fv, (y, w) :: fs, e, r => by
    injection e with e1 e2
    have e1 : x = y := e1
    subst e1
    cases r with
    | cons r1 r2 =>
      obtain ⟨h1, h2⟩ := look_ok (f := f) e2 r2
      rw [List.lookup_cons, List.lookup_cons]
      cases f == x with
      | true => exact ⟨fun w' h => by cases h; exact ⟨v, rfl, r1⟩, fun h => by cases h⟩
      | false => exact ⟨h1, h2⟩
theorem put_ok {K : PySem.W.Frag} {ρ : List Addr} {B : Hp} {f : Str} {y : V} {u : W} (ry : Rep K B ρ y u) : ∀ {fv : List (Str × V)} {fs : List (Str × W)}, fv.map Prod.fst = fs.map Prod.fst → RepL K B ρ (fv.map Prod.snd) (fs.map Prod.snd) →
    (putF f y fv).map Prod.fst = (putW f u fs).map Prod.fst ∧ RepL K B ρ ((putF f y fv).map Prod.snd) ((putW f u fs).map Prod.snd)
  | [], [], _, _ => ⟨rfl, .cons ry .nil⟩
  | [], _ :: _, e, _ => by cases e
  | _ :: _, [], e, _ => by cases e
  | (x, v) :: fv, (z, w) :: fs, e, r => by
    injection e with e1 e2
    have e1 : x = z := e1
    subst e1
    cases r with
    | cons r1 r2 =>
      obtain ⟨h1, h2⟩ := put_ok (f := f) ry e2 r2
      unfold putF putW
      by_cases h : x = f
      · rw [if_pos h, if_pos h]
        exact ⟨by simp only [List.map_cons]; rw [e2], .cons ry r2⟩
      · rw [if_neg h, if_neg h]
        exact ⟨by simp only [List.map_cons]; rw [h1], .cons r1 h2⟩
theorem own_base {o : Expr} {f : Str} {env : Env} (h : ownB o = true) : ∀ x, attributeBase o f env x = x := by
  intro x
  unfold ownB at h
  split at h <;> first | rfl | cases h
theorem own_meth {o : Expr} {m : Str} {env : Env} {as : List Expr} {apos pos : Pos} (h : ownB o = true) (hs : ∀ e ∈ as, notStar e = true) (hn : as.length < 30) (hl : (apos.endLine == pos.line) = true) : ∃ pl : Sem Bool, eval (.Call (.Attribute o m apos) as [] pos) env = (do
      let recv ← eval o env
      standAt apos.atName
      let (g, own) ← holding [recv] (getMethod recv m pl)
      callWith pos g own (backTo pos (starEach as env)) (backToKw pos (keywordEach [] env))) := by
  have few : methodCallForm (as.length + ([] : List Keyword).length) (backTo pos (starEach as env)) (backToKw pos (keywordEach [] env)) = true := by
    unfold methodCallForm
    have h1 : (backTo pos (starEach as env)).all (fun x => !x.1) = true := by
      rw [← List.not_any_eq_all_not, stars_no hs]
      rfl
    rw [h1]
    show (true && true && decide (as.length + 0 + 0 < 30)) = true
    rw [decide_eq_true (by omega)]
    rfl
  refine ⟨do return (← importBound o env).getD true, ?_⟩
  have e1 : eval (.Call (.Attribute o m apos) as [] pos) env = (do
      let ov ← attributeBase o m env (eval o env)
      standAt apos.atName
      methodCall o m apos pos env ov (as.length + ([] : List Keyword).length) (backTo pos (starEach as env)) (backToKw pos (keywordEach [] env))) := rfl
  rw [e1, own_base h]
  unfold methodCall methodCallPos calleeOf
  rw [few, hl]
  rfl
theorem back_ok {ρ : List Addr} {B H : Hp} {ok : W → Sto → List Addr → Hp → Hp → Prop} {env : Env'} {σ : L2.St} {r : R W} (sl : Sl X.K B ρ σ env) (h : Hold X.K (back env r) ρ B H ok (ExP X.K X.mg Wx)) :
    Hold X.K r ρ B H ok (fun c fs _ ρ' B' H' => ∀ C d fv, X.mg c = some (.ref C) → H' d = some (.xd fv) → RepF X.K B' ρ' fv fs → WE Wx σ (.ref C) (some d) H') := by
  cases r with
  | bad => exact h.elim
  | ok w S2 => exact h
  | exc c fs en S2 => exact fun ρ' B' H' x s C' d fv mc hd rf => h ρ' B' H' x s σ C' d fv (sl.mono x) mc hd rf
theorem mkR_ok {ρ : List Addr} {B H : Hp} {S : Sto} {Q : VK} {env : Env'} {σ : L2.St} {c : Str} {Ca a dx : Addr} {fz : Bool} {r : R W} (sl : Sl X.K B ρ σ env) (s : SR X.K ρ S B H) (hc : Gam.cls c = some Ca) (h1 : H a = none) (h2 : H dx = none) (hne : dx ≠ a)
    (h : Hold X.K (mkR env S.length c fz r) ρ B H (okE X.K Q) (ExP X.K X.mg Wx)) :
    SR X.K (ρ ++ [a]) (S ++ [SO.ins c []]) B (upd (upd H dx (.own a)) a (.ins Ca dx [])) ∧ Rep X.K B (ρ ++ [a]) (.ref a) (.ref S.length) ∧ Ext ρ B H (ρ ++ [a]) B (upd (upd H dx (.own a)) a (.ins Ca dx [])) ∧
    Hold X.K r (ρ ++ [a]) B (upd (upd H dx (.own a)) a (.ins Ca dx [])) (fun w S' ρ' B' H' => ∀ v, Rep X.K B' ρ' v w → v = .non ∧ Q (.ref a) H')
      (fun c fs _ ρ' B' H' => ∀ C d fv, X.mg c = some (.ref C) → H' d = some (.xd fv) → RepF X.K B' ρ' fv fs → WE Wx σ (.ref C) (some d) H') := by
  have h1' : upd H dx (.own a) a = none := by rw [upd_ne (Ne.symm hne)]; exact h1
  have x1 : Ext ρ B H ρ B (upd H dx (.own a)) := Ext.junk h2
  have x2 : Ext ρ B (upd H dx (.own a)) (ρ ++ [a]) B (upd (upd H dx (.own a)) a (.ins Ca dx [])) := Ext.cell h1'
  have s2 := (s.junk (o := .own a) h2).newCell (so := SO.ins c []) h1' (RepO.ins (dx := dx) (fv := []) hc rfl .nil)
  refine ⟨s2, .ref (by rw [← s.len]; simp), x1.trans x2, ?_⟩
  have hx := x1.trans x2
  unfold mkR at h
  have ra : ∀ {ρ' : List Addr} {B' H' : Hp}, Ext (ρ ++ [a]) B (upd (upd H dx (.own a)) a (.ins Ca dx [])) ρ' B' H' → Rep X.K B' ρ' (.ref a) (.ref S.length) := fun x => .ref (pre_get x.pre (by rw [← s.len]; simp))
  cases r with
  | bad => exact h.elim
  | exc c fs en S2 => exact fun ρ' B' H' x s' C' d fv mc hd rf => (show ExP X.K X.mg Wx c fs env ρ' B' H' from h ρ' B' H' (hx.trans x) s') σ C' d fv (sl.mono (hx.trans x)) mc hd rf
  | ok w S2 =>
    intro ρ' B' H' x s' v rv
    cases w with
    | non =>
      cases rv
      refine ⟨rfl, ?_⟩
      cases fz with
      | false => exact (show Hold X.K (R.ok (.ref S.length) S2) ρ B H (okE X.K Q) (ExP X.K X.mg Wx) from h) ρ' B' H' (hx.trans x) s' _ (ra x)
      | true => exact exitW_ok (hx.trans x) s' (ra x) s.len (show Hold X.K (exitW S.length (.ref S.length) S2) ρ B H (okE X.K Q) (ExP X.K X.mg Wx) from h)
    | _ => exact False.elim h
/-! ### isinstance -/
theorem tyW_ok {K : PySem.W.Frag} {ρ : List Addr} {S : Sto} {B H : Hp} {v : V} {w : W} {c : Str} {u : Value} (s : SR K ρ S B H) (r : Rep K B ρ v w) (e : tyW S w = some c) (t : TyN K c u) : TyX K H v u := by
  have own : ∀ {c' : Str} {C a dx : Addr} {fv : List (Str × V)}, ownC c' = some c → Gam.cls c' = some C → H a = some (.ins C dx fv) → TyX K H (.ref a) u := fun {c' C a dx fv} h1 h2 h3 => by
    unfold ownC at h1
    split at h1
    · cases h1
    · rename_i hb
      cases h1
      unfold TyN at t
      rw [hb] at t
      obtain ⟨C2, h4, h5, h6⟩ := t
      cases h2.symm.trans h4
      rw [h5]
      exact .base (.ins h3 h6.cl h6.ha h6.hn h6.htk h6.hm)
  cases r with
  | non => cases e; cases (show u = .type "NoneType" from t); exact .base .non
  | bl b => cases e; cases (show u = .type "bool" from t); exact .base (.bl b)
  | int b => cases e; cases (show u = .type "int" from t); exact .base (.int b)
  | str b => cases e; cases (show u = .type "str" from t); exact .base (.str b)
  | tup h q =>
    cases e
    cases (show u = .type "tuple" from t)
    rcases Same.tup s.same h with (h | ⟨o, h⟩) | ⟨o, its, n, h1, h2, h3⟩
    · exact .base (.tup h)
    · exact .fTuple h
    · exact .kTuple h1 h2
  | lst h q => cases e; cases (show u = .type "list" from t); exact .base (.lst (s.same _ _ h))
  | frl h q _ => cases e
  | obj hc h e0 q => exact own e hc (s.same _ _ h)
  | dct h e0 q =>
    cases e
    cases (show u = .type "dict" from t)
    rcases Same.rd s.same h with h | ⟨o, h⟩
    · exact .base (.dK h)
    · exact .fDict h
  | @ref n a h =>
    unfold tyW at e
    cases q : S[n]? with
    | none => simp only [q] at e; cases e
    | some o =>
      simp only [q] at e
      cases o with
      | imd ks =>
        cases e
        cases (show u = .type "dict" from t)
        obtain ⟨kv, h1, e0, rr⟩ := s.cell n a _ h q
        rcases Same.rd s.same h1 with h | ⟨o, h⟩
        · exact .base (.dK h)
        · exact .fDict h
      | lst ws =>
        obtain ⟨x, hx, ro⟩ := s.at h q
        cases ro with
        | lst rr => cases e; cases (show u = .type "list" from t); exact .base (.lst hx)
      | dct ks =>
        obtain ⟨x, hx, ro⟩ := s.at h q
        cases ro with
        | dct e0 rr => cases e; cases (show u = .type "dict" from t); exact .base (.dK hx)
      | ins c' fs =>
        obtain ⟨x, hx, ro⟩ := s.at h q
        cases ro with
        | ins hc e0 rr => exact own e hc hx
theorem TyN.uniq {K : PySem.W.Frag} {c : Str} {u u' : Value} (h : TyN K c u) (h' : TyN K c u') : u = u' := by
  unfold TyN at h h'
  split at h
  · rename_i n q
    rw [q] at h'
    exact h.trans h'.symm
  · rename_i q
    rw [q] at h'
    obtain ⟨C, h1, h2, _⟩ := h
    obtain ⟨C', h3, h4, _⟩ := h'
    cases h1.symm.trans h3
    exact h2.trans h4.symm
theorem names_ok (C : CxOk pg cl g Wx X) {ty : Str} {u : Value} (tn : TyN X.K ty u) : ∀ {ts : List Expr} {ns : List Str} {b : Bool} {σ : L2.St} {H : Hp}, ts.all (isNameG g) = true → namesOf ts = some ns → isiAny pg ty ns = some b →
    ∃ (cs : List V) (us : List Value), cs.length = ts.length ∧ Paired ClsV cs us ∧ PySem.W.kitAny X.K u us = some b ∧ ∀ {P : List V → Hp → Prop}, P cs H → wA X ts σ H P
  | [], ns, b, σ, H, _, h2, h3 => by
    cases h2
    cases h3
    exact ⟨[], [], rfl, .nil, rfl, fun p => wA_of pa_nil p⟩
  | e :: ts, ns, b, σ, H, h1, h2, h3 => by
    rw [List.all_cons, Bool.and_eq_true] at h1
    cases e with
    | Name x p =>
      obtain ⟨g1, g2⟩ := Bool.and_eq_true_iff.mp (show (gloB g.sc x && !odd x) = true from h1.1)
      have no := odd_no g2
      have h2' : (match nameOf (.Name x p), namesOf ts with
        | some x, some xs => some (x :: xs)
        | _, _ => none) = some ns := h2
      cases q : namesOf ts with
      | none => rw [q] at h2'; cases h2'
      | some xs =>
        rw [q] at h2'
        cases h2'
        have h3' : (match pg.isi ty x, isiAny pg ty xs with
          | some b1, some b2 => some (b1 || b2)
          | _, _ => none) = some b := h3
        cases q1 : pg.isi ty x with
        | none => rw [q1] at h3'; cases h3'
        | some b1 =>
          cases q2 : isiAny pg ty xs with
          | none => rw [q1, q2] at h3'; cases h3'
          | some b2 =>
            rw [q1, q2] at h3'
            cases h3'
            obtain ⟨u', cv, tn', kit, hcv⟩ := C.isi ty x b1 q1
            cases tn.uniq tn'
            obtain ⟨cs, us, l, pr, ka, k⟩ := names_ok C tn (σ := σ) (H := H) h1.2 q q2
            have ka' : PySem.W.kitAny X.K u (cv :: us) = some (b1 || b2) := by
              unfold PySem.W.kitAny
              rw [kit]
              cases b1 with
              | true => rfl
              | false => exact ka
            rcases hcv with ⟨Ct, m3, rfl⟩ | ⟨m3, T, hb, rfl⟩
            · exact ⟨.ref Ct :: cs, _, by simp [l], .cons (.own _) pr, ka', fun p => wA_of (pa_cons (pe_glob (glo_okB C g1) m3 (v := .ref Ct) rfl no.1) pwA) (by exact (show wA X ts σ H _ from k p))⟩
            · exact ⟨.ty T :: cs, _, by simp [l], .cons (.ty _) pr, ka', fun p => wA_of (pa_cons (pe_bltn (glo_okB C g1) m3 hb (v := .ty T) rfl no.2.2 no.1) pwA) (by exact (show wA X ts σ H _ from k p))⟩
    | _ => cases h1.1
/-! ### texts' methods -/
theorem strMeth_ok (hE : EvOk pg cl E) (C : CxOk pg cl g Wx X) {o e1 : Expr} {m : Str} {apos pos : Pos} {env : Env'} {S S1 : Sto} {σ : L2.St} {ρ : List Addr} {B H : Hp} {Q : VK} {z : Str} (g1 : ownB o = true) (ns : notStar e1 = true) (g4 : (apos.endLine == pos.line) = true)
    (sl : Sl X.K B ρ σ env) (sr : SR X.K ρ S B H) (q : E.e g env S o = .ok (.str z) S1) (h : Hold X.K (guard' (isStrM m) ((E.e g env S1 e1).bind fun y S2 => lift (bmStr S2 m z y) S2)) ρ B H (okE X.K Q) (ExP X.K X.mg Wx)) : wE X (.Call (.Attribute o m apos) [e1] [] pos) σ H Q := by
  obtain ⟨hm, h⟩ := h.grd
  have go : ∀ {r : V → List V → Hp → VK → Prop}, (∀ S2 ρ2 B2 H2 v w y, SR X.K ρ2 S2 B2 H2 → Rep X.K B2 ρ2 v y → bmStr S2 m z y = some w → Val X.K w S2 Q ρ2 B2 H2 → r (.str z) [v] H2 Q) → tM1 r (wE X o) (wE X e1) σ H Q := fun {r} k => by
    refine (show wE X o σ H _ from hE.e C sl sr ?_)
    rw [q]
    intro ρ1 B1 H1 x1 s1 v rv
    cases rv
    refine ⟨⟨z, rfl⟩, (show wE X e1 σ H1 _ from hE.e' C (sl.mono x1) s1 (h.ext x1) fun y S2 ρ2 B2 H2 v2 x2 s2 sl2 r2 k2 => ?_)⟩
    obtain ⟨w, e, k3⟩ := k2.lift
    exact k S2 ρ2 B2 H2 v2 w y s2 r2 e fun ρ' B' H' v' x s r => k3 ρ' B' H' x s v' r
  have st : starEach [e1] X.env = [(false, eval e1 X.env)] := star_no ns
  by_cases m1 : m = "split"
  · subst m1
    refine wE_of (pe_m1 PySem.F.slot_str_split PySem.F.type_str_split mt_split pwE pwE st (own_base g1 _) g4) (go fun S2 ρ2 B2 H2 v w y s r e k => ?_)
    unfold bmStr at e
    rw [if_pos rfl] at e
    split at e
    · rename_i b
      split at e
      · rename_i hh
        rw [Bool.and_eq_true] at hh
        cases e
        cases r
        rw [txtSplit_eq] at k
        exact ⟨z, b, rfl, rfl, by simpa using hh.1, small_line hh.2, fun p hp => k.newL s (repL_strs _) hp⟩
      · cases e
    · cases e
  by_cases m2 : m = "find"
  · subst m2
    refine wE_of (pe_m1 PySem.F.slot_str_find PySem.F.type_str_find mt_find pwE pwE st (own_base g1 _) g4) (go fun S2 ρ2 B2 H2 v w y s r e k => ?_)
    unfold bmStr at e
    rw [if_neg m1, if_pos rfl] at e
    split at e
    · cases e
      cases r
      rw [txtFind_eq] at k
      exact ⟨z, _, rfl, rfl, k.here s (.int _)⟩
    · cases e
  by_cases m3 : m = "startswith"
  · subst m3
    refine wE_of (pe_m1 PySem.F.slot_str_startswith PySem.F.type_str_startswith mt_startswith pwE pwE st (own_base g1 _) g4) (go fun S2 ρ2 B2 H2 v w y s r e k => ?_)
    unfold bmStr at e
    rw [if_neg m1, if_neg m2, if_pos rfl] at e
    split at e
    · cases e
      cases r
      exact ⟨z, _, rfl, rfl, k.here s (.bl _)⟩
    · cases e
  by_cases m4 : m = "join"
  · subst m4
    refine wE_of (pe_m1 PySem.F.slot_str_join PySem.F.type_str_join mt_join pwE pwE st (own_base g1 _) g4) (go fun S2 ρ2 B2 H2 v w y s r e k => ?_)
    unfold bmStr at e
    rw [if_neg m1, if_neg m2, if_neg m3, if_pos rfl] at e
    split at e
    · rename_i ws hw
      split at e
      · rename_i ys hy
        split at e
        · rename_i hl
          cases e
          cases q1 : seqL S2 y with
          | some ws' =>
            rw [q1] at hw
            cases hw
            obtain ⟨a, xs, rfl, h1, h2⟩ := seqL_ok s r q1
            cases strsW_ok h2 hy
            rw [joinF_eq] at k
            exact ⟨z, a, ys, rfl, rfl, .inl h1, hl, k.here s (.str _)⟩
          | none =>
            rw [q1] at hw
            obtain ⟨a, xs, rfl, h1, h2⟩ := seqT_ok s r (show seqT y = some ws from hw)
            cases strsW_ok h2 hy
            rw [joinF_eq] at k
            exact ⟨z, a, ys, rfl, rfl, .inr h1, hl, k.here s (.str _)⟩
        · cases e
      · cases e
    · cases e
  unfold isStrM at hm
  rw [decide_eq_false m1, decide_eq_false m2, decide_eq_false m3, decide_eq_false m4] at hm
  cases hm
/-! ### walks of dicts -/
theorem pathN_ok (C : CxOk pg cl g Wx X) {x : Str} {p : Pos} {env : Env'} {σ : L2.St} {ρ : List Addr} {B : Hp} {w : W} (sl : Sl X.K B ρ σ env) (h : pathN g env x = some w) : ∃ i v, σ[i]? = some (some v) ∧ Rep X.K B ρ v w ∧ PE X (.Name x p) (tVar i) := by
  unfold pathN at h
  split at h
  · rename_i hc
    obtain ⟨o1, o2, o3⟩ := odd_no hc.1
    split at h
    · rename_i i hi
      split at h
      · rename_i w' hw
        cases h
        obtain ⟨v, e1, r⟩ := sl.at_ i w hw
        exact ⟨i, v, e1, r, pe_var (by rw [C.N]; exact slotOf_get hi) (vis_ok C hc.2) o1 o2⟩
      · cases h
    · cases h
  · cases h
theorem path_ok (C : CxOk pg cl g Wx X) {e : Expr} {env : Env'} {S : Sto} {σ : L2.St} {ρ : List Addr} {B H : Hp} {w : W} (sl : Sl X.K B ρ σ env) (sr : SR X.K ρ S B H) (h : pathW pg g env S e = some w) :
    ∃ v, Rep X.K B ρ v w ∧ ∀ {H' : Hp}, (∀ a Ca dx fv, H a = some (.ins Ca dx fv) → H' a = some (.ins Ca dx fv)) → ∀ {Q : VK}, Q v H' → wE X e σ H' Q := by
  unfold pathW at h
  split at h
  · rename_i x p
    obtain ⟨i, v, e1, r, pe⟩ := pathN_ok C (p := p) sl h
    exact ⟨v, r, fun {H'} _ {Q} q => wE_of pe ⟨v, e1, q⟩⟩
  · rename_i x p f p2
    split at h
    · rename_i w0 hw
      obtain ⟨i, v0, e1, r0, pe⟩ := pathN_ok C (p := p) sl hw
      split at h
      · rename_i c fs ho
        split at h
        · rename_i hf
          obtain ⟨a, Ca, dx, fv, rfl, ha, hc, e0, rr⟩ := objS_ok sr r0 ho
          obtain ⟨C2, hc2, cl2, na⟩ := C.flds c f hf
          cases hc.symm.trans hc2
          obtain ⟨v, hl, rv⟩ := (look_ok e0 rr).1 _ h
          exact ⟨v, rv, fun {H'} keep {Q} q => wE_of (pe_fld pe (own_base (o := .Name x p) rfl _)) ⟨_, e1, a, _, dx, fv, v, rfl, keep _ _ _ _ ha, cl2, na, hl, q⟩⟩
        · cases h
      · cases h
    · cases h
  · cases h
theorem dictAt_ok {K : PySem.W.Frag} {ρ : List Addr} {S S1 : Sto} {B H : Hp} {v : V} {w : W} {ks : List (Key × W)} (s : SR K ρ S B H) (r : Rep K B ρ v w) (e : dictAt S w = some (ks, S1)) :
    ∃ d kv B1, v = .ref d ∧ Ext ρ B H ρ B1 H ∧ SR K ρ S1 B1 H ∧ L2.Rd B1 d (.dK kv) ∧ kv.map Prod.fst = ks.map Prod.fst ∧ RepL K B1 ρ (kv.map Prod.snd) (ks.map Prod.snd) ∧
      ((∃ n, w = .ref n ∧ ∃ ks', S[n]? = some (.dct ks')) → d ∈ ρ ∧ B d = none ∧ B1 = upd B d (.dK kv) ∧ H d = some (.dK kv)) := by
  cases r with
  | dct h e0 rr => cases e; exact ⟨_, _, B, rfl, Ext.refl, s, h, e0, rr, fun ⟨n, z, _⟩ => by cases z⟩
  | @ref n a h =>
    unfold dictAt at e
    cases q : S[n]? with
    | none => simp only [q] at e; cases e
    | some o =>
      simp only [q] at e
      cases o with
      | imd ks' =>
        cases e
        obtain ⟨kv, h1, e0, rr⟩ := s.cell n a _ h q
        exact ⟨a, kv, B, rfl, Ext.refl, s, h1, e0, rr, fun ⟨n', z, ks2, z2⟩ => by cases z; rw [q] at z2; cases z2⟩
      | dct ks' =>
        cases e
        obtain ⟨hb, u, hu, ro⟩ := s.cell n a _ h q
        cases ro with
        | @dct kv _ e0 rr =>
          have sm : Same B (upd B a (.dK kv)) := fun c x z => by
            rw [upd_ne (ne_of_none z hb)]
            exact z
          have hn : n < S.length := (List.getElem?_eq_some_iff.mp q).1
          have rr' := rr.mono (ρ' := ρ) sm ⟨[], by simp⟩
          refine ⟨a, kv, upd B a (.dK kv), rfl, ⟨sm, ⟨[], by simp, fun c hc => by simp at hc⟩, fun _ _ z _ => z, fun _ o z => ⟨o, z⟩, fun c x z hr nb => ?_⟩, ⟨fun c x z => ?_, by rw [List.length_set]; exact s.len, s.nd, fun j c so e1 e2 => ?_⟩,   .inl upd_same, e0, rr', fun _ => ⟨List.mem_of_getElem? h, hb, rfl, hu⟩⟩
          · have hc : c ≠ a := fun z' => hr (by rw [z']; exact List.mem_of_getElem? h)
            rw [upd_ne hc]
            exact nb
          · by_cases hc : c = a
            · subst hc
              rw [upd_same] at z
              cases z
              exact hu
            · rw [upd_ne hc] at z
              exact s.same c x z
          · by_cases hj : n = j
            · subst hj
              rw [h] at e1
              cases e1
              rw [List.getElem?_set_self hn] at e2
              cases e2
              exact ⟨kv, .inl upd_same, e0, rr'⟩
            · rw [List.getElem?_set_ne hj] at e2
              have hc : c ≠ a := fun z => by
                subst z
                obtain ⟨p1, p2⟩ := List.getElem?_eq_some_iff.mp h
                obtain ⟨p3, p4⟩ := List.getElem?_eq_some_iff.mp e1
                exact hj ((List.getElem_inj s.nd).mp (p2.trans p4.symm))
              exact (s.cell j c so e1 e2).mono sm ⟨[], by simp⟩ (fun z => by rw [upd_ne hc]; exact z) (fun _ z => z)
      | _ => cases e
  | _ => cases e
/-- what walks the locked dict -/
theorem dI_ok {tg iter p : Expr} {k : Nat} {σ : L2.St} {ρ : List Addr} {B H : Hp} {d : Addr} {o : Obj} {kv : List (Key × V)} {ks : List (Key × W)} {R' : It → Hp → Prop} (hw : walkOf iter = (p, k)) (ht : ¬ (k = 2 ∧ isTupE tg = false)) (own : ownB p = true)
    (hb : B d = some (.frz o (.dK kv))) (hd : H d = some (.frz o (.dK kv))) (e : kv.map Prod.fst = ks.map Prod.fst) (r : RepL X.K B ρ (kv.map Prod.snd) (ks.map Prod.snd)) (hp : ∀ {Q : VK}, Q (.ref d) H → wE X p σ H Q) (hR : ∀ J, Wk X.K B ρ J (still (itemsOf ks k)) → R' J H) : wI X tg iter σ H R' := by
  unfold walkOf at hw
  split at hw
  · rename_i p' m ap cp
    split at hw
    · rename_i hl
      split at hw
      · rename_i hm
        cases hw
        subst hm
        exact wI_of (pi_values pwE (own_base own _) hl) (hp ⟨d, o, kv, rfl, hd, hR _ (wk_vals hb e r)⟩)
      · split at hw
        · rename_i hm
          cases hw
          subst hm
          cases tg with
          | Tuple es kk tp => exact wI_of (pi_items pwE (own_base own _) hl) (hp ⟨d, o, kv, rfl, hd, hR _ (wk_items hb e r)⟩)
          | _ => exact absurd ⟨rfl, rfl⟩ ht
        · cases hw
          exact wI_of (pi_keys pwE) (hp ⟨d, o, rfl, .inl ⟨kv, hd, hR _ (wk_keys hb e)⟩⟩)
    · cases hw
      exact wI_of (pi_keys pwE) (hp ⟨d, o, rfl, .inl ⟨kv, hd, hR _ (wk_keys hb e)⟩⟩)
  · cases hw
    exact wI_of (pi_keys pwE) (hp ⟨d, o, rfl, .inl ⟨kv, hd, hR _ (wk_keys hb e)⟩⟩)
theorem path_own {e : Expr} {env : Env'} {S : Sto} {w : W} (h : pathW pg g env S e = some w) : ownB e = true := by
  unfold pathW at h
  split at h <;> first | rfl | cases h
/-- a comprehension over a dict -/
theorem lcD_ok (hE : EvOk pg cl E) (C : CxOk pg cl g Wx X) {elt tg iter : Expr} {ifs : List Expr} {scope : Scope} {pos : Pos} {env : Env'} {S S1 : Sto} {items : List W} {σ : L2.St} {ρ : List Addr} {B H : Hp} {Q : VK} (sl : Sl X.K B ρ σ env) (sr : SR X.K ρ S B H)
    (hdw : dWalk pg g env S tg iter = some (items, S1)) (g1 : notSet iter = true) (bk : BlkOk X.N X.env.scope scope (ownOf g.N tg)) (g3 : tgOk (blkG g scope) tg = true) (g4 : decide (ifs.length ≤ 1) = true)
    (h : Hold X.K (noExc (lcR false (lcStep E g env elt tg ifs scope) (fun _ => true) items [] S1)) ρ B H (okE X.K Q) (ExP X.K X.mg Wx)) : wE X (.ListComp elt [⟨tg, iter, ifs, 0⟩] scope pos) σ H Q := by
  unfold dWalk at hdw
  cases qw : walkOf iter with
  | mk p k =>
    rw [qw] at hdw
    cases qp : pathW pg g env S p with
    | none => simp only [qp] at hdw; cases hdw
    | some w =>
      simp only [qp] at hdw
      cases qd : dictAt S w with
      | none => simp only [qd] at hdw; cases hdw
      | some z =>
        obtain ⟨ks, S1'⟩ := z
        simp only [qd] at hdw
        split at hdw
        · cases hdw
        · rename_i ht
          cases hdw
          obtain ⟨v, rv, hp⟩ := path_ok C sl sr qp
          obtain ⟨d, kv, B1, rfl, x1, s1, rd, e0, rr, _⟩ := dictAt_ok sr rv qd
          have sl1 := sl.mono x1
          have h1 := h.ext x1
          have core : ∀ {B2 H2 : Hp} {o : Obj} {Q2 : VK}, B2 d = some (.frz o (.dK kv)) → H2 d = some (.frz o (.dK kv)) → Sl X.K B2 ρ σ env → SR X.K ρ S1 B2 H2 → RepL X.K B2 ρ (kv.map Prod.snd) (ks.map Prod.snd) → (∀ a Ca dx fv, H a = some (.ins Ca dx fv) → H2 a = some (.ins Ca dx fv)) →
              Hold X.K (lcR false (lcStep E g env elt tg ifs scope) (fun _ => true) (itemsOf ks k) [] S1) ρ B2 H2 (okE X.K Q2) (ExP X.K X.mg Wx) → wE X (.ListComp elt [⟨tg, iter, ifs, 0⟩] scope pos) σ H2 Q2 := by
            intro B2 H2 o Q2 hb2 hd2 sl2 s2 rr2 keep hh
            have t : tLc (wI X tg iter) (tgG X.K (blkG g scope) tg) (ttOf X scope ifs) (wEb X scope elt) ((ownOf g.N tg).map (·.2)) σ H2 Q2 := by
              refine dI_ok qw ht (path_own qp) hb2 hd2 e0 rr2 (fun {Q} q => hp keep q) fun J wk D hD => ?_
              exact lcR_ok (items := still (itemsOf ks k)) (names_slots rfl g3) (fun {w S σ' ρ' B' H' P} sl' sr' v rv hk => lcTurn_ok hE C g3 g4 sl' sr' rv hk) wk sl2 s2 hD hh
            exact wE_of (pe_lc C.calm C.nd pwI bk (fun s0 H0 Ca cs fp => pg_tg (cx_blk C scope s0 H0 Ca cs fp) g3) (pts_of (of_decide_eq_true g4)) (fun s0 H0 Ca cs fp => ⟨fun pins s σ' H' Q' I q => q s0 H0 Ca cs fp pins s I⟩) (not_set g1)) t
          rcases rd with hb | ⟨o, hb⟩
          · have hd : H d = some (.dK kv) := s1.same _ _ hb
            refine wE_of (pe_lock pwE) ⟨d, .dK kv, hd, trivial, fun od => ?_⟩
            have i : Is kv (.dK kv) := .inl rfl
            have i' : Is kv (.frz od (.dK kv)) := .inr ⟨od, rfl⟩
            refine (show wE X _ σ (upd H d (.frz od (.dK kv))) _ from core upd_same upd_same (sl1.swap hb i i') (s1.swap hb i i') (rr.swap hb i i') (fun a Ca dx fv z => ?_) ((h1.lock hb hd i i' (ex' := ExP X.K X.mg Wx)).imp (fun w S' ρ' B' H' x s' q v r => ?_) fun _ _ _ _ _ _ z => z))
            · have hne : a ≠ d := fun e => by rw [e, hd] at z; cases z
              rw [upd_ne hne]
              exact z
            · exact ⟨q.2.1, q.2.2 v (r.swap q.1 i' i)⟩
          · have hd : H d = some (.frz o (.dK kv)) := s1.same _ _ hb
            refine core hb hd sl1 s1 rr (fun _ _ _ _ z => z) ?_
            cases qr : lcR false (lcStep E g env elt tg ifs scope) (fun _ => true) (itemsOf ks k) [] S1 with
            | bad => rw [qr] at h1; exact h1.elim
            | exc c fs en S2 => rw [qr] at h1; exact h1.elim
            | ok w2 S2 => rw [qr] at h1; exact h1
/-- a dict's comprehension, its parts -/
theorem dcE_ok (hE : EvOk pg cl E) (C : CxOk pg cl g Wx X) {kx vx tg iter : Expr} {ifs : List Expr} {scope : Scope} {pos : Pos} {env : Env'} {S : Sto} {σ : L2.St} {ρ : List Addr} {B H : Hp} {Q : VK} (sl : Sl X.K B ρ σ env) (sr : SR X.K ρ S B H)
    (h : Hold X.K (stepE pg cl E g env S (.DictComp kx vx [⟨tg, iter, ifs, 0⟩] scope pos)) ρ B H (okE X.K Q) (ExP X.K X.mg Wx)) :
    tDc (wI X tg iter) (tgG X.K (blkG g scope) tg) (ttOf X scope ifs) (wEb X scope kx) (wEb X scope vx) ((ownOf g.N tg).map (·.2)) σ H Q ∧ notSet iter = true ∧ BlkOk X.N X.env.scope scope (ownOf g.N tg) ∧ tgOk (blkG g scope) tg = true ∧ ifs.length ≤ 1 := by
  unfold stepE at h
  obtain ⟨h1, h2⟩ := h.grd
  rw [Bool.and_eq_true, Bool.and_eq_true, Bool.and_eq_true] at h1
  obtain ⟨⟨⟨g1, g2⟩, g3⟩, g4⟩ := h1
  have gm : (blkG g scope).N = g.N := rfl
  have bk : BlkOk X.N X.env.scope scope (ownOf g.N tg) := by
    rw [C.N, C.sc]
    exact blkOk_by g2
  refine ⟨?_, g1, bk, g3, of_decide_eq_true g4⟩
  refine evIter_ok hE C sl sr (h2.bind.imp (fun items S1 ρ1 B1 H1 x1 s1 k J wk D hD => ?_) fun _ _ _ _ _ _ z => z)
  refine dcR_ok (fun {w S σ' ρ' B' H' P} sl' sr' v rv hk => ?_) wk (sl.mono x1) s1 hD k
  cases q : bindT (blkG g scope) tg w (wipeE env ((ownOf g.N tg).map (·.2))) with
  | none => rw [q] at hk; exact hk.elim
  | some env1 =>
    rw [q] at hk
    have two : ∀ {σ2 : L2.St} {ρ2 : List Addr} {S2 : Sto} {B2 H2 : Hp}, Sl X.K B2 ρ2 σ2 env1 → SR X.K ρ2 S2 B2 H2 → Hold X.K ((noExc (E.e (blkG g scope) env1 S2 kx)).bind fun k S3 => (noExc (E.e (blkG g scope) env1 S3 vx)).bind fun y S4 => R.ok (some (k, y)) S4) ρ2 B2 H2 (fun o S' ρ' B' H' => match o with
        | none => P none H'
        | some (k, y) => ∀ v1 v2, Rep X.K B' ρ' v1 k → Rep X.K B' ρ' v2 y → P (some (v1, v2)) H') (ExP X.K X.mg Wx) → wEb X scope kx σ2 H2 fun y H4 => wEb X scope vx σ2 H4 fun z H5 => P (some (y, z)) H5 := by
      intro σ2 ρ2 S2 B2 H2 sl2 s2 hh s0 H0 Ca cs fp
      refine hE.e (cx_blk C scope s0 H0 Ca cs fp) sl2 s2 (hh.bind.noExc.imp (fun k S3 ρ3 B3 H3 x3 s3 k3 v1 r1 => ?_) fun _ _ _ _ _ _ z => z)
      intro s0' H0' Ca' cs' fp'
      refine hE.e (cx_blk C scope s0' H0' Ca' cs' fp') (sl2.mono x3) s3 (k3.bind.noExc.imp (fun y S4 ρ4 B4 H4 x4 s4 k4 v2 r2 => ?_) fun _ _ _ _ _ _ z => z)
      exact k4.here s4 v1 v2 (r1.mono x4.b x4.pre) r2
    refine bindT_ok sr' (sl'.wipe _) rv q fun σ2 sl2 hw => ⟨?_, ?_⟩
    · rw [hw _ (names_slots gm g3)]
      exact wipe_wipe
    · cases ifs with
      | nil => exact two sl2 sr' hk
      | cons c rest =>
        cases rest with
        | cons _ _ =>
          have z := of_decide_eq_true g4
          simp at z
        | nil =>
          refine (show wTb X scope c σ2 H' _ from fun s0 H0 Ca cs fp => hE.t (cx_blk C scope s0 H0 Ca cs fp) sl2 sr' (hk.bind.noExc.imp (fun b S2 ρ2 B2 H2 x2 s2 k2 => ?_) fun _ _ _ _ _ _ z => z))
          cases b with
          | false => exact (show P none H2 from k2.here s2)
          | true => exact two (sl2.mono x2) s2 k2
theorem stepE_ok (hE : EvOk pg cl E) (C : CxOk pg cl g Wx X) {e : Expr} {env : Env'} {S : Sto} {σ : L2.St} {ρ : List Addr} {B H : Hp} {Q : VK} (sl : Sl X.K B ρ σ env) (sr : SR X.K ρ S B H)
    (h : Hold X.K (stepE pg cl E g env S e) ρ B H (okE X.K Q) (ExP X.K X.mg Wx)) : wE X e σ H Q := by
  unfold stepE at h
  split at h
  · exact nameE_ok C sl sr h
  · split at h
    · exact wE_of pe_int (h.here sr _ (.int _))
    · exact wE_of pe_bl (h.here sr _ (.bl _))
    · exact wE_of pe_non (h.here sr _ .non)
    · exact wE_of pe_str (h.here sr _ (.str _))
    · exact h.elim
  · refine wE_of (pe_tup pwA) (mapS_bind hE C sl sr h fun ws S1 ρ1 B1 H1 vs x s1 sl1 r k => ?_)
    obtain ⟨k1, k2⟩ := k.grd
    exact ⟨by rw [r.length]; exact small_line k1, fun p hp => k2.val.newT s1 r hp⟩
  · refine wE_of (pe_lst pwA) (mapS_bind hE C sl sr h fun ws S1 ρ1 B1 H1 vs x s1 sl1 r k => ?_)
    obtain ⟨k1, k2⟩ := k.grd
    exact ⟨by rw [r.length]; exact small_line k1, fun p hp => k2.val.newL s1 r hp⟩
  · refine wE_of (pe_op opW_r pwE pwE) (hE.e' C sl sr h fun w S1 ρ1 B1 H1 v x1 s1 sl1 r1 k1 => hE.e' C sl1 s1 k1 fun w2 S2 ρ2 B2 H2 v2 x2 s2 sl2 r2 k2 => ?_)
    obtain ⟨c, e, k3⟩ := k2.lift
    exact binop_ok s2 (r1.mono x2.b x2.pre) r2 e (fun ρ' B' H' v' x s r => k3 ρ' B' H' x s v' r)
  · refine wE_of (pe_not pwE) (hE.e' C sl sr h fun w S1 ρ1 B1 H1 v x1 s1 sl1 r1 k1 => ?_)
    split at k1
    · cases r1
      exact ⟨_, rfl, k1.here s1 _ (.bl _)⟩
    · exact k1.elim
  · refine wE_of (pe_un un_neg pwE) (hE.e' C sl sr h fun w S1 ρ1 B1 H1 v x1 s1 sl1 r1 k1 => ?_)
    split at k1
    · cases r1
      exact ⟨_, rfl, k1.here s1 _ (.int _)⟩
    · exact k1.elim
  · exact valR_ok hE C sl sr h
  · obtain ⟨h1, h2⟩ := h.grd
    refine wE_of (pe_cmpR opW_r pwE pwE (by simpa using h1)) (hE.e' C sl sr h2 fun w S1 ρ1 B1 H1 v x1 s1 sl1 r1 k1 => hE.e' C sl1 s1 k1 fun w2 S2 ρ2 B2 H2 v2 x2 s2 sl2 r2 k2 => ?_)
    obtain ⟨c, e, k3⟩ := k2.bind.lift
    exact cmpop_ok C.un s2 (r1.mono x2.b x2.pre) r2 e (fun ρ' B' H' v' x s r => (k3 ρ' B' H' x s).here s v' r)
  · obtain ⟨h1, h2⟩ := h.grd
    refine wE_of (pe_chain opW_r opW_r pwE pwE pwE (by simpa using h1)) (hE.e' C sl sr h2 fun w S1 ρ1 B1 H1 v x1 s1 sl1 r1 k1 => hE.e' C sl1 s1 k1 fun w2 S2 ρ2 B2 H2 v2 x2 s2 sl2 r2 k2 => ?_)
    obtain ⟨c, e, k3⟩ := k2.bind.lift
    refine cmpop_ok C.un s2 (r1.mono x2.b x2.pre) r2 e (fun ρ3 B3 H3 v3 x3 s3 r3 => ?_)
    cases r3
    have k4 := k3 ρ3 B3 H3 x3 s3
    refine ⟨c, rfl, ?_⟩
    cases c with
    | false => exact (show Q (.bl false) H3 from k4.here s3 _ (.bl _))
    | true =>
      refine (show wE X _ σ H3 _ from hE.e' C (sl2.mono x3) s3 k4 fun w5 S5 ρ5 B5 H5 v5 x5 s5 sl5 r5 k5 => ?_)
      obtain ⟨c', e', k6⟩ := k5.bind.lift
      exact cmpop_ok C.un s5 ((r2.mono x3.b x3.pre).mono x5.b x5.pre) r5 e' (fun ρ' B' H' v' x s r => (k6 ρ' B' H' x s).here s v' r)
  · refine wE_of (pe_ifExp pwT pwE pwE) (hE.t' C sl sr h fun c S1 ρ1 B1 H1 x1 s1 sl1 k1 => ?_)
    cases c with
    | true => exact (show wE X _ σ H1 Q from hE.e C sl1 s1 k1)
    | false => exact (show wE X _ σ H1 Q from hE.e C sl1 s1 k1)
  · refine wE_of (pe_slice slW_r pwE poT poT) (hE.e' C sl sr h fun w S1 ρ1 B1 H1 v x1 s1 sl1 r1 k1 => partR_ok hE C sl1 s1 k1 fun lo S2 ρ2 B2 H2 x2 s2 sl2 k2 => partR_ok hE C sl2 s2 k2 fun hi S3 ρ3 B3 H3 x3 s3 sl3 k3 => ?_)
    obtain ⟨c, e, k4⟩ := k3.lift
    exact slS_ok s3 ((r1.mono x2.b x2.pre).mono x3.b x3.pre) e (fun ρ' B' H' v' x s r => k4 ρ' B' H' x s v' r)
  · obtain ⟨h1, h2⟩ := h.grd
    refine wE_of (pe_ix ixW_r pwE pwE (plain_ix h1)) (hE.e' C sl sr h2 fun w S1 ρ1 B1 H1 v x1 s1 sl1 r1 k1 => hE.e' C sl1 s1 k1 fun w2 S2 ρ2 B2 H2 v2 x2 s2 sl2 r2 k2 => ?_)
    obtain ⟨c, e, k3⟩ := k2.lift
    exact ixS_ok C.un s2 (r1.mono x2.b x2.pre) r2 e (fun ρ' B' H' v' x s r => k3 ρ' B' H' x s v' r)
  · rename_i elt tg iter ifs scope pos
    cases qd : dWalk pg g env S tg iter with
    | some z =>
      obtain ⟨items, S1⟩ := z
      rw [qd] at h
      obtain ⟨h1, h2⟩ := (show Hold X.K (guard' (lcG g tg iter ifs scope) (noExc (lcR false (lcStep E g env elt tg ifs scope) (fun _ => true) items [] S1))) ρ B H (okE X.K Q) (ExP X.K X.mg Wx) from h).grd
      unfold lcG at h1
      rw [Bool.and_eq_true, Bool.and_eq_true, Bool.and_eq_true] at h1
      obtain ⟨⟨⟨g1, g2⟩, g3⟩, g4⟩ := h1
      have bk : BlkOk X.N X.env.scope scope (ownOf g.N tg) := by
        rw [C.N, C.sc]
        exact blkOk_by g2
      exact lcD_ok hE C sl sr qd g1 bk g3 g4 h2
    | none =>
    rw [qd] at h
    obtain ⟨q, g1, bk, g3, g4⟩ := lcE_ok hE C sl sr (show Hold X.K (lcE pg E g env S false elt tg iter ifs scope) ρ B H (okE X.K Q) (ExP X.K X.mg Wx) from h)
    exact wE_of (pe_lc C.calm C.nd pwI bk (fun s0 H0 Ca cs fp => pg_tg (cx_blk C scope s0 H0 Ca cs fp) g3) (pts_of g4) (fun s0 H0 Ca cs fp => ⟨fun pins s σ' H' Q' I q => q s0 H0 Ca cs fp pins s I⟩) (not_set g1)) q
  · refine wE_of pe_dnewK fun p hp => ?_
    exact h _ _ _ (Ext.fresh sr.same hp) (sr.fresh hp) _ (.dct (kv := []) (.inl upd_same) rfl .nil)
  · rename_i kx vx tg iter ifs scope pos
    obtain ⟨q, g1, bk, g3, g4⟩ := dcE_ok hE C (pos := pos) sl sr (show Hold X.K (stepE pg cl E g env S (.DictComp kx vx [⟨tg, iter, ifs, 0⟩] scope pos)) ρ B H (okE X.K Q) (ExP X.K X.mg Wx) from h)
    exact wE_of (pe_dc C.calm C.nd pwI bk (fun s0 H0 Ca cs fp => pg_tg (cx_blk C scope s0 H0 Ca cs fp) g3) (pts_of g4) (fun s0 H0 Ca cs fp => ⟨fun pins s σ' H' Q' I q => q s0 H0 Ca cs fp pins s I⟩) (fun s0 H0 Ca cs fp => ⟨fun pins s σ' H' Q' I q => q s0 H0 Ca cs fp pins s I⟩) (not_set g1)) q
  · rename_i o f pos
    obtain ⟨h1, h2⟩ := h.grd
    refine wE_of (pe_fld pwE (own_base h1 _)) (hE.e' C sl sr h2 fun w S1 ρ1 B1 H1 v x s1 sl1 r k => ?_)
    cases q : objS S1 w with
    | none => rw [q] at k; exact k.elim
    | some cf =>
      obtain ⟨c, fs⟩ := cf
      rw [q] at k
      obtain ⟨k1, k2⟩ := k.grd
      obtain ⟨w', e, k3⟩ := k2.lift
      obtain ⟨a, Ca, dx, fv, rfl, ha, hc, e0, rr⟩ := objS_ok s1 r q
      obtain ⟨C2, hc2, cl2, na⟩ := C.flds c f k1
      cases hc.symm.trans hc2
      obtain ⟨v', hl, rv⟩ := (look_ok e0 rr).1 _ e
      exact ⟨a, _, dx, fv, v', rfl, ha, cl2, na, hl, k3 _ _ _ Ext.refl s1 v' rv⟩
  · rename_i o m apos as pos
    obtain ⟨h1, h2⟩ := h.grd
    rw [Bool.and_eq_true, Bool.and_eq_true, Bool.and_eq_true] at h1
    obtain ⟨⟨⟨g1, g2⟩, g3⟩, g4⟩ := h1
    have hs : ∀ e ∈ as, notStar e = true := fun e he => List.all_eq_true.mp g2 e he
    cases q : E.e g env S o with
    | bad => rw [q] at h2; exact h2.elim
    | exc c fs en S1 => rw [q] at h2; exact h2.elim
    | ok w S1 =>
      rw [q] at h2
      have h3 : Hold X.K (match objS S1 w with
        | some (c, fs) => (match pg.mt c m with
          | some n => guard' ((fs.lookup m).isNone) ((mapR (fun e S => E.e g env S e) as S1).bind fun ws S2 => guard' (decide (ws.length = n)) (back env (cl (mName c m) (w :: ws) S2)))
          | none => .bad)
        | none => methR E g env S1 m as w) ρ B H (okE X.K Q) (ExP X.K X.mg Wx) := h2
      cases q2 : objS S1 w with
      | none =>
        rw [q2] at h3
        have h3' : Hold X.K (methR E g env S1 m as w) ρ B H (okE X.K Q) (ExP X.K X.mg Wx) := h3
        clear h3
        unfold methR at h3'
        split at h3'
        · rename_i z e1
          exact strMeth_ok hE C g1 (hs e1 (List.mem_singleton.mpr rfl)) g4 sl sr q h3'
        rename_i nn
        obtain ⟨k1, k2⟩ := h3'.grd
        rw [Bool.and_eq_true, Bool.and_eq_true] at k1
        obtain ⟨m1, m2, m3⟩ := k1
        have em : m = "append" := of_decide_eq_true m1
        subst em
        obtain ⟨zs, hz⟩ := Option.isSome_iff_exists.mp m3
        cases as with
        | nil => cases m2
        | cons e1 es =>
          have few : ((backTo pos (starEach (e1 :: es) X.env)).all (fun x => !x.1) && (backToKw pos (keywordEach [] X.env)).all (fun x => x.1.isSome) && decide ((e1 :: es).length + ([] : List Keyword).length + (if ([] : List Keyword).isEmpty then 0 else 1) < 30)) = true := by
            have f1 : (backTo pos (starEach (e1 :: es) X.env)).all (fun x => !x.1) = true := by
              rw [← List.not_any_eq_all_not, stars_no hs]
              rfl
            rw [f1]
            show (true && true && decide ((e1 :: es).length + 0 + 0 < 30)) = true
            rw [decide_eq_true (by have := of_decide_eq_true g3; omega)]
            rfl
          refine wE_of (pe_bm PySem.F.plainAttrs_list PySem.F.slot_list_append PySem.F.type_list_append mt_append pwE pwA (own_base g1 _) few g4 (star_no (hs e1 (List.mem_cons_self ..))) (stars_no fun e' he => hs e' (List.mem_cons_of_mem _ he))) ?_
          refine (show wE X o σ H _ from hE.e C sl sr ?_)
          rw [q]
          intro ρ1 B1 H1 x1 s1 v r
          obtain ⟨a, xs, rfl, hl, _⟩ := seqL_ok s1 r hz
          refine ⟨.inl ⟨rfl, xs, hl⟩, (show wA X (e1 :: es) σ H1 _ from mapR_bind hE C (sl.mono x1) s1 (k2.ext x1) fun ws S2 ρ2 B2 H2 vs x2 s2 sl2 r2 k3 => ?_)⟩
          have r' := r.mono x2.b x2.pre
          unfold bmeth at k3
          split at k3
          · rename_i w3 S3 heq
            split at heq
            · rename_i n y
              rw [if_pos rfl] at heq
              split at heq
              · rename_i zs' hn
                split at heq
                · rename_i hsm
                  cases heq
                  cases r' with
                  | ref hn2 =>
                    obtain ⟨v1, e2, rv⟩ := one_of r2
                    obtain ⟨u, hu, ro⟩ := s2.at hn2 hn
                    cases ro with
                    | lst rr =>
                      refine ⟨_, _, v1, rfl, e2, hu, by rw [rr.length]; exact small_lt hsm, ?_⟩
                      exact k3 _ _ _ (Ext.setCell hn2) (s2.setCell hn2 hn (RepO.lst (rr.append (.cons rv .nil)))) _ .non
                · cases heq
              · cases heq
            · cases heq
          · exact k3.elim
      | some cf =>
        obtain ⟨c, fs⟩ := cf
        rw [q2] at h3
        have h4 : Hold X.K (match pg.mt c m with
          | some n => guard' ((fs.lookup m).isNone) ((mapR (fun e S => E.e g env S e) as S1).bind fun ws S2 => guard' (decide (ws.length = n)) (back env (cl (mName c m) (w :: ws) S2)))
          | none => .bad) ρ B H (okE X.K Q) (ExP X.K X.mg Wx) := h3
        cases q3 : pg.mt c m with
        | none => rw [q3] at h4; exact h4.elim
        | some n =>
          rw [q3] at h4
          obtain ⟨k1, k2⟩ := h4.grd
          obtain ⟨Ca, fa, fd, k, ps, hc, hcl, hm, F, b, hr⟩ := C.mts c m n q3
          obtain ⟨pl, hev⟩ := own_meth (o := o) (m := m) (env := X.env) (as := as) (apos := apos) (pos := pos) g1 hs (of_decide_eq_true g3) g4
          have recv : ∀ {P : List V → Hp → Prop} {T : TA}, (∀ ρ1 B1 H1 v, Ext ρ B H ρ1 B1 H1 → SR X.K ρ1 S1 B1 H1 → Sl X.K B1 ρ1 σ env → Rep X.K B1 ρ1 v w → T σ H1 fun vs H2 => SpF X.K X.mg cl (mName c m) (n + 1) (v :: (vs ++ [])) H2 Q (WE Wx σ)) →
              wE X o σ H (fun v H1 => ∃ a dx fs, v = .ref a ∧ H1 a = some (.ins Ca dx fs) ∧ fs.lookup m = none ∧ T σ H1 fun vs H2 => SpF X.K X.mg cl (mName c m) (n + 1) (v :: (vs ++ [])) H2 Q (WE Wx σ)) := by
            intro P T hT
            refine hE.e C sl sr ?_
            rw [q]
            intro ρ1 B1 H1 x1 s1 v r
            obtain ⟨a, C3, dx, fv, rfl, ha, hc3, e0, rr⟩ := objS_ok s1 r q2
            cases hc.symm.trans hc3
            exact ⟨a, dx, fv, rfl, ha, (look_ok e0 rr).2 (Option.isNone_iff_eq_none.mp k1), hT ρ1 B1 H1 _ x1 s1 (sl.mono x1) r⟩
          cases as with
          | nil =>
            refine wE_of (pe_methD0 (E := fun σ => WE Wx σ) pwE hcl hm F hr b .nil (fun σ => passAt C.tk σ) hev) (recv (P := fun _ _ => True) (T := tNil) fun ρ1 B1 H1 v x1 s1 sl1 r => ?_)
            have k3 := (k2.ext x1)
            obtain ⟨k4, k5⟩ := (show Hold X.K (guard' (decide (([] : List W).length = n)) (back env (cl (mName c m) [w] S1))) ρ1 B1 H1 (okE X.K Q) (ExP X.K X.mg Wx) from k3).grd
            refine ⟨by rw [← of_decide_eq_true k4]; rfl, ρ1, S1, B1, [w], s1, .cons r .nil, ?_⟩
            exact back_ok sl1 k5
          | cons e1 es =>
            refine wE_of (pe_methD (E := fun σ => WE Wx σ) pwE hcl hm F hr b .nil (fun σ => passAt C.tk σ) pwA (star_no (hs e1 (List.mem_cons_self ..))) (stars_no fun e' he => hs e' (List.mem_cons_of_mem _ he)) hev) (recv (P := fun _ _ => True) (T := wA X (e1 :: es)) fun ρ1 B1 H1 v x1 s1 sl1 r => ?_)
            refine mapR_bind hE C sl1 s1 (k2.ext x1) fun ws S2 ρ2 B2 H2 vs x2 s2 sl2 r2 k3 => ?_
            obtain ⟨k4, k5⟩ := k3.grd
            refine ⟨by rw [List.append_nil, List.length_cons, r2.length, of_decide_eq_true k4], ρ2, S2, B2, w :: ws, s2, by rw [List.append_nil]; exact .cons (r.mono x2.b x2.pre) r2, ?_⟩
            exact back_ok sl2 k5
  · rename_i p1 a t p2 pos
    obtain ⟨h1, h2⟩ := h.grd
    rw [Bool.and_eq_true, Bool.and_eq_true, Bool.and_eq_true, Bool.and_eq_true] at h1
    obtain ⟨⟨⟨⟨g1, g2⟩, g3⟩, g4⟩, g5⟩ := h1
    have no := odd_no g5
    have gi : X.mg "isinstance" = none := C.free _ (List.contains_iff_mem.mp g2)
    refine wE_of (pe_callB call_isi (glo_okB C g1) gi rfl (pa_cons pwE (pa_cons (pwE (X := X) (e := .Name t p2)) pa_nil) (star_no g3)) (he := star_no g3)) (hE.e' C sl sr h2 fun w S1 ρ1 B1 H1 v x s1 sl1 r k => ?_)
    cases q : tyW S1 w with
    | none => rw [q] at k; exact k.elim
    | some ty =>
      rw [q] at k
      obtain ⟨b, e, k2⟩ := k.bind.lift
      obtain ⟨u, cv, tn, kit, hcv⟩ := C.isi ty t b e
      have fin : ∀ c' : V, ClsV c' cv → rIsi X.K [v, c'] H1 Q := fun c' hc' => ⟨v, c', u, cv, b, rfl, hc', tyW_ok s1 r q tn, kit, (k2 _ _ _ Ext.refl s1).here s1 _ (.bl _)⟩
      rcases hcv with ⟨Ct, m3, rfl⟩ | ⟨m3, T, hb, rfl⟩
      · exact (show wE X (.Name t p2) σ H1 _ from wE_of (pe_glob (glo_okB C g4) m3 (v := .ref Ct) rfl no.1) (by exact fin (.ref Ct) (.own _)))
      · exact (show wE X (.Name t p2) σ H1 _ from wE_of (pe_bltn (glo_okB C g4) m3 hb (v := .ty T) rfl no.2.2 no.1) (by exact fin (.ty T) (.ty _)))
  · rename_i p1 a ts k2 p2 pos
    obtain ⟨h1, h2⟩ := h.grd
    rw [Bool.and_eq_true, Bool.and_eq_true, Bool.and_eq_true, Bool.and_eq_true] at h1
    obtain ⟨⟨⟨⟨g1, g2⟩, g3⟩, g4⟩, g5⟩ := h1
    have gi : X.mg "isinstance" = none := C.free _ (List.contains_iff_mem.mp g2)
    refine wE_of (pe_callB call_isiT (glo_okB C g1) gi rfl (pa_cons pwE (pa_cons (pe_tup (pwA (X := X) (es := ts))) pa_nil) (star_no g3)) (he := star_no g3)) (hE.e' C sl sr h2 fun w S1 ρ1 B1 H1 v x s1 sl1 r k => ?_)
    cases q : tyW S1 w with
    | none => rw [q] at k; exact k.elim
    | some ty =>
      cases qn : namesOf ts with
      | none => rw [q, qn] at k; exact k.elim
      | some ns =>
        rw [q, qn] at k
        cases ns with
        | nil => exact k.elim
        | cons c r' =>
        obtain ⟨b, e, k3⟩ := k.bind.lift
        have tnx : ∃ u, TyN X.K ty u := by
            have e' : (match pg.isi ty c, isiAny pg ty r' with
              | some b1, some b2 => some (b1 || b2)
              | _, _ => none) = some b := e
            cases q1 : pg.isi ty c with
            | none => rw [q1] at e'; cases e'
            | some b1 =>
              obtain ⟨u, _, tn, _⟩ := C.isi ty c b1 q1
              exact ⟨u, tn⟩
        obtain ⟨u, tn⟩ := tnx
        obtain ⟨cs, us, l, pr, ka, nm⟩ := names_ok C tn (σ := σ) (H := H1) g4 qn e
        refine nm ⟨by rw [l]; have := of_decide_eq_true g5; rw [sizeLine_eq]; omega, fun p hp => ?_⟩
        have s2 := s1.fresh (o := .tup cs) hp
        have x2 : Ext ρ1 B1 H1 ρ1 (upd B1 p (.tup cs)) (upd H1 p (.tup cs)) := Ext.fresh s1.same hp
        exact ⟨v, p, cs, u, us, b, rfl, upd_same, pr, tyW_ok s2 (r.mono x2.b x2.pre) q tn, ka, (k3 _ _ _ x2 s2).here s2 _ (.bl _)⟩
  · rename_i p1 p2 a p3 pos
    obtain ⟨h1, h2⟩ := h.grd
    rw [Bool.and_eq_true, Bool.and_eq_true, Bool.and_eq_true, Bool.and_eq_true] at h1
    obtain ⟨⟨⟨⟨g1, g2⟩, g3⟩, g4⟩, g5⟩ := h1
    refine wE_of (pe_lenSetS C.calm (glo_okB C g1) (C.free _ (List.contains_iff_mem.mp g3)) (glo_okB C g2) (C.free _ (List.contains_iff_mem.mp g4)) pwE (star_no g5)) (hE.e' C sl sr h2 fun w S1 ρ1 B1 H1 v x s1 sl1 r k => ?_)
    cases q : seqX S1 w with
    | none => rw [q] at k; exact k.elim
    | some ys =>
      rw [q] at k
      obtain ⟨k1, k2⟩ := k.grd
      have k3 := k2.here s1 _ (.int _)
      unfold seqX at q
      cases q1 : seqL S1 w with
      | some ws =>
        rw [q1] at q
        obtain ⟨l, xs, rfl, h1, h2⟩ := seqL_ok s1 r q1
        cases strsW_ok h2 q
        exact ⟨l, ys, rfl, .inl h1, of_decide_eq_true k1, k3⟩
      | none =>
        rw [q1] at q
        cases q2 : seqT w with
        | none =>
          rw [q2] at q
          cases q
        | some ws =>
          rw [q2] at q
          obtain ⟨l, xs, rfl, h1, h2⟩ := seqT_ok s1 r q2
          cases strsW_ok h2 q
          exact ⟨l, ys, rfl, .inr h1, of_decide_eq_true k1, k3⟩
  · rename_i f p a as pos hx hx2 hx3
    obtain ⟨h1, h2⟩ := h.grd
    rw [Bool.and_eq_true, Bool.and_eq_true] at h1
    obtain ⟨⟨g1, g2⟩, g3⟩ := h1
    have hs := mapR_stars h2
    cases q : pg.ar f with
    | some n =>
      obtain ⟨fa, fd, k, ps, hn, F, m, kp, b, hr⟩ := C.fns f n q
      refine wE_of (pe_callS (E := fun σ => WE Wx σ) F hr (glo_okB C g1) m kp b (fun σ => passAt C.tk σ) pwA (odd_no g2).1 (star_no (hs a (List.mem_cons_self ..))) (stars_no fun e' he => hs e' (List.mem_cons_of_mem _ he))) ?_
      refine (show wA X (a :: as) σ H _ from mapR_bind hE C sl sr h2 fun ws S1 ρ1 B1 H1 vs x1 s1 sl1 r k1 => ?_)
      rw [q] at k1
      obtain ⟨k2, k3⟩ := k1.grd
      refine ⟨by rw [r.length]; exact of_decide_eq_true k2, ρ1, S1, B1, ws, s1, r, ?_⟩
      cases qc : cl f ws S1 with
      | bad => rw [qc] at k3; exact k3.elim
      | ok w S2 => rw [qc] at k3; exact k3
      | exc c fs en S2 =>
        rw [qc] at k3
        exact fun ρ' B' H' x s C' d fv mc hd rf => k3 ρ' B' H' x s σ C' d fv (sl1.mono x) mc hd rf
    | none =>
      cases qn : pg.new f with
      | some nf =>
        obtain ⟨n, fz⟩ := nf
        obtain ⟨Ca, fa, fd, kk, ps, hc, hm, M, F, b, hr⟩ := C.news f n fz qn
        refine wE_of (pe_makeD (E := fun σ => WE Wx σ) M F hr (glo_okB C g1) hm b .nil (fun σ => passAt C.tk σ) pwA (odd_no g2).1 (star_no (hs a (List.mem_cons_self ..))) (stars_no fun e' he => hs e' (List.mem_cons_of_mem _ he))) ?_
        refine (show wA X (a :: as) σ H _ from mapR_bind hE C sl sr h2 fun ws S1 ρ1 B1 H1 vs x1 s1 sl1 r k1 => ?_)
        rw [q, qn] at k1
        obtain ⟨k2, k3⟩ := k1.grd
        intro p dx hp hdx hne
        obtain ⟨z1, z2, z3, z4⟩ := mkR_ok sl1 s1 hc hp hdx hne k3
        refine ⟨by rw [List.append_nil, List.length_cons, r.length, of_decide_eq_true k2], ρ1 ++ [p], S1 ++ [SO.ins f []], B1, .ref S1.length :: ws, z1, by rw [List.append_nil]; exact .cons z2 (r.mono z3.b z3.pre), z4⟩
      | none =>
      rw [q, qn] at g3
      have g4 : (known f && pg.free.contains f) = true := g3
      rw [Bool.and_eq_true] at g4
      refine bcall_ok C g1 g4.1 g2 (free_ok C g4.2) hs pwA (mapR_bind hE C sl sr h2 fun ws S1 ρ1 B1 H1 vs x1 s1 sl1 r k1 => ?_) wA_mono
      rw [q, qn] at k1
      obtain ⟨w, e, k2⟩ := k1.lift
      exact ⟨S1, ρ1, B1, ws, w, s1, r, e, fun ρ' B' H' v x s rv => k2 ρ' B' H' x s v rv⟩
  · rename_i f p pos
    obtain ⟨h1, h2⟩ := h.grd
    rw [Bool.and_eq_true] at h1
    obtain ⟨g1, g2⟩ := h1
    cases q : pg.ar f with
    | some n =>
      rw [q] at h2
      obtain ⟨k2, k3⟩ := h2.grd
      obtain ⟨fa, fd, k, ps, hn, F, m, kp, b, hr⟩ := C.fns f n q
      refine wE_of (pe_callD0 (E := fun σ => WE Wx σ) F hr (glo_okB C g1) m kp b .nil (fun σ => passAt C.tk σ) (odd_no g2).1) ?_
      exact ⟨by rw [← of_decide_eq_true k2]; rfl, ρ, S, B, [], sr, .nil, back_ok sl k3⟩
    | none =>
      rw [q] at h2
      cases qn : pg.new f with
      | none => rw [qn] at h2; exact h2.elim
      | some nf =>
        obtain ⟨n, fz⟩ := nf
        rw [qn] at h2
        obtain ⟨k2, k3⟩ := h2.grd
        obtain ⟨Ca, fa, fd, kk, ps, hc, hm, M, F, b, hr⟩ := C.news f n fz qn
        refine wE_of (pe_makeD0 (E := fun σ => WE Wx σ) M F hr (glo_okB C g1) hm b .nil (fun σ => passAt C.tk σ) (odd_no g2).1) ?_
        intro p dx hp hdx hne
        obtain ⟨z1, z2, z3, z4⟩ := mkR_ok sl sr hc hp hdx hne k3
        exact ⟨by rw [← of_decide_eq_true k2]; rfl, ρ ++ [p], S ++ [SO.ins f []], B, [.ref S.length], z1, .cons z2 .nil, z4⟩
  · exact h.elim
end
end Mi

set_option Elab.async false
set_option linter.all false
set_option maxRecDepth 100000
set_option maxHeartbeats 4000000
noncomputable section
namespace Mi
open PySem PySem.Spec PyProof.Rows L2
variable [Gam]
section
variable {pg : Pg} {cl : Str → List W → Sto → R W} {E : Evs} {g : Gm} {Wx : WX} {X : Cx}
def nmE (t : Str × Pos) : Expr := .Name t.1 t.2
theorem names_map {f : Expr → Option Str} : ∀ {ts : List (Str × Pos)}, (∀ t ∈ ts, f (nmE t) = some t.1) → (ts.map nmE).filterMap f = ts.map Prod.fst
  | [], _ => rfl
  | t :: ts, h => by
    rw [List.map_cons, List.map_cons, List.filterMap_cons, h t (List.mem_cons_self ..), names_map (ts := ts) fun u hu => h u (List.mem_cons_of_mem _ hu)]
theorem stars_any {f : Expr → Bool} (hf : ∀ e, notStar e = true → f e = false) : ∀ {vs : List Expr}, vs.all notStar = true → vs.any f = false
  | [], _ => rfl
  | a :: vs, h => by
    rw [List.all_cons, Bool.and_eq_true] at h
    rw [List.any_cons, stars_any hf h.2, hf a h.1]
    rfl
theorem swapN {env : Env} {ts : List (Str × Pos)} {vs : List Expr} (hbk : (env.blockKind != .function) = false) (ln : (!((ts.map nmE).length == 2 || (ts.map nmE).length == 3) || vs.length != (ts.map nmE).length || false) = false)
    (h : ∀ t ∈ ts, (env.kindOf t.1 == some .local) = true ∧ (t.2.line == ((ts.head?.map (·.2.line)).getD 0)) = true) (hd : (ts.map Prod.fst).eraseDups.length = (ts.map Prod.fst).length) (hs : vs.all notStar = true)
    (hf : vs.all (foldedForSure 8) = false) (hc : vs.all (constantsAlone 8) = false) (kt : Nat) (pt pt2 : Pos) (k2 : Nat) : swappedStores [.Tuple (ts.map nmE) kt pt] (.Tuple vs k2 pt2) env = pure (some (ts.map Prod.fst)) := by
  have hL : (Option.map (fun x : Expr => x.pos.line) (ts.map nmE).head?).getD 0 = (ts.head?.map (·.2.line)).getD 0 := by
    cases ts <;> rfl
  unfold swappedStores
  simp only []
  rw [hbk, ln, if_neg Bool.false_ne_true, hL]
  refine (if_neg (by rw [stars_any (fun e he => by cases e <;> first | rfl | cases he) hs]; exact Bool.false_ne_true)).trans ?_
  rw [names_map (ts := ts)]
  · rw [hd, hf, hc, if_neg Bool.false_ne_true, if_neg Bool.false_ne_true, if_neg]
    rw [List.length_map, List.length_map]
    simp
  · intro t ht
    obtain ⟨h1, h2⟩ := h t ht
    show (if (env.kindOf t.1 == some .local && t.2.line == (ts.head?.map (·.2.line)).getD 0) = true then some t.1 else none) = some t.1
    rw [h1, h2]
    rfl
theorem swB_ok (C : CxOk pg cl g Wx X) {ts : List (Str × Pos)} {vs : List Expr} (ln : (!((ts.map nmE).length == 2 || (ts.map nmE).length == 3) || vs.length != (ts.map nmE).length || false) = false) (h : swB g ts vs = true) :
    (∀ t ∈ ts, X.N[(slotOf g.N t.1).getD 0]? = some t.1 ∧ X.env.scope.names.lookup t.1 = some .local) ∧ (ts.map Prod.fst).Nodup ∧ vs.all notStar = true ∧ ∀ kt pt pt2 k2, swappedStores [.Tuple (ts.map nmE) kt pt] (.Tuple vs k2 pt2) X.env = pure (some (ts.map Prod.fst)) := by
  unfold swB at h
  rw [Bool.and_eq_true, Bool.and_eq_true, Bool.and_eq_true, Bool.and_eq_true, Bool.and_eq_true, Bool.and_eq_true] at h
  obtain ⟨⟨⟨⟨⟨h1, h2⟩, h3, h4⟩, h5⟩, h6⟩, h7⟩ := h
  have k : ∀ t ∈ ts, X.N[(slotOf g.N t.1).getD 0]? = some t.1 ∧ (X.env.kindOf t.1 == some .local) = true ∧ (t.2.line == ((ts.head?.map (·.2.line)).getD 0)) = true := fun t ht => by
    have z := List.all_eq_true.mp h2 t ht
    rw [Bool.and_eq_true, Bool.and_eq_true] at z
    obtain ⟨i, hi⟩ := Option.isSome_iff_exists.mp z.2
    refine ⟨by rw [hi, C.N]; exact slotOf_get hi, ?_, z.1.2⟩
    show (X.env.scope.names.lookup t.1 == some .local) = true
    rw [C.sc]
    exact z.1.1
  refine ⟨fun t ht => ⟨(k t ht).1, ?_⟩, of_decide_eq_true h3, h5, swapN ?_ ln (fun t ht => (k t ht).2) (of_decide_eq_true h4) h5 (by simpa using h6) (by simpa using h7)⟩
  · have z := (k t ht).2.1
    have z' : (X.env.scope.names.lookup t.1 == some .local) = true := z
    cases w : X.env.scope.names.lookup t.1 with
    | none => rw [w] at z'; cases z'
    | some q =>
      rw [w] at z'
      cases q <;> first | rfl | cases z'
  · show ((if X.env.scope.kind.isAnnotationScope then ScopeKind.function else X.env.scope.kind) != .function) = false
    rw [C.sc]
    show (!((if g.sc.kind.isAnnotationScope then ScopeKind.function else g.sc.kind) == .function)) = false
    rw [h1]
    rfl
theorem slot_ne {N : List Str} {x y : Str} {i j : Nat} (h1 : N[i]? = some x) (h2 : N[j]? = some y) (h : x ≠ y) : i ≠ j := fun e => by
  subst e
  rw [h1] at h2
  exact h (Option.some.inj h2)
end
end Mi

set_option Elab.async false
set_option linter.all false
set_option maxRecDepth 100000
set_option maxHeartbeats 4000000
/-! Mi9: tests and statements; the evaluator is right. -/
noncomputable section
namespace Mi
open PySem PySem.Spec PyProof.Rows L2
variable [Gam]
section
variable {pg : Pg} {cl : Str → List W → Sto → R W} {E : Evs} {g : Gm} {Wx : WX} {X : Cx}
theorem plain_t {e : Expr} {env : Env} (h : plainT e = true) : ∀ whole, isTrue e env whole = (do let v ← whole; standAt e.pos; holding [v] (truthy v)) := by
  intro w
  cases e with
  | UnaryOp op a p => cases op <;> first | rfl | cases h
  | _ => first | rfl | cases h
theorem stepT_ok (hE : EvOk pg cl E) (C : CxOk pg cl g Wx X) {e : Expr} {env : Env'} {S : Sto} {σ : L2.St} {ρ : List Addr} {B H : Hp} {Q : Bool → Hp → Prop} (sl : Sl X.K B ρ σ env) (sr : SR X.K ρ S B H)
    (h : Hold X.K (stepT E g env S e) ρ B H (okT Q) (ExP X.K X.mg Wx)) : wT X e σ H Q := by
  unfold stepT at h
  split at h
  · refine wT_of (pt_not pwT) (hE.t' C sl sr h fun b S1 ρ1 B1 H1 x s1 sl1 k => ?_)
    exact k.here s1
  · exact wT_of (PW.pt pwW) (allR_ok hE C sl sr h)
  · obtain ⟨h1, h2⟩ := h.grd
    refine wT_of (pt_cmpR opW_r pwE pwE (by simpa using h1)) (hE.e' C sl sr h2 fun w S1 ρ1 B1 H1 v x1 s1 sl1 r1 k1 => hE.e' C sl1 s1 k1 fun w2 S2 ρ2 B2 H2 v2 x2 s2 sl2 r2 k2 => ?_)
    obtain ⟨c, e, k3⟩ := k2.lift
    refine cmpop_ok C.un s2 (r1.mono x2.b x2.pre) r2 e (fun ρ' B' H' v' x s r => ?_)
    cases r
    exact ⟨c, rfl, k3 ρ' B' H' x s⟩
  · obtain ⟨h1, h2⟩ := h.grd
    refine wT_of (pt_chain opW_r opW_r pwE pwE pwE (by simpa using h1)) (hE.e' C sl sr h2 fun w S1 ρ1 B1 H1 v x1 s1 sl1 r1 k1 => hE.e' C sl1 s1 k1 fun w2 S2 ρ2 B2 H2 v2 x2 s2 sl2 r2 k2 => ?_)
    obtain ⟨c, e, k3⟩ := k2.bind.lift
    refine cmpop_ok C.un s2 (r1.mono x2.b x2.pre) r2 e (fun ρ3 B3 H3 v3 x3 s3 r3 => ?_)
    cases r3
    have k4 := k3 ρ3 B3 H3 x3 s3
    refine ⟨c, rfl, ?_⟩
    cases c with
    | false => exact (show ∃ k, V.bl false = .bl k ∧ Q k H3 from ⟨false, rfl, k4.here s3⟩)
    | true =>
      refine (show wE X _ σ H3 _ from hE.e' C (sl2.mono x3) s3 k4 fun w5 S5 ρ5 B5 H5 v5 x5 s5 sl5 r5 k5 => ?_)
      obtain ⟨c', e', k6⟩ := k5.lift
      refine cmpop_ok C.un s5 ((r2.mono x3.b x3.pre).mono x5.b x5.pre) r5 e' (fun ρ' B' H' v' x s r => ?_)
      cases r
      exact ⟨c', rfl, k6 ρ' B' H' x s⟩
  · obtain ⟨h1, h2⟩ := h.grd
    refine wT_of (pt_truth pwE (plain_t h1)) (hE.e' C sl sr h2 fun w S1 ρ1 B1 H1 v x1 s1 sl1 r1 k1 => ?_)
    obtain ⟨b, e, k2⟩ := k1.lift
    exact ⟨b, truth_ok s1 r1 e, k2 ρ1 B1 H1 Ext.refl s1⟩

/-! ### statements -/
theorem nextN_ok {K : PySem.W.Frag} {x : Str} {w : W} {env : Env'} {S : Sto} {ρ : List Addr} {B H : Hp} {D : Ends} {σ : L2.St} {v : V} {ex : Str → List (Str × W) → Env' → List Addr → Hp → Hp → Prop} (h : Hold K (nextN g x w env S) ρ B H (okS K D) ex) (sr : SR K ρ S B H) (sl : Sl K B ρ σ env) (r : Rep K B ρ v w) :
    D.nx (σ.set ((slotOf g.N x).getD 0) (some v)) H := by
  unfold nextN at h
  cases q : bindN g x w env with
  | none => rw [q] at h; exact h.elim
  | some env1 =>
    rw [q] at h
    exact h.here sr _ (bindN_ok sl r q)
theorem name_slot (C : CxOk pg cl g Wx X) {x : Str} {p : Pos} (h : nameOk g (.Name x p) = true) : X.N[(slotOf g.N x).getD 0]? = some x ∧ L2.Loc X.env.scope x ∧ (X.fn x = true ∨ X.env.scope.names.lookup x = some .local) := by
  unfold nameOk at h
  rw [Bool.and_eq_true] at h
  obtain ⟨i, hi⟩ := Option.isSome_iff_exists.mp h.2
  rw [hi]
  exact ⟨by rw [C.N]; exact slotOf_get hi, loc_ok C h.1⟩
theorem no_comp {e : Expr} {t : Option Expr} {l : Nat} {env : Env} (h : (!isComp e) = true) : swapsWith e t l env = pure false := by
  cases e <;> first | rfl | cases h
theorem no_sole {t e : Expr} {l : Nat} {env : Env} (h : (!isComp e) = true) : swapsWithSole [t] e l env = pure false := by
  cases e <;> first | rfl | cases h
theorem no_swap {tg e : Expr} {env : Env} (h : (!isTup e) = true) : swappedStores [tg] e env = pure none := by
  cases e <;> first | (cases h; done) | (cases tg <;> rfl)
def rGetL (K : PySem.W.Frag) : V → V → Hp → VK → Prop := fun o i H Q => ∃ p xs k v, o = .ref p ∧ i = .int k ∧ SqL K H p xs ∧ 0 ≤ k ∧ k < 2 ^ 62 ∧ xs[k.toNat]? = some v ∧ Q v H
theorem get_list : PGet X (rGetL X.K) := by
  intro pins s σ H o i ov iv Q I ro ri h
  obtain ⟨p, xs, k, v, rfl, rfl, hq, h0, h1, hv, q⟩ := h
  cases ro
  obtain ⟨t, rfl⟩ := ri
  obtain ⟨its, rv, pl, hz⟩ := I.list hq
  obtain ⟨u, hu, ru⟩ := rv.get hv
  exact wpAny_getItem_list pl.isList h0 (by omega) (by simpa using hu) ⟨v, H, I, ru, q⟩
theorem ixN_in {n : Nat} {k : Int} (h0 : 0 ≤ k) (h : k.toNat < n) : ixN n k = some k.toNat := by
  unfold ixN
  rw [if_pos h0, if_pos (by omega)]
theorem aug_store {i : Expr} {ov iv new : Value} (h : plainIx i = true) : augStore i ov iv new = (do holding [new, ov, iv] (setItem ov iv new); release [new, ov, iv] []; pure .next) := by
  cases i <;> first | rfl | cases h
theorem sw_comp (elt : Expr) (gs : List Comprehension) (scope : Scope) (pos : Pos) (y : Str) (py : Pos) (l : Nat) (env : Env) : (swapsWith (.ListComp elt gs scope pos) (some (.Name y py)) l env = pure true ∧ env.scope.names.lookup y = some .local) ∨ swapsWith (.ListComp elt gs scope pos) (some (.Name y py)) l env = pure false := by
  have e : swapsWith (.ListComp elt gs scope pos) (some (.Name y py)) l env = pure (env.blockKind == .function && env.kindOf y == some .local && py.line == pos.line && !(scope.names.any fun (n, k) => n == y && (k == .local || k == .cell))) := rfl
  rw [e]
  cases q : (env.blockKind == .function && env.kindOf y == some .local && py.line == pos.line && !(scope.names.any fun (n, k) => n == y && (k == .local || k == .cell))) with
  | false => exact .inr rfl
  | true =>
    refine .inl ⟨rfl, ?_⟩
    rw [Bool.and_eq_true, Bool.and_eq_true, Bool.and_eq_true] at q
    have z : env.kindOf y = some .local := by
      have z := q.1.1.2
      cases w : env.kindOf y with
      | none => rw [w] at z; cases z
      | some k =>
        rw [w] at z
        cases k <;> first | rfl | cases z
    exact z
theorem valC_ok (hE : EvOk pg cl E) (C : CxOk pg cl g Wx X) {fl : Bool} {e : Expr} {env : Env'} {S : Sto} {σ : L2.St} {ρ : List Addr} {B H : Hp} {Q : VK} (sl : Sl X.K B ρ σ env) (sr : SR X.K ρ S B H)
    (h : Hold X.K (valC E g env S fl e) ρ B H (okE X.K Q) (ExP X.K X.mg Wx)) : wE X e σ H Q := by
  unfold valC at h
  split at h
  · refine wE_of (pe_lst pwA) (mapS_bind hE C sl sr h fun ws S1 ρ1 B1 H1 vs x s1 sl1 r k => ?_)
    obtain ⟨k1, k2⟩ := k.grd
    refine ⟨by rw [r.length]; exact small_line k1, fun p hp => ?_⟩
    exact k2 _ _ _ (Ext.cell hp) (s1.newCell hp (RepO.lst r)) _ (.ref (by rw [← s1.len]; simp))
  · refine wE_of pe_dnewK fun p hp => ?_
    exact h _ _ _ (Ext.cell hp) (sr.newCell hp (RepO.dct (kv := []) (ks := []) rfl .nil)) _ (.ref (by rw [← sr.len]; simp))
  · refine wE_of (pe_op opW_r pwE pwE) (hE.e' C sl sr h fun w S1 ρ1 B1 H1 v x1 s1 sl1 r1 k1 => hE.e' C sl1 s1 k1 fun w2 S2 ρ2 B2 H2 v2 x2 s2 sl2 r2 k2 => ?_)
    split at k2
    · rename_i xs ys q1 q2
      obtain ⟨k3, k4⟩ := k2.grd
      obtain ⟨a1, vs1, rfl, h1, rr1⟩ := lstE_ok s2 (r1.mono x2.b x2.pre) q1
      obtain ⟨a2, vs2, rfl, h2, rr2⟩ := lstE_ok s2 r2 q2
      exact opW_of op_cat ⟨_, _, _, _, rfl, rfl, h1, h2, by rw [rr1.length, rr2.length]; exact small_line k3, fun p hp => k4 _ _ _ (Ext.cell hp) (s2.newCell hp (RepO.lst (rr1.append rr2))) _ (.ref (by rw [← s2.len]; simp))⟩
    · obtain ⟨c, e, k3⟩ := k2.lift
      exact binop_ok s2 (r1.mono x2.b x2.pre) r2 e (fun ρ' B' H' v' x s r => k3 ρ' B' H' x s v' r)
  · exact hE.e C sl sr h
theorem valC_bind (hE : EvOk pg cl E) (C : CxOk pg cl g Wx X) {β : Type} {fl : Bool} {e : Expr} {env : Env'} {S : Sto} {σ : L2.St} {ρ : List Addr} {B H : Hp} {Q : VK} {f : W → Sto → R β} {ok : β → Sto → List Addr → Hp → Hp → Prop} (sl : Sl X.K B ρ σ env) (sr : SR X.K ρ S B H)
    (hd : Hold X.K ((valC E g env S fl e).bind f) ρ B H ok (ExP X.K X.mg Wx)) (k : ∀ w S' ρ' B' H' v, Ext ρ B H ρ' B' H' → SR X.K ρ' S' B' H' → Sl X.K B' ρ' σ env → Rep X.K B' ρ' v w → Hold X.K (f w S') ρ' B' H' ok (ExP X.K X.mg Wx) → Q v H') : wE X e σ H Q :=
  valC_ok hE C sl sr (hd.bind.imp (fun w S' ρ' B' H' x s' q v r => k w S' ρ' B' H' v x s' (sl.mono x) r q) fun _ _ _ _ _ _ q => q)
theorem no_swapA {e o : Expr} {f : Str} {p : Pos} {n : Nat} {env : Env} : swapsWith e (some (.Attribute o f p)) n env = pure false := by
  cases e <;> rfl
theorem zip_rep {K : PySem.W.Frag} {B : Hp} {ρ : List Addr} : ∀ {ns : List Str} {vs : List V} {ws : List W}, RepL K B ρ vs ws → RepF K B ρ (ns.zip vs) (ns.zip ws)
  | [], _, _, _ => .nil
  | _ :: _, _, _, .nil => .nil
  | _ :: _, _, _, .cons h r => .cons h (zip_rep r)
theorem repF_app {K : PySem.W.Frag} {B : Hp} {ρ : List Addr} : ∀ {a c : List (Str × V)} {b d : List (Str × W)}, RepF K B ρ a b → RepF K B ρ c d → RepF K B ρ (a ++ c) (b ++ d)
  | _, _, _, _, .nil, s => s
  | _, _, _, _, .cons h r, s => .cons h (repF_app r s)
theorem repF_rev {K : PySem.W.Frag} {B : Hp} {ρ : List Addr} : ∀ {a : List (Str × V)} {b : List (Str × W)}, RepF K B ρ a b → RepF K B ρ a.reverse b.reverse
  | _, _, .nil => .nil
  | _, _, .cons h r => by
    rw [List.reverse_cons, List.reverse_cons]
    exact repF_app (repF_rev r) (.cons h .nil)
theorem passF {W : WX} (σ : L2.St) : PassesAt (L2.CX X.prog X.w) X σ (fun _ _ _ => False) := passAt (W := fun _ _ _ _ => False) takes0 σ
/-! ### except clauses -/
theorem repF_look {K : PySem.W.Frag} {B : Hp} {ρ : List Addr} {f : Str} {w : W} : ∀ {fv : List (Str × V)} {fs : List (Str × W)}, RepF K B ρ fv fs → fs.lookup f = some w → ∃ v, fv.lookup f = some v ∧ Rep K B ρ v w
  | _, _, .nil, h => by cases h
  | _, _, @RepF.cons _ _ _ _ x v w' fv fs r t, h => by
    rw [List.lookup_cons] at h ⊢
    cases q : f == x with
    | true =>
      rw [q] at h
      cases h
      exact ⟨v, rfl, r⟩
    | false =>
      rw [q] at h
      exact repF_look t h
theorem xd_out {K : PySem.W.Frag} {ρ : List Addr} {S : Sto} {B H : Hp} {d : Addr} {fv : List (Str × V)} (s : SR K ρ S B H) (h : H d = some (.xd fv)) : d ∉ ρ := fun hm => by
  obtain ⟨i, hi⟩ := List.getElem?_of_mem hm
  have hl : i < S.length := by rw [← s.len]; exact (List.getElem?_eq_some_iff.mp hi).1
  have c := s.cell i d S[i] hi (by simp [hl])
  cases q : isImd S[i] with
  | false =>
    obtain ⟨_, u, hu, r⟩ := c.live q
    rw [h] at hu
    cases hu
    cases r
  | true =>
    cases qs : S[i] with
    | imd ks =>
      rw [qs] at c
      obtain ⟨kv, h1, _⟩ := c
      rcases Same.rd s.same h1 with z | ⟨o, z⟩
      · rw [h] at z; cases z
      · rw [h] at z; cases z
    | _ => rw [qs] at q; cases q
theorem repF_mono {K : PySem.W.Frag} {B B' : Hp} {ρ ρ' : List Addr} (s : Same B B') (p : ∃ m, ρ' = ρ ++ m) : ∀ {fv : List (Str × V)} {fs : List (Str × W)}, RepF K B ρ fv fs → RepF K B' ρ' fv fs
  | _, _, .nil => .nil
  | _, _, .cons r t => .cons (r.mono s p) (repF_mono s p t)
section
variable {n c : Str} {fs : List (Str × W)} {i : Nat} {a d Ca : Addr} {oe : Obj} {pn : List (Addr × Obj)} {fv : List (Str × V)} {σ : L2.St}
theorem suT_ok (C : CxOk pg cl g Wx X) (hi : X.N[i]? = some n) (hv : visB g.sc n = true) (od : odd n = false) (hs : σ[i]? = some (some (.ref a))) (hc : X.mg c = some (.ref Ca)) (hz : Zc (.ref Ca) (some d) oe) (hf : ∃ vs, oe.data = .fields vs)
    {e : Expr} {b : Bool} {ρ : List Addr} {S : Sto} {B H : Hp} {Q : Bool → Hp → Prop} (sr : SR X.K ρ S B H) (hd : H d = some (.xd fv)) (h : suT pg g n c e = some b) (q : Q b H) : wT (X.suite a ((a, oe) :: pn)) e σ H Q := by
  unfold suT at h
  split at h
  · rename_i f p1 y p2 t p3 pos
    split at h
    · rename_i hh
      obtain ⟨rfl, rfl, g1, g2, g3, g4⟩ := hh
      obtain ⟨C2, cv, m2, xc, kit, hcv⟩ := C.exi c t b h
      cases hc.symm.trans m2
      have no := odd_no (x := y) (by rw [od]; rfl)
      have not_ := odd_no (x := t) (by rw [g4]; rfl)
      have p1 : PE (X.suite a ((a, oe) :: pn)) (.Name y p2) (tVar i) := pe_var hi (vis_ok C hv) no.1 no.2.1
      have gi : X.mg "isinstance" = none := C.free _ (List.contains_iff_mem.mp g2)
      refine wT_of (pt_truth (pe_callB (call_isX xc hz hf) (glo_okB C g1) gi rfl (pa_cons p1 (pa_cons (pwE (X := X.suite a ((a, oe) :: pn)) (e := .Name t p3)) pa_nil))) (fun _ => rfl)) ?_
      have fin : ∀ c' : V, RelV c' cv → (∀ u, RelV c' u → u = cv) → rIsX X.K Ca a d [.ref a, c'] H fun x H1 => ∃ b, TruV X.K x H1 b ∧ Q b H1 := fun c' _ h2 => ⟨c', cv, b, fv, rfl, h2, hd, kit, b, truth_ok sr (.bl b) rfl, q⟩
      rcases hcv with ⟨Ct, m3, rfl⟩ | ⟨m3, T, hb, rfl⟩
      · refine ⟨_, hs, (show wE (X.suite a ((a, oe) :: pn)) (.Name t p3) σ H _ from wE_of (pe_glob (X := X.suite a ((a, oe) :: pn)) (glo_okB C g3) m3 (v := .ref Ct) rfl not_.1) (by exact fin (.ref Ct) rfl fun u r => r))⟩
      · refine ⟨_, hs, (show wE (X.suite a ((a, oe) :: pn)) (.Name t p3) σ H _ from wE_of (pe_bltn (X := X.suite a ((a, oe) :: pn)) (glo_okB C g3) m3 hb (v := .ty T) rfl not_.2.2 not_.1) (by exact fin (.ty T) rfl fun u r => r))⟩
    · cases h
  · cases h
mutual
theorem suE_ok (C : CxOk pg cl g Wx X) (hi : X.N[i]? = some n) (hv : visB g.sc n = true) (od : odd n = false) (hs : σ[i]? = some (some (.ref a))) (hc : X.mg c = some (.ref Ca)) (hz : Zc (.ref Ca) (some d) oe) (hf : ∃ vs, oe.data = .fields vs) :
    ∀ {k : Nat} {e : Expr} {w : W} {ρ : List Addr} {S : Sto} {B H : Hp} {Q : VK}, SR X.K ρ S B H → H d = some (.xd fv) → RepF X.K B ρ fv fs → suE pg g n c fs k e = some w → Val X.K w S Q ρ B H → wE (X.suite a ((a, oe) :: pn)) e σ H Q
  | 0, e, w, ρ, S, B, H, Q, sr, hd, rf, h, q => by cases h
  | k + 1, e, w, ρ, S, B, H, Q, sr, hd, rf, h, q => by
    unfold suE at h
    split at h
    · split at h
      · cases h; exact wE_of pe_int (q.here sr (.int _))
      · cases h; exact wE_of pe_bl (q.here sr (.bl _))
      · cases h; exact wE_of pe_non (q.here sr .non)
      · cases h; exact wE_of pe_str (q.here sr (.str _))
      · cases h
    · rename_i y p1 f p2
      split at h
      · rename_i hh
        obtain ⟨rfl, hx⟩ := hh
        obtain ⟨C2, m2, T, no⟩ := C.exf c f hx
        cases hc.symm.trans m2
        have no2 := odd_no (x := y) (by rw [od]; rfl)
        have p1 : PE (X.suite a ((a, oe) :: pn)) (.Name y p1) (tVar i) := pe_var hi (vis_ok C hv) no2.1 no2.2.1
        obtain ⟨v, l, rv⟩ := repF_look rf h
        exact wE_of (pe_xf T no hz hf p1) ⟨_, hs, rfl, rfl, d, fv, v, rfl, hd, l, q.here sr rv⟩
      · cases h
    · rename_i es p1 p2
      split at h
      · rename_i ws ns hws
        split at h
        · rename_i hsm
          cases h
          refine wE_of (pe_tup pwA) (suEs_ok C hi hv od hs hc hz hf sr hd rf (fun e he => List.all_eq_true.mp ns e he) hws fun ρ1 B1 H1 vs x1 s1 r => ⟨by rw [r.length]; exact small_line hsm, fun p hp => ?_⟩)
          exact Val.newT (fun ρ' B' H' v x s rv => q ρ' B' H' v (x1.trans x) s rv) s1 r hp
        · cases h
      · cases h
    · rename_i t x y p1
      split at h
      · rename_i ht
        exact wE_of (pe_ifExp pwT pwE pwE) (suT_ok C hi hv od hs hc hz hf sr hd ht (show wE (X.suite a ((a, oe) :: pn)) _ σ H Q from suE_ok C hi hv od hs hc hz hf sr hd rf h q))
      · rename_i ht
        exact wE_of (pe_ifExp pwT pwE pwE) (suT_ok C hi hv od hs hc hz hf sr hd ht (show wE (X.suite a ((a, oe) :: pn)) _ σ H Q from suE_ok C hi hv od hs hc hz hf sr hd rf h q))
      · cases h
    · cases h
theorem suEs_ok (C : CxOk pg cl g Wx X) (hi : X.N[i]? = some n) (hv : visB g.sc n = true) (od : odd n = false) (hs : σ[i]? = some (some (.ref a))) (hc : X.mg c = some (.ref Ca)) (hz : Zc (.ref Ca) (some d) oe) (hf : ∃ vs, oe.data = .fields vs) :
    ∀ {k : Nat} {es : List Expr} {ws : List W} {ρ : List Addr} {S : Sto} {B H : Hp} {P : List V → Hp → Prop}, SR X.K ρ S B H → H d = some (.xd fv) → RepF X.K B ρ fv fs → (∀ e ∈ es, notStar e = true) → suEs pg g n c fs k es = some ws →
      (∀ ρ' B' H' vs, Ext ρ B H ρ' B' H' → SR X.K ρ' S B' H' → RepL X.K B' ρ' vs ws → P vs H') → wA (X.suite a ((a, oe) :: pn)) es σ H P
  | 0, es, ws, ρ, S, B, H, P, sr, hd, rf, ns, h, q => by cases h
  | k + 1, [], ws, ρ, S, B, H, P, sr, hd, rf, ns, h, q => by
    cases h
    exact wA_of pa_nil (q ρ B H [] Ext.refl sr .nil)
  | k + 1, e :: es, ws, ρ, S, B, H, P, sr, hd, rf, ns, h, q => by
    unfold suEs at h
    split at h
    · rename_i w ws' h1 h2
      cases h
      refine wA_of (pa_cons pwE pwA (star_no (ns e (List.mem_cons_self ..)))) (suE_ok C hi hv od hs hc hz hf sr hd rf h1 fun ρ1 B1 H1 v x1 s1 rv => ?_)
      have hd1 : H1 d = some (.xd fv) := x1.frame d _ hd (xd_out sr hd)
      refine (show wA (X.suite a ((a, oe) :: pn)) es σ H1 _ from suEs_ok C hi hv od hs hc hz hf s1 hd1 (repF_mono x1.b x1.pre rf) (fun e' he => ns e' (List.mem_cons_of_mem _ he)) h2 fun ρ2 B2 H2 vs x2 s2 rs => ?_)
      exact q ρ2 B2 H2 _ (x1.trans x2) s2 (.cons (rv.mono x2.b x2.pre) rs)
    · cases h
end
end
/-- what a clause does, whatever the exception's object -/
def tsOf (X : Cx) (suite : List Stmt) : Addr → Value → Option Addr → TS := fun a cls d D σ H => ∀ oe pn, Zc cls d oe → (∃ vs, oe.data = .fields vs) → wSs (X.suite a ((a, oe) :: pn)) suite D σ H
theorem cx_tr (C : CxOk pg cl g Wx X) {W : WX} {pn : List (Addr × Obj)} {xe : Value → Shared → Prop} (tk : Takes (X.tr pn xe) W) (ps : PassesOwn (model X.prog X.w) X.A X.env xe) : CxOk pg cl g W (X.tr pn xe) where
  N := C.N
  nd := C.nd
  sc := C.sc
  fn := C.fn
  calm := C.calm
  un := C.un
  pass := ps
  tk := tk
  cst := C.cst
  fns := C.fns
  free := C.free
  flds := C.flds
  xcs := C.xcs
  top := C.top
  exk := C.exk
  exm := C.exm
  exf := C.exf
  exi := C.exi
  isi := C.isi
  mts := C.mts
  news := C.news
theorem hands_of (C : CxOk pg cl g Wx X) : ∀ {hds : List ExceptHandler}, hds.all (hdOk pg g) = true → ∃ l : List Hand, Hands X hds l ∧
    ∀ {c : Str} {fs : List (Str × W)} {env : Env'} {S : Sto} {D : Ends} {ρ0 ρ : List Addr} {B0 H0 B H : Hp}, Hold X.K (hdR pg g c fs env S hds) ρ0 B0 H0 (okS X.K D) (ExP X.K X.mg Wx) → Ext ρ0 B0 H0 ρ B H → SR X.K ρ S B H →
      ExP X.K X.mg (wHands X.K Wx D l) c fs env ρ B H
  | [], _ => ⟨[], .nil, fun h x s => h _ _ _ x s⟩
  | hd :: hds, h => by
    rw [List.all_cons, Bool.and_eq_true] at h
    obtain ⟨l, h1, h2⟩ := hands_of C h.2
    have hk := h.1
    unfold hdOk at hk
    split at hk
    · rename_i x p1 n e p2 p3
      rw [Bool.and_eq_true, Bool.and_eq_true, Bool.and_eq_true, Bool.and_eq_true, Bool.and_eq_true] at hk
      obtain ⟨⟨⟨⟨⟨g1, g2⟩, g3⟩, g4⟩, g5⟩, g6⟩ := hk
      obtain ⟨Cx, mx⟩ := C.exk x g3
      obtain ⟨i, hi⟩ := Option.isSome_iff_exists.mp g4
      have loc : g.sc.names.lookup n = some .local := eq_of_beq g5
      have hi' : X.N[i]? = some n := by rw [C.N]; exact slotOf_get hi
      refine ⟨(.ref Cx, i, tsOf X [.Return (some e) p2]) :: l, .cons ⟨glo_okB C g1, (odd_no g2).1, .inl mx⟩ hi' (by show X.env.scope.names.lookup n = _; rw [C.sc]; exact loc) (fun a oe cls d pn hz hf => ⟨fun pins s σ H D I q => (q oe pn hz hf) pins s I⟩) h1, ?_⟩
      intro c fs env S D ρ0 ρ B0 H0 B H hh x0 s σ' Ca d fv sl mc hd rf
      unfold hdR at hh
      cases q : pg.exm c x with
      | none => rw [q] at hh; exact hh.elim
      | some b =>
        obtain ⟨C3, Cx3, m3, mx3, em⟩ := C.exm c x b q
        cases mc.symm.trans m3
        cases mx.symm.trans mx3
        rw [q] at hh
        cases b with
        | false => exact ⟨false, em, (fun z => by cases z), fun _ => h2 hh x0 s σ' Ca d fv sl mc hd rf⟩
        | true =>
          refine ⟨true, em, fun _ a ha => ?_, fun z => by cases z⟩
          intro oe pn hz hf
          obtain ⟨lt, hh⟩ := hh.grd
          rw [hi] at lt
          obtain ⟨w, ew, k⟩ := hh.bind.lift
          have od : odd n = false := by simpa using g6
          have vis : visB g.sc n = true := by unfold visB; rw [loc]
          have hi2 : i < σ'.length := by
            rw [sl.len]
            exact of_decide_eq_true lt
          refine wSs_of (pss_one (ps_ret (pwE (X := X.suite a ((a, oe) :: pn)) (e := e)))) (suE_ok C hi' vis od (by rw [List.getElem?_set_self hi2]) mc hz hf s hd rf ew fun ρ' B' H' v x sr rv => ?_)
          exact (k ρ B H x0 s).ext x |>.here sr v rv
    · cases hk
theorem no_swapS {o i e : Expr} {p : Pos} {env : Env} (h : (!isComp e) = true) : swappedStores [.Subscript o i p] e env = pure none := by
  cases e <;> first | (cases h; done) | rfl
theorem sub_assign {o i : Expr} {p : Pos} {env : Env} (h : plainIx i = true) : ∀ v, assign (.Subscript o i p) env v = (do
    let ov ← holding [v] (eval o env)
    let iv ← holding [v, ov] (eval i env)
    standAt p
    holding [v, ov, iv] (setItem ov iv v)
    release [v, ov, iv] []) := by
  intro v
  cases i <;> first | rfl | cases h
/-- a for over a dict -/
theorem forD_ok (hE : EvOk pg cl E) (C : CxOk pg cl g Wx X) {tg iter : Expr} {body : List Stmt} {pos : Pos} {env : Env'} {S S1 : Sto} {items : List W} {σ : L2.St} {ρ : List Addr} {B H : Hp} {D : Ends} (sl : Sl X.K B ρ σ env) (sr : SR X.K ρ S B H)
    (hdw : dWalk pg g env S tg iter = some (items, S1)) (g1 : notSet iter = true) (g2 : tgOk g tg = true)
    (h : Hold X.K (match dFlag pg g env S iter with
      | true => forR (fun env S => seqR (fun env S s => E.s g env S s) body env S) (bindT g tg) (fun _ => true) items env S1
      | false => noExc (forR (fun env S => seqR (fun env S s => E.s g env S s) body env S) (bindT g tg) (fun _ => true) items env S1)) ρ B H (okS X.K D) (ExP X.K X.mg Wx)) : wS X (.For tg iter body [] pos) D σ H := by
  unfold dWalk at hdw
  cases qw : walkOf iter with
  | mk p k =>
    rw [qw] at hdw
    cases qp : pathW pg g env S p with
    | none => simp only [qp] at hdw; cases hdw
    | some w =>
      simp only [qp] at hdw
      cases qd : dictAt S w with
      | none => simp only [qd] at hdw; cases hdw
      | some z =>
        obtain ⟨ks, S1'⟩ := z
        simp only [qd] at hdw
        split at hdw
        · cases hdw
        · rename_i ht
          cases hdw
          obtain ⟨v, rv, hp⟩ := path_ok C sl sr qp
          obtain ⟨d, kv, B1, rfl, x1, s1, rd, e0, rr, cellp⟩ := dictAt_ok sr rv qd
          have sl1 := sl.mono x1
          have core : ∀ {B2 H2 : Hp} {o : Obj} {D2 : Ends}, B2 d = some (.frz o (.dK kv)) → H2 d = some (.frz o (.dK kv)) → Sl X.K B2 ρ σ env → SR X.K ρ S1 B2 H2 → RepL X.K B2 ρ (kv.map Prod.snd) (ks.map Prod.snd) → (∀ a Ca dx fv, H a = some (.ins Ca dx fv) → H2 a = some (.ins Ca dx fv)) →
              Hold X.K (forR (fun env S => seqR (fun env S s => E.s g env S s) body env S) (bindT g tg) (fun _ => true) (itemsOf ks k) env S1) ρ B2 H2 (okS X.K D2) (ExP X.K X.mg Wx) → wS X (.For tg iter body [] pos) D2 σ H2 := by
            intro B2 H2 o D2 hb2 hd2 sl2 s2 rr2 keep hh
            refine wS_of (ps_for C.pass C.calm pwI (pg_tg C g2) pwSs (not_set g1)) ?_
            refine dI_ok qw ht (path_own qp) hb2 hd2 e0 rr2 (fun {Q} q => hp keep q) fun J wk => ?_
            exact forR_ok (items := still (itemsOf ks k)) (fun sl sr h => seqR_ok hE C sl sr h) wk sl2 s2 hh
          have keep2 : ∀ {u' : HO}, H d = some (.dK kv) → ∀ a Ca dx fv, H a = some (.ins Ca dx fv) → upd H d u' a = some (.ins Ca dx fv) := fun hd a Ca dx fv z => by
            have hne : a ≠ d := fun e => by rw [e, hd] at z; cases z
            rw [upd_ne hne]
            exact z
          have ends : ∀ {od : Obj} {r : R Out'} {B0 : Hp} {ex : Str → List (Str × W) → Env' → List Addr → Hp → Hp → Prop}, Hold X.K r ρ B0 (upd H d (.frz od (.dK kv))) (fun a S ρ' B' H' => B' d = some (.frz od (.dK kv)) ∧ H' d = some (.frz od (.dK kv)) ∧ okS X.K D a S ρ' (upd B' d (.dK kv)) (upd H' d (.dK kv))) ex →
              Hold X.K r ρ B0 (upd H d (.frz od (.dK kv))) (okS X.K ⟨fun σ' H' => H' d = some (.frz od (.dK kv)) ∧ D.nx σ' (upd H' d (.dK kv)), fun v H' => H' d = some (.frz od (.dK kv)) ∧ D.rt v (upd H' d (.dK kv)), fun σ' H' => H' d = some (.frz od (.dK kv)) ∧ D.bk σ' (upd H' d (.dK kv)), fun σ' H' => H' d = some (.frz od (.dK kv)) ∧ D.ct σ' (upd H' d (.dK kv))⟩) ex := fun {od r B0 ex} hh => hh.imp (fun o S' ρ' B' H' x s' q => by
            have i : Is kv (.dK kv) := .inl rfl
            have i' : Is kv (.frz od (.dK kv)) := .inr ⟨od, rfl⟩
            cases o with
            | next env2 => exact fun σ' sl' => ⟨q.2.1, q.2.2 σ' (sl'.swap q.1 i' i)⟩
            | ret w2 => exact fun v r => ⟨q.2.1, q.2.2 v (r.swap q.1 i' i)⟩
            | brk env2 => exact fun σ' sl' => ⟨q.2.1, q.2.2 σ' (sl'.swap q.1 i' i)⟩
            | cont env2 => exact fun σ' sl' => ⟨q.2.1, q.2.2 σ' (sl'.swap q.1 i' i)⟩) fun _ _ _ _ _ _ z => z
          cases qf : dFlag pg g env S iter with
          | true =>
            rw [qf] at h
            have cp : ∃ n, w = .ref n ∧ ∃ ks', S[n]? = some (.dct ks') := by
              unfold dFlag at qf
              rw [qw] at qf
              simp only [qp] at qf
              split at qf
              · rename_i n heq
                cases heq
                split at qf
                · rename_i ks' q2
                  exact ⟨n, rfl, ks', q2⟩
                · cases qf
              · cases qf
            obtain ⟨hr, hbn, eB, hd⟩ := cellp cp
            subst eB
            refine wS_of (ps_lock pwS) ⟨d, .dK kv, hd, trivial, fun od => ?_⟩
            have i' : Is kv (.frz od (.dK kv)) := .inr ⟨od, rfl⟩
            exact (show wS X _ _ σ (upd H d (.frz od (.dK kv))) from core upd_same upd_same (sl1.swap upd_same (.inl rfl) i') (s1.swap upd_same (.inl rfl) i') (rr.swap upd_same (.inl rfl) i') (keep2 hd) (ends (h.lockC hbn hr hd i')))
          | false =>
            rw [qf] at h
            have h1 := h.ext x1
            rcases rd with hb | ⟨o, hb⟩
            · have hd : H d = some (.dK kv) := s1.same _ _ hb
              refine wS_of (ps_lock pwS) ⟨d, .dK kv, hd, trivial, fun od => ?_⟩
              have i : Is kv (.dK kv) := .inl rfl
              have i' : Is kv (.frz od (.dK kv)) := .inr ⟨od, rfl⟩
              exact (show wS X _ _ σ (upd H d (.frz od (.dK kv))) from core upd_same upd_same (sl1.swap hb i i') (s1.swap hb i i') (rr.swap hb i i') (keep2 hd) (ends (h1.lock hb hd i i' (ex' := ExP X.K X.mg Wx))))
            · have hd : H d = some (.frz o (.dK kv)) := s1.same _ _ hb
              refine core hb hd sl1 s1 rr (fun _ _ _ _ z => z) ?_
              have h2 : Hold X.K (noExc (forR (fun env S => seqR (fun env S s => E.s g env S s) body env S) (bindT g tg) (fun _ => true) (itemsOf ks k) env S1)) ρ B1 H (okS X.K D) (ExP X.K X.mg Wx) := h1
              cases qr : forR (fun env S => seqR (fun env S s => E.s g env S s) body env S) (bindT g tg) (fun _ => true) (itemsOf ks k) env S1 with
              | bad => rw [qr] at h2; exact h2.elim
              | exc c fs en S2 => rw [qr] at h2; exact h2.elim
              | ok w2 S2 => rw [qr] at h2; exact h2
theorem stepS_ok (hE : EvOk pg cl E) (C : CxOk pg cl g Wx X) {st : Stmt} {env : Env'} {S : Sto} {σ : L2.St} {ρ : List Addr} {B H : Hp} {D : Ends} (sl : Sl X.K B ρ σ env) (sr : SR X.K ρ S B H)
    (h : Hold X.K (stepS pg cl E g env S st) ρ B H (okS X.K D) (ExP X.K X.mg Wx)) : wS X st D σ H := by
  unfold stepS at h
  split at h
  · exact wS_of (ps_ret pwE) (valC_bind hE C sl sr h fun w S1 ρ1 B1 H1 v x s1 sl1 r k => k.here s1 v r)
  · exact wS_of ps_retN (h.here sr .non .non)
  · exact wS_of ps_pass (h.here sr σ sl)
  · exact wS_of ps_break (h.here sr σ sl)
  · exact wS_of ps_continue (h.here sr σ sl)
  · obtain ⟨h1, h2⟩ := h.grd
    exact wS_of (ps_expr pwE (no_comp h1)) (hE.e' C sl sr h2 fun w S1 ρ1 B1 H1 v x s1 sl1 r k => k.here s1 σ sl1)
  · refine wS_of (ps_if pwT pwSs pwSs) (hE.t' C sl sr h fun d S1 ρ1 B1 H1 x s1 sl1 k => ?_)
    cases d with
    | true => exact (show wSs X _ D σ H1 from seqR_ok hE C sl1 s1 k)
    | false => exact (show wSs X _ D σ H1 from seqR_ok hE C sl1 s1 k)
  · rename_i x p e pos
    obtain ⟨h1, h2⟩ := h.grd
    obtain ⟨n1, n2, n3⟩ := name_slot C h1
    split at h2
    · rename_i elt tg iter ifs scope q
      obtain ⟨t, g1, bk, g3, g4⟩ := lcE_ok hE C sl sr (h2.bind.imp (ok' := okE X.K fun v H' => D.nx (σ.set ((slotOf g.N x).getD 0) (some v)) H') (fun w S1 ρ1 B1 H1 x1 s1 k v r => nextN_ok k s1 (sl.mono x1) r) fun _ _ _ _ _ _ z => z)
      have pl := pe_lc (pos := q) C.calm C.nd (pwI (X := X) (tg := tg) (iter := iter)) bk (g := tgG X.K (blkG g scope) tg) (fun s0 H0 Ca cs fp => pg_tg (cx_blk C scope s0 H0 Ca cs fp) g3) (pts_of g4) (te := wEb X scope elt) (fun s0 H0 Ca cs fp => ⟨fun pins s σ' H' Q' I q => q s0 H0 Ca cs fp pins s I⟩) (not_set g1)
      rcases sw_comp elt [⟨tg, iter, ifs, 0⟩] scope q x p pos.line X.env with ⟨hw, hl⟩ | hw
      · exact wS_of (ps_setLc C.calm C.nd n1 hl hw pwI bk (g := tgG X.K (blkG g scope) tg) (fun s0 H0 Ca cs fp => pg_tg (cx_blk C scope s0 H0 Ca cs fp) g3) (pts_of g4) (te := wEb X scope elt) (fun s0 H0 Ca cs fp => ⟨fun pins s σ' H' Q' I q => q s0 H0 Ca cs fp pins s I⟩) (not_set g1)) t
      · exact wS_of (ps_set C.nd n1 n2 pl hw n3) t
    · obtain ⟨g1, g2⟩ := h2.grd
      exact wS_of (ps_set C.nd n1 n2 pwE (no_comp g1) n3) (show wE X _ σ H _ from valC_bind hE C sl sr g2 fun w S1 ρ1 B1 H1 v x1 s1 sl1 r k => nextN_ok k s1 sl1 r)
  · rename_i o x p e pos
    refine wS_of (ps_fld pwE pwE no_swapA) (show wE X e σ H _ from valC_bind hE C sl sr h fun w S1 ρ1 B1 H1 v x1 s1 sl1 r1 k1 => hE.e' C sl1 s1 k1 fun w2 S2 ρ2 B2 H2 v2 x2 s2 sl2 r2 k2 => ?_)
    split at k2
    · rename_i n
      split at k2
      · rename_i c fs q
        obtain ⟨k3, k4⟩ := k2.grd
        rw [Bool.and_eq_true] at k3
        cases r2 with
        | ref hn =>
          obtain ⟨u, hu, ro⟩ := s2.at hn q
          cases ro with
          | ins hc e0 rr =>
            obtain ⟨C2, hc2, cl2, na⟩ := C.flds c x k3.1
            cases hc.symm.trans hc2
            obtain ⟨z1, z2⟩ := put_ok (f := x) (r1.mono x2.b x2.pre) e0 rr
            have ln := congrArg List.length e0
            simp only [List.length_map] at ln
            refine ⟨_, _, _, _, rfl, hu, cl2, na, by rw [ln]; exact of_decide_eq_true k3.2, ?_⟩
            exact k4 _ _ _ (Ext.setCell hn) (s2.setCell hn q (RepO.ins hc z1 z2)) σ (sl2.mono (Ext.setCell (H := H2) (o := HO.lst []) hn))
      · exact k2.elim
    · exact k2.elim
  · rename_i o i p e pos
    obtain ⟨h1, h2⟩ := h.grd
    rw [Bool.and_eq_true] at h1
    refine wS_of (ps_asg pwE (pg_sub pwE pwE (set_both (by have := C.un; omega)) (sub_assign h1.2)) (no_sole h1.1) (no_swapS h1.1) rfl) (show wE X e σ H _ from valC_bind hE C sl sr h2 fun y S1 ρ1 B1 H1 v1 x1 s1 sl1 r1 k1 => ?_)
    refine (show wE X o σ H1 _ from hE.e' C sl1 s1 k1 fun x S2 ρ2 B2 H2 v2 x2 s2 sl2 r2 k2 => ?_)
    refine (show wE X i σ H2 _ from hE.e' C sl2 s2 k2 fun kk S3 ρ3 B3 H3 v3 x3 s3 sl3 r3 k3 => ?_)
    split at k3
    · rename_i n
      have r2' := r2.mono x3.b x3.pre
      cases r2' with
      | ref hn =>
        have r1' := (r1.mono x2.b x2.pre).mono x3.b x3.pre
        split at k3
        · rename_i ws q
          obtain ⟨u, hu, ro⟩ := s3.at hn q
          cases ro with
          | lst rr =>
            split at k3
            · split at k3
              · rename_i j hj
                cases r3
                refine .inl ⟨_, _, _, j, rfl, rfl, hu, by rw [rr.length]; exact hj, ?_⟩
                exact k3 _ _ _ (Ext.setCell hn) (s3.setCell hn q (RepO.lst (rr.set r1' _))) σ (sl3.mono (Ext.setCell (H := H3) (o := HO.lst []) hn))
              · exact k3.elim
            · exact k3.elim
        · rename_i ks q
          obtain ⟨u, hu, ro⟩ := s3.at hn q
          cases ro with
          | dct e0 rr =>
            split at k3
            · rename_i key hk
              obtain ⟨k4, k5⟩ := k3.grd
              cases keyW_ok r3 hk
              have l1 := congrArg List.length e0
              simp only [List.length_map] at l1
              obtain ⟨z1, z2⟩ := store_kv (k := key) r1' e0 rr
              refine .inr ⟨_, _, rfl, DPut.k hu (by rw [l1]; exact small_lt k4), ?_⟩
              exact k5 _ _ _ (Ext.setCell hn) (s3.setCell hn q (RepO.dct z1 z2)) σ (sl3.mono (Ext.setCell (H := H3) (o := HO.lst []) hn))
            · exact k3.elim
        · exact k3.elim
    · exact k3.elim
  · rename_i x px y py kt pt a b k2 pt2 pos
    obtain ⟨h1, h2⟩ := h.grd
    obtain ⟨nm, nd, st, sw⟩ := swB_ok C (ts := [(x, px), (y, py)]) (vs := [a, b]) rfl h1
    obtain ⟨n1, l1⟩ := nm (x, px) (by simp)
    obtain ⟨n2, l2⟩ := nm (y, py) (by simp)
    simp only [List.all_cons, List.all_nil, Bool.and_true, Bool.and_eq_true] at st
    have hne : x ≠ y := by
      simp at nd
      exact nd
    refine wS_of (ps_par C.calm C.nd n1 n2 (slot_ne n1 n2 hne) l1 l2 (pa_cons pwE (pa_cons pwE pa_nil (star_no st.2)) (star_no st.1)) (sw kt pt pt2 k2)) ?_
    refine (show wE X a σ H _ from valC_bind hE C sl sr h2 fun w1 S1 ρ1 B1 H1 v1 x1 s1 sl1 r1 k1 => ?_)
    refine (show wE X b σ H1 _ from valC_bind hE C sl1 s1 k1 fun w2 S2 ρ2 B2 H2 v2 x2 s2 sl2 r2 k2 => ?_)
    exact ⟨v1, v2, rfl, k2.here s2 _ ((sl2.set (r1.mono x2.b x2.pre) _).set r2 _)⟩
  · rename_i x px y py z pz kt pt a b c k2 pt2 pos
    obtain ⟨h1, h2⟩ := h.grd
    obtain ⟨nm, nd, st, sw⟩ := swB_ok C (ts := [(x, px), (y, py), (z, pz)]) (vs := [a, b, c]) rfl h1
    obtain ⟨n1, l1⟩ := nm (x, px) (by simp)
    obtain ⟨n2, l2⟩ := nm (y, py) (by simp)
    obtain ⟨n3, l3⟩ := nm (z, pz) (by simp)
    simp only [List.all_cons, List.all_nil, Bool.and_true, Bool.and_eq_true] at st
    have hne : (x ≠ y ∧ x ≠ z) ∧ y ≠ z := by
      simp at nd
      exact nd
    refine wS_of (ps_par3 C.calm C.nd n1 n2 n3 (slot_ne n1 n2 hne.1.1) (slot_ne n1 n3 hne.1.2) (slot_ne n2 n3 hne.2) l1 l2 l3 (pa_cons pwE (pa_cons pwE (pa_cons pwE pa_nil (star_no st.2.2)) (star_no st.2.1)) (star_no st.1)) (sw kt pt pt2 k2)) ?_
    refine (show wE X a σ H _ from valC_bind hE C sl sr h2 fun w1 S1 ρ1 B1 H1 v1 x1 s1 sl1 r1 k1 => ?_)
    refine (show wE X b σ H1 _ from valC_bind hE C sl1 s1 k1 fun w2 S2 ρ2 B2 H2 v2 x2 s2 sl2 r2 k2 => ?_)
    refine (show wE X c σ H2 _ from valC_bind hE C sl2 s2 k2 fun w3 S3 ρ3 B3 H3 v3 x3 s3 sl3 r3 k3 => ?_)
    exact ⟨v1, v2, v3, rfl, k3.here s3 _ (((sl3.set ((r1.mono x2.b x2.pre).mono x3.b x3.pre) _).set (r2.mono x3.b x3.pre) _).set r3 _)⟩
  · rename_i es k p e pos
    obtain ⟨h1, h2⟩ := h.grd
    rw [Bool.and_eq_true, Bool.and_eq_true] at h1
    refine wS_of (ps_asg pwE (pg_tg C h1.2) (no_sole h1.1.2) (no_swap h1.1.1) rfl) (show wE X _ σ H _ from hE.e' C sl sr h2 fun w S1 ρ1 B1 H1 v x1 s1 sl1 r k => ?_)
    split at k
    · rename_i env1 q
      exact bindT_ok s1 sl1 r q fun σ2 sl2 _ => k.here s1 σ2 sl2
    · exact k.elim
  · rename_i x p e pos
    obtain ⟨h1, h2⟩ := h.grd
    obtain ⟨n1, n2, n3⟩ := name_slot C h1
    split at h2
    · rename_i a qa
      obtain ⟨va, e1, ra⟩ := sl.at_ _ _ qa
      cases ra
      refine wS_of (ps_aug C.nd n1 n2 pwE ip_add n3) ⟨_, e1, ?_⟩
      refine (show wE X _ σ H _ from hE.e' C sl sr h2 fun w S1 ρ1 B1 H1 v x1 s1 sl1 r k => ?_)
      split at k
      · cases r
        exact ⟨_, _, rfl, rfl, nextN_ok k s1 sl1 (.int _)⟩
      · exact k.elim
    · rename_i n qa
      obtain ⟨va, e1, ra⟩ := sl.at_ _ _ qa
      cases ra with
      | @ref _ a hn0 =>
      refine wS_of (ps_aug C.nd n1 n2 pwE iop_ext n3) ⟨_, e1, ?_⟩
      refine (show wE X _ σ H _ from hE.e' C sl sr h2 fun w S1 ρ1 B1 H1 v x1 s1 sl1 r k => ?_)
      split at k
      · rename_i xs ys q1 q2
        obtain ⟨k1, k2⟩ := k.grd
        have hn := pre_get x1.pre hn0
        obtain ⟨u, hu, ro⟩ := s1.at hn q1
        cases ro with
        | @lst xv _ rr =>
          have other : ∃ b zs, v = .ref b ∧ H1 b = some (.lst zs) ∧ RepL X.K B1 ρ1 zs ys := by
            cases r with
            | lst h1 h2 => cases q2; exact ⟨_, _, rfl, s1.same _ _ h1, h2⟩
            | @ref m b hm =>
              unfold lstE at q2
              cases q3 : S1[m]? with
              | none => simp only [q3] at q2; cases q2
              | some o =>
                simp only [q3] at q2
                cases o with
                | lst ws =>
                  cases q2
                  obtain ⟨u', hu', ro'⟩ := s1.at hm q3
                  cases ro' with
                  | lst rr' => exact ⟨_, _, rfl, hu', rr'⟩
                | _ => cases q2
            | _ => cases q2
          obtain ⟨b, zs, rfl, hb, rz⟩ := other
          refine ⟨_, _, _, _, rfl, rfl, hu, hb, by rw [rr.length, rz.length]; exact small_line k1, ?_⟩
          have x2 : Ext ρ1 B1 H1 ρ1 B1 (upd H1 a (.lst (xv ++ zs))) := Ext.setCell hn
          exact nextN_ok (k2.ext x2) (s1.setCell hn q1 (RepO.lst (rr.append rz))) (sl1.mono x2) (.ref hn)
      · exact k.elim
    · exact h2.elim
  · rename_i o i p e pos
    obtain ⟨h1, h2⟩ := h.grd
    refine wS_of (ps_augS pwE pwE get_list pwE ip_add set_list (fun _ _ _ => aug_store h1)) (show wE X _ σ H _ from hE.e' C sl sr h2 fun w S1 ρ1 B1 H1 v x1 s1 sl1 r1 k1 => hE.e' C sl1 s1 k1 fun w2 S2 ρ2 B2 H2 v2 x2 s2 sl2 r2 k2 => ?_)
    split at k2
    · rename_i n k
      split at k2
      · rename_i ws q1
        split at k2
        · rename_i a d1 q2
          have r1' := r1.mono x2.b x2.pre
          cases r1' with
          | ref hn =>
            cases r2
            have dd := of_decide_eq_true d1
            obtain ⟨u, hu, ro⟩ := s2.at hn q1
            cases ro with
            | lst rr =>
              obtain ⟨va, e1, ra⟩ := rr.get q2
              cases ra
              refine ⟨_, _, _, _, rfl, rfl, SqL.of hu, dd.1, dd.2, e1, ?_⟩
              refine (show wE X _ σ H2 _ from hE.e' C sl2 s2 k2 fun w3 S3 ρ3 B3 H3 v3 x3 s3 sl3 r3 k3 => ?_)
              split at k3
              · rename_i b ws' q3
                cases r3
                obtain ⟨k4, k5⟩ := k3.grd
                have hn3 := pre_get x3.pre hn
                obtain ⟨u3, hu3, ro3⟩ := s3.at hn3 q3
                cases ro3 with
                | lst rr3 =>
                  refine ⟨_, _, rfl, rfl, _, _, _, k.toNat, rfl, rfl, hu3, ixN_in dd.1 (by rw [rr3.length]; exact of_decide_eq_true k4), ?_⟩
                  exact k5 _ _ _ (Ext.setCell hn3) (s3.setCell hn3 q3 (RepO.lst (rr3.set (.int _) _))) σ (sl3.mono (Ext.setCell (H := H3) (o := HO.lst []) hn3))
              · exact k3.elim
        · exact k2.elim
      · exact k2.elim
    · exact k2.elim
  · rename_i c p1 a as p2 p3
    obtain ⟨h1, h2⟩ := h.grd
    rw [Bool.and_eq_true] at h1
    cases q : pg.xc c with
    | none => rw [q] at h2; exact h2.elim
    | some ns =>
      rw [q] at h2
      obtain ⟨Ca, fa, fd, k, ps, hm, T, hno, iC, tI, F, b, hr⟩ := C.xcs c ns q
      have hs := mapR_stars h2
      refine wS_of (ps_raise C.calm C.tk (pmk_oex T iC tI F hr b .nil (fun pins σ H s e s' I z => passF (W := Wx) σ pins H s e s' I z) (glo_okB C h1.1) hm pwA (odd_no h1.2).1 (star_no (hs a (List.mem_cons_self ..))) (stars_no fun e' he => hs e' (List.mem_cons_of_mem _ he)))) ?_
      refine (show wA X (a :: as) σ H _ from mapR_bind hE C sl sr h2 fun ws S1 ρ1 B1 H1 vs x1 s1 sl1 r k1 => ?_)
      obtain ⟨k2, k3⟩ := k1.grd
      rw [Bool.and_eq_true] at k2
      have ln : vs.length = ns.length := by rw [r.length]; exact of_decide_eq_true k2.1
      refine ⟨by rw [r.length]; exact of_decide_eq_true k2.2, fun e he => ?_⟩
      refine ⟨by rw [List.append_nil, List.length_cons, ln], e, Ca, vs, by rw [List.append_nil], T, hno, upd_same, fun dx hdx hne => ⟨rfl, dx, (ns.zip vs).reverse, upd_same, ?_, ?_, ?_⟩⟩
      · rw [upd_ne hne, upd_same]
      · rw [upd_ne hne] at hdx
        exact hdx
      · rw [upd_ne hne] at hdx
        have eh : upd (del (upd (upd (upd H1 e (exo e Ca none)) dx (exd dx (ns.zip vs).reverse)) e (exo e Ca (some dx))) e) dx (.xd (ns.zip vs).reverse) = upd H1 dx (.xd (ns.zip vs).reverse) := by
          funext b
          by_cases h1 : b = dx
          · rw [h1, upd_same, upd_same]
          · rw [upd_ne h1, upd_ne h1]
            by_cases h2 : b = e
            · rw [h2, del_same, he]
            · rw [del_ne h2, upd_ne h2, upd_ne h1, upd_ne h2]
        rw [eh]
        exact k3 _ _ _ (Ext.junk hdx) (s1.junk hdx) σ Ca dx _ (sl1.mono (Ext.junk (o := .xd (ns.zip vs).reverse) hdx)) hm upd_same (repF_rev (zip_rep r))
  · obtain ⟨h1, h2⟩ := h.grd
    rw [Bool.and_eq_true] at h1
    obtain ⟨t1, t2⟩ := C.top h1.1
    obtain ⟨l, k1, k2⟩ := hands_of C h1.2
    refine wS_of (ps_try_hands t1 t2 C.nd C.tk (tb := fun W D σ H => ∀ pn xe, Takes (X.tr pn xe) W → PassesOwn (model X.prog X.w) X.A X.env xe → wSs (X.tr pn xe) _ D σ H) (fun W pn xe tk ps => ⟨fun pins s σ H D I q => q pn xe tk ps pins s I⟩) k1) ?_
    intro pn xe tk ps
    refine seqR_ok hE (cx_tr C tk ps) sl sr ?_
    unfold tryR at h2
    cases qs : seqR (fun env S s => E.s g env S s) _ env S with
    | bad => rw [qs] at h2; exact h2.elim
    | ok o S1 => rw [qs] at h2; exact h2
    | exc c fs en S1 =>
      rw [qs] at h2
      exact fun ρ' B' H' x s => k2 h2 x s
  · obtain ⟨h1, h2⟩ := h.grd
    rw [Bool.and_eq_true] at h1
    rename_i tg iter body pos
    cases qd : dWalk pg g env S tg iter with
    | some z =>
      obtain ⟨items, S1⟩ := z
      rw [qd] at h2
      exact forD_ok hE C sl sr qd h1.1 h1.2 h2
    | none =>
    rw [qd] at h2
    refine wS_of (ps_for C.pass C.calm pwI (pg_tg C h1.2) pwSs (not_set h1.1)) ?_
    refine evIter_ok hE C sl sr ((show Hold X.K ((evIter pg g (fun e S => E.e g env S e) tg iter S).bind fun items S1 => forR (fun env S => seqR (fun env S s => E.s g env S s) body env S) (bindT g tg) items.2 items.1 env S1) ρ B H (okS X.K D) (ExP X.K X.mg Wx) from h2).bind.imp (fun items S1 ρ1 B1 H1 x1 s1 k J wk => ?_) fun _ _ _ _ _ _ z => z)
    exact forR_ok (fun sl sr h => seqR_ok hE C sl sr h) wk (sl.mono x1) s1 k
  · exact wS_of (ps_while C.pass pwT pwSs) (whileR_ok (fun sl sr h => hE.t C sl sr h) (fun sl sr h => seqR_ok hE C sl sr h) sl sr h)
  · exact h.elim
theorem ev_ok (pg : Pg) (cl : Str → List W → Sto → R W) : ∀ n, EvOk pg cl (ev pg cl n)
  | 0 => ⟨fun {_ _ _} _ {_ _ _ _ _ _ _ _} _ _ h => h.elim, fun {_ _ _} _ {_ _ _ _ _ _ _ _} _ _ h => h.elim, fun {_ _ _} _ {_ _ _ _ _ _ _ _} _ _ h => h.elim⟩
  | n + 1 => ⟨fun C => stepE_ok (ev_ok pg cl n) C, fun C => stepT_ok (ev_ok pg cl n) C, fun C => stepS_ok (ev_ok pg cl n) C⟩
end
end Mi

set_option Elab.async false
set_option linter.all false
set_option maxRecDepth 100000
set_option maxHeartbeats 4000000
/-! Mi10: defs and their calls. -/
noncomputable section
namespace Mi
open PySem PySem.Spec PyProof.Rows L2

/-- a def of the text: its names (the parameters first), how many parameters, body, scope, names whose displays are cells; keep: what it lays stays cells -/
structure Fn where
  N : List Str
  P : Nat
  body : List Stmt
  sc : Scope
  muts : List Str
  keep : Bool := false

def exitR (n0 : Nat) (r : R Out') : R W := r.bind fun o S => match o with
  | .ret w => exitW n0 w S
  | .next _ => exitW n0 .non S
  | .brk _ => .bad
  | .cont _ => .bad
def keepR (r : R Out') : R W := r.bind fun o S => match o with
  | .ret w => .ok w S
  | .next _ => .ok .non S
  | .brk _ => .bad
  | .cont _ => .bad
def leaveR (k : Bool) (n0 : Nat) (r : R Out') : R W := match k with
  | true => keepR r
  | false => exitR n0 r
def startE (N : List Str) (ws : List W) : Env' := ws.map some ++ List.replicate (N.length - ws.length) none
def FUEL : Nat := 1000
def gmOf (F : Fn) : Gm := ⟨F.N, F.sc, fun _ => true, F.muts, true⟩
def bodyR (pg : Pg) (cl : Str → List W → Sto → R W) (F : Fn) (ws : List W) (S : Sto) : R Out' := seqR (fun env S s => (ev pg cl FUEL).s (gmOf F) env S s) F.body (startE F.N ws) S
def callD (pg : Pg) (fns : Str → Option Fn) : Nat → Str → List W → Sto → R W
  | 0, _, _, _ => .bad
  | d + 1, f, ws, S => match fns f with
    | none => .bad
    | some F => guard' (decide (ws.length = F.P)) (leaveR F.keep S.length (bodyR pg (callD pg fns d) F ws S))

variable [Gam]
/-! ### the defs of a text -/
/-- where a def stands -/
structure Def (K : PySem.W.Frag) (f : Str) (F : Fn) : Prop where
  at_ : ∃ fd name qual params dvs, FunD K name qual params F.body F.sc dvs [] (Gam.fn f) fd ∧ Binds K fd (F.N.take F.P) []
  sc : FnScope F.N (F.N.take F.P) F.sc
  len : (F.N.take F.P).length = F.P
structure Txt (K : PySem.W.Frag) (mg : Str → Option Value) (pg : Pg) (fns : Str → Option Fn) : Prop where
  defs : ∀ f F, fns f = some F → Def K f F
  ar : ∀ f n, pg.ar f = some n → ∃ F, fns f = some F ∧ F.P = n ∧ mg f = some (.ref (Gam.fn f)) ∧ PySem.W.keepIn K (.ref (Gam.fn f)) = true
  cst : ∀ x w, pg.cst x = some w → ∃ u v, mg x = some u ∧ RelV v u ∧ ∀ B, Rep K B [] v w
  free : ∀ f ∈ pg.free, mg f = none
  flds : ∀ c f, pg.fld c f = true → ∃ C, Gam.cls c = some C ∧ Cls K C ∧ NoAttr K C f
  mts : ∀ c m n, pg.mt c m = some n → ∃ C F, Gam.cls c = some C ∧ Cls K C ∧ Meth K C m (Gam.fn (mName c m)) ∧ fns (mName c m) = some F ∧ F.P = n + 1
  news : ∀ c n fz, pg.new c = some (n, fz) → ∃ C F, Gam.cls c = some C ∧ mg c = some (.ref C) ∧ Mk K C (Gam.fn (mName c "__init__")) ∧ fns (mName c "__init__") = some F ∧ F.P = n + 1
  xcs : ∀ c ns, pg.xc c = some ns → ∃ C a fd ps, mg c = some (.ref C) ∧ OexC K C ∧ (∀ f ∈ ns, PySem.W.findIn K (.ref C) f = some none) ∧ PySem.W.findIn K (.ref C) "__init__" = some (some (.ref a)) ∧ PySem.W.typeIn K (.ref a) = some (.type "function") ∧
    (∀ P w base, FnOk P w K mg base (L2.CX P w) 1 a fd ps (SpI K ns)) ∧ Binds K fd ps []
  exk : ∀ x, pg.exk x = true → ∃ C, mg x = some (.ref C)
  exm : ∀ c x b, pg.exm c x = some b → ∃ C Cx, mg c = some (.ref C) ∧ mg x = some (.ref Cx) ∧ PySem.W.exmOne K (.ref C) (.ref Cx) = some b
  exf : ∀ c f, pg.exf c f = true → ∃ C, mg c = some (.ref C) ∧ XfC K C ∧ PySem.W.findIn K (.ref C) f = some none
  exi : ∀ c t b, pg.exi c t = some b → ∃ C cv, mg c = some (.ref C) ∧ ExcC K C ∧ PySem.W.kitOne K (.ref C) cv = some b ∧ ((∃ Ct, mg t = some (.ref Ct) ∧ cv = .ref Ct) ∨ (mg t = none ∧ ∃ T, bootBuiltins t = some (.type T) ∧ cv = .type T))
  isi : ∀ c t b, pg.isi c t = some b → ∃ u cv, TyN K c u ∧ PySem.W.kitOne K u cv = some b ∧ ((∃ Ct, mg t = some (.ref Ct) ∧ cv = .ref Ct) ∨ (mg t = none ∧ ∃ T, bootBuiltins t = some (.type T) ∧ cv = .type T))
section
variable {P : Program} {w : World} {K : PySem.W.Frag} {mg : Str → Option Value} {base : Heap} {pg : Pg} {fns : Str → Option Fn}
theorem start_sl {B : Hp} {ρ : List Addr} {N : List Str} {vs : List V} {ws : List W} (r : RepL K B ρ vs ws) : Sl K B ρ (L2.start N vs) (startE N ws) := by
  refine ⟨by simp [L2.start, startE, r.length], fun i x h => ?_⟩
  unfold startE at h
  unfold L2.start
  by_cases hi : i < ws.length
  · rw [List.getElem?_append_left (by simpa using hi), List.getElem?_map] at h
    rw [List.getElem?_append_left (by simpa [r.length] using hi), List.getElem?_map]
    cases q : ws[i]? with
    | none => rw [q] at h; cases h
    | some y =>
      rw [q] at h
      cases h
      obtain ⟨v, h1, h2⟩ := r.get q
      exact ⟨v, by rw [h1]; rfl, h2⟩
  · rw [List.getElem?_append_right (by simpa using hi), List.getElem?_replicate] at h
    split at h <;> cases h
/-- one def, those that it calls being right; a level of the evaluator is two of the frame's -/
theorem fn_step (T : Txt K mg pg fns) {d : Nat} {f : Str} {F : Fn} {fd : FuncData} {name qual : Str} {params : Arguments} {dvs : List V} (hf : fns f = some F) (FD : FunD K name qual params F.body F.sc dvs [] (Gam.fn f) fd)
    (ih : ∀ (f : Str) (F : Fn), fns f = some F → ∃ fd, FnOk P w K mg base (L2.CX P w) (2 * d + 2) (Gam.fn f) fd (F.N.take F.P) (SpF K mg (callD pg fns d) f F.P) ∧ Binds K fd (F.N.take F.P) []) :
    FnOk P w K mg base (L2.CX P w) (2 * d + 3 + 1) (Gam.fn f) fd (F.N.take F.P) (SpF K mg (callD pg fns (d + 1)) f F.P) := by
  have sc := (T.defs f F hf).sc
  have len := (T.defs f F hf).len
  refine FD.ok sc (fun vs H Q E h => by rw [len]; exact h.1) (fun cdv A outer s H vs Q E hr h => ⟨_, pwSs, ?_⟩)
  obtain ⟨hl, ρ, S, B, ws, sr, r, h⟩ := h
  unfold callD at h
  rw [hf] at h
  obtain ⟨h1, h2⟩ := h.grd
  have C : CxOk pg (callD pg fns d) (gmOf F) (fun cls d _ H => E cls d H) (cxOf (L2.CX P w) P w K mg base F.N qual F.sc (Gam.fn f) cdv A outer s H E) :=
    { N := rfl, nd := sc.nd, sc := rfl, fn := rfl, calm := rfl, un := by have := hr.un; show (A.deeper (envOfC qual F.sc s.heap.objs.size (Gam.fn f) cdv)).units + 65 < cLine; omega, pass := passes_of rfl, tk := takes_of rfl rfl rfl rfl, cst := T.cst, free := T.free
      flds := T.flds, exk := T.exk, exm := T.exm, exf := T.exf, exi := T.exi, isi := T.isi, top := fun _ => ⟨rfl, rfl⟩
      xcs := fun c ns e => by
        obtain ⟨C, a, fd', ps, m, o, n, i, t, F1, b⟩ := T.xcs c ns e
        exact ⟨C, a, fd', 1, ps, m, o, n, i, t, F1 _ _ _, b, hr.mono (by omega)⟩
      mts := fun c m n e => by
        obtain ⟨C, F', hc, cl, mt, hf', hp⟩ := T.mts c m n e
        obtain ⟨fd', G, b'⟩ := ih _ F' hf'
        rw [hp] at G
        exact ⟨C, _, fd', 2 * d + 2, _, hc, cl, mt, G, by rw [← hp]; exact b', hr.mono (by omega)⟩
      news := fun c n fz e => by
        obtain ⟨C, F', hc, m, mk, hf', hp⟩ := T.news c n fz e
        obtain ⟨fd', G, b'⟩ := ih _ F' hf'
        rw [hp] at G
        exact ⟨C, _, fd', 2 * d + 2, _, hc, m, mk, G, by rw [← hp]; exact b', hr⟩
      fns := fun f' n' e => by
        obtain ⟨F', hf', hp, m', kp'⟩ := T.ar f' n' e
        obtain ⟨fd', G, b'⟩ := ih f' F' hf'
        cases hp
        exact ⟨_, fd', 2 * d + 2, F'.N.take F'.P, (T.defs f' F' hf').len, G, m', kp', b', hr.mono (by omega)⟩ }
  refine seqR_ok (ev_ok pg (callD pg fns d) FUEL) C (start_sl r) sr ?_
  have h3 : Hold K (leaveR F.keep S.length (bodyR pg (callD pg fns d) F ws S)) ρ B H (okE K Q) (ExP K mg fun cls d _ H => E cls d H) := h2.imp (fun _ _ _ _ _ _ _ z => z) (fun c fs e ρ' B' H' z σ' C' d' fv _ mc hd rf => z C' d' fv mc hd rf)
  unfold leaveR at h3
  split at h3
  · unfold keepR at h3
    refine (h3.bind0).imp (fun o S' ρ' B' H' x s' k => ?_) (fun _ _ _ _ _ _ z => z)
    cases o with
    | next env => exact fun σ' _ => (Hold.ext k x).here s' _ .non
    | ret v => exact fun u ru => (Hold.ext k x).here s' _ ru
    | brk env => exact k.elim
    | cont env => exact k.elim
  · unfold exitR at h3
    refine (h3.bind0).imp (fun o S' ρ' B' H' x s' k => ?_) (fun _ _ _ _ _ _ z => z)
    cases o with
    | next env => exact fun σ' _ => exitW_ok x s' .non sr.len k
    | ret v => exact fun u ru => exitW_ok x s' ru sr.len k
    | brk env => exact k.elim
    | cont env => exact k.elim
theorem fn_ok (T : Txt K mg pg fns) : ∀ (d : Nat) (f : Str) (F : Fn), fns f = some F → ∃ fd, FnOk P w K mg base (L2.CX P w) (2 * d + 2) (Gam.fn f) fd (F.N.take F.P) (SpF K mg (callD pg fns d) f F.P) ∧ Binds K fd (F.N.take F.P) []
  | 0, f, F, hf => by
    obtain ⟨⟨fd, name, qual, params, dvs, FD, b⟩, sc, len⟩ := T.defs f F hf
    refine ⟨fd, ⟨fun vs H Q E h => by rw [len]; exact h.1, fun A outer s H args us vs Q E _ _ _ _ h => ?_⟩, b⟩
    obtain ⟨_, _, _, _, _, _, _, h⟩ := h
    exact h.elim
  | d + 1, f, F, hf => by
    obtain ⟨⟨fd, name, qual, params, dvs, FD, b⟩, sc, len⟩ := T.defs f F hf
    exact ⟨fd, fn_step T hf FD (fn_ok T d), b⟩
end
end Mi

set_option Elab.async false
set_option linter.all false
set_option maxRecDepth 100000
set_option maxHeartbeats 4000000
/-! Mi11: a law's end. -/
noncomputable section
namespace Mi
open PySem PySem.Spec PyProof.Rows L2
variable [Gam]
theorem lookup_memW {β : Type} : ∀ {l : List (Str × β)} {f : Str} {F : β}, l.lookup f = some F → (f, F) ∈ l
  | [], _, _, h => by cases h
  | (g, G) :: r, f, F, h => by
    rw [List.lookup_cons] at h
    cases q : f == g with
    | true =>
      rw [q] at h
      cases h
      have e : f = g := eq_of_beq q
      rw [e]
      exact List.mem_cons_self ..
    | false =>
      rw [q] at h
      exact List.mem_cons_of_mem _ (lookup_memW h)
theorem all_nilW {β : Type} {p : β → Prop} : ∀ x ∈ ([] : List β), p x := fun x h => by cases h
theorem all_consW {β : Type} {p : β → Prop} {a : β} {l : List β} (h1 : p a) (h2 : ∀ x ∈ l, p x) : ∀ x ∈ a :: l, p x := fun x h => by
  rcases List.mem_cons.mp h with e | h
  · rw [e]; exact h1
  · exact h2 x h
/-- no exception: the plain promise -/
theorem fn_plain {P : Program} {w : World} {K : PySem.W.Frag} {mg : Str → Option Value} {base : Heap} {k : Nat} {f : Addr} {fd : FuncData} {ps : List Str} {sp : Sp} (F : FnOk P w K mg base (L2.CX P w) k f fd ps sp) :
    FnOk P w K mg base CX0 k f fd ps (fun vs H Q _ => sp vs H Q E0) := by
  refine ⟨fun vs H Q E h => F.len vs H Q E0 h, fun A outer s H args us vs Q E hr e hb hv h => codeAny_mono (F.run A outer s H args us vs Q E0 hr e hb hv h) fun r s' hq => ?_⟩
  cases r with
  | ok fl => cases fl <;> exact hq
  | error u =>
    obtain ⟨_, _, _, _, _, _, _, _, _, _, _, _, z⟩ := hq
    exact z.elim
theorem law_sp {K : PySem.W.Frag} {mg : Str → Option Value} {cl : Str → List W → Sto → R W} {H : Hp} {a : Addr} {ns : List Int} (hS : SqL K H a (ns.map V.int)) (h : cl "law" [.frl (ns.map W.int)] [] = .ok (.bl true) []) :
    SpF K mg cl "law" 1 [.ref a] H (fun v _ => v = .bl true) E0 := by
  refine ⟨rfl, [], [], H, [.frl (ns.map W.int)], ⟨Same.refl H, rfl, List.nodup_nil, fun i a o h => by simp at h⟩, .cons (.frl hS ?_ (by rw [List.all_map]; exact List.all_eq_true.mpr fun _ _ => rfl)) .nil, ?_⟩
  · clear hS h
    induction ns with
    | nil => exact .nil
    | cons n r ih => exact .cons (.int n) ih
  · rw [h]
    exact fun ρ' B' H' x s v r => by cases r; rfl
end Mi

set_option Elab.async false
set_option linter.all false
set_option maxRecDepth 100000
set_option maxHeartbeats 4000000
/-! Ma11b: the __init__ of an exception that keeps what it is given. -/
noncomputable section
namespace Mi
open PySem PySem.Spec PyProof.Rows L2
variable [Gam]
section
variable {P : Program} {w : World} {K : PySem.W.Frag} {mg : Str → Option Value} {base : Heap}
/-- self.f = x -/
def keepSt (self f x : Str) (p1 p2 p3 p4 : Pos) : Stmt := .Assign [.Attribute (.Name self p1) f p2] (.Name x p3) p4
theorem spI_one {fa : Addr} {fd : FuncData} {name qual self x f : Str} {params : Arguments} {sc : Scope} {dvs : List V} {p1 p2 p3 p4 : Pos} (FD : FunD K name qual params [keepSt self f x p1 p2 p3 p4] sc dvs [] fa fd) (S : FnScope [self, x] [self, x] sc)
    (o1 : odd self = false) (o2 : odd x = false) : FnOk P w K mg base (L2.CX P w) 1 fa fd [self, x] (SpI K [f]) := by
  refine FD.ok (k := 0) S (fun vs H Q E h => h.1) (fun cdv A outer s H vs Q E hr h => ⟨_, pss_one (ps_ost (pe_var (i := 0) rfl ?_ ?_ ?_) (pe_var (i := 1) rfl ?_ ?_ ?_)), ?_⟩)
  · have z := S.par self (List.mem_cons_self ..)
    rcases z with z | z
    · exact .inl z
    · exact .inr (.inl z)
  · exact (odd_no (x := self) (by rw [o1]; rfl)).1
  · exact (odd_no (x := self) (by rw [o1]; rfl)).2.1
  · have z := S.par x (List.mem_cons_of_mem _ (List.mem_cons_self ..))
    rcases z with z | z
    · exact .inl z
    · exact .inr (.inl z)
  · exact (odd_no (x := x) (by rw [o2]; rfl)).1
  · exact (odd_no (x := x) (by rw [o2]; rfl)).2.1
  · obtain ⟨hl, a, C, us, rfl, T, hno, ha, hq⟩ := h
    match us, hl with
    | [u], _ =>
      refine ⟨u, rfl, .ref a, rfl, a, C, rfl, T, hno f (List.mem_cons_self ..), .inl ⟨ha, fun dx hdx hne => ?_⟩⟩
      exact hq dx hdx hne
theorem spI_two {fa : Addr} {fd : FuncData} {name qual self x y f g : Str} {params : Arguments} {sc : Scope} {dvs : List V} {p1 p2 p3 p4 q1 q2 q3 q4 : Pos} (FD : FunD K name qual params [keepSt self f x p1 p2 p3 p4, keepSt self g y q1 q2 q3 q4] sc dvs [] fa fd) (S : FnScope [self, x, y] [self, x, y] sc)
    (o1 : odd self = false) (o2 : odd x = false) (o3 : odd y = false) : FnOk P w K mg base (L2.CX P w) 1 fa fd [self, x, y] (SpI K [f, g]) := by
  have vis : ∀ z ∈ [self, x, y], sc.names.lookup z = some .local ∨ sc.names.lookup z = some .cell ∨ sc.names.lookup z = some .free := fun z hz => by
    rcases S.par z hz with q | q
    · exact .inl q
    · exact .inr (.inl q)
  have n1 := odd_no (x := self) (by rw [o1]; rfl)
  have n2 := odd_no (x := x) (by rw [o2]; rfl)
  have n3 := odd_no (x := y) (by rw [o3]; rfl)
  refine FD.ok (k := 0) S (fun vs H Q E h => h.1) (fun cdv A outer s H vs Q E hr h => ⟨_, pss_cons (ps_ost (pe_var (i := 0) rfl (vis self (by simp)) n1.1 n1.2.1) (pe_var (i := 1) rfl (vis x (by simp)) n2.1 n2.2.1))
    (pss_one (ps_ost (pe_var (i := 0) rfl (vis self (by simp)) n1.1 n1.2.1) (pe_var (i := 2) rfl (vis y (by simp)) n3.1 n3.2.1))), ?_⟩)
  obtain ⟨hl, a, C, us, rfl, T, hno, ha, hq⟩ := h
  match us, hl with
  | [u, v], _ =>
    refine ⟨u, rfl, .ref a, rfl, a, C, rfl, T, hno f (by simp), .inl ⟨ha, fun dx hdx hne => ?_⟩⟩
    refine ⟨v, rfl, .ref a, rfl, a, C, rfl, T, hno g (by simp), .inr ⟨dx, [(f, u)], upd_same, ?_, by simp, ?_⟩⟩
    · rw [upd_ne hne, upd_same]
    · have z := hq dx hdx hne
      have e : upd (upd (upd H dx (exd dx [(f, u)])) a (exo a C (some dx))) dx (exd dx ((g, v) :: [(f, u)])) = upd (upd H dx (exd dx (([f, g].zip [u, v]).reverse))) a (exo a C (some dx)) := by
        funext b
        by_cases h1 : b = dx
        · subst h1
          rw [upd_same, upd_ne hne, upd_same]
          rfl
        · rw [upd_ne h1]
          by_cases h2 : b = a
          · rw [h2, upd_same, upd_same]
          · rw [upd_ne h2, upd_ne h2, upd_ne h1, upd_ne h1]
      rw [e]
      exact z
end
end Mi

set_option Elab.async false
set_option linter.all false
set_option maxRecDepth 100000
set_option maxHeartbeats 4000000
/-! Ma12: the evaluator's words without a text: what a def's body comes to. -/
noncomputable section
namespace Mi
open PySem PySem.Spec PyProof.Rows L2
abbrev CE := Env' → Sto → R W
abbrev CT := Env' → Sto → R Bool
abbrev CS := Env' → Sto → R Out'
abbrev CI := Env' → Sto → R Itm
abbrev CP := Env' → Sto → Option W
abbrev Bnd := W → Env' → Option Env'
abbrev Cl := Str → List W → Sto → R W
def xV (i : Nat) : CE := fun env S => match env[i]? with
  | some (some w) => .ok w S
  | _ => .bad
def xC (w : W) : CE := fun _ S => .ok w S
def mapC : List CE → Env' → Sto → R (List W)
  | [], _, S => .ok [] S
  | c :: cs, env, S => (c env S).bind fun w S1 => (mapC cs env S1).bind fun ws S2 => .ok (w :: ws) S2
/-- with starred parts -/
def mapSC : List (Bool × CE) → Env' → Sto → R (List W)
  | [], _, S => .ok [] S
  | (true, c) :: cs, env, S => (c env S).bind fun w S1 => (match (seqL S1 w).orElse (fun _ => seqT w) with
    | some xs => (mapSC cs env S1).bind fun ws S2 => .ok (xs ++ ws) S2
    | none => .bad)
  | (false, c) :: cs, env, S => (c env S).bind fun w S1 => (mapSC cs env S1).bind fun ws S2 => .ok (w :: ws) S2
def xTup (cs : List CE) : CE := fun env S => (mapC cs env S).bind fun ws S1 => guard' (small ws.length) (.ok (.tup ws) S1)
def xLst (cs : List CE) : CE := fun env S => (mapC cs env S).bind fun ws S1 => guard' (small ws.length) (.ok (.lst ws) S1)
def xTupS (cs : List (Bool × CE)) : CE := fun env S => (mapSC cs env S).bind fun ws S1 => guard' (small ws.length) (.ok (.tup ws) S1)
def xLstS (cs : List (Bool × CE)) : CE := fun env S => (mapSC cs env S).bind fun ws S1 => guard' (small ws.length) (.ok (.lst ws) S1)
/-- displays that become cells -/
def xCell (cs : List CE) : CE := fun env S => (mapC cs env S).bind fun ws S1 => guard' (small ws.length) (.ok (.ref S1.length) (S1 ++ [SO.lst ws]))
def xCellS (cs : List (Bool × CE)) : CE := fun env S => (mapSC cs env S).bind fun ws S1 => guard' (small ws.length) (.ok (.ref S1.length) (S1 ++ [SO.lst ws]))
def xDct0 : CE := fun _ S => .ok (.dct []) S
def xCellD : CE := fun _ S => .ok (.ref S.length) (S ++ [SO.dct []])
def xCellA (a b : CE) : CE := fun env S => (a env S).bind fun x S1 => (b env S1).bind fun y S2 => (match lstE S2 x, lstE S2 y with
  | some xs, some ys => guard' (small (xs.length + ys.length)) (.ok (.ref S2.length) (S2 ++ [SO.lst (xs ++ ys)]))
  | _, _ => lift (binop S2 .Add x y) S2)
def xBin (op : Operator) (a b : CE) : CE := fun env S => (a env S).bind fun x S1 => (b env S1).bind fun y S2 => lift (binop S2 op x y) S2
def xNot (a : CE) : CE := fun env S => (a env S).bind fun x S1 => (match x with
  | .bl b => .ok (.bl (!b)) S1
  | _ => .bad)
def xNeg (a : CE) : CE := fun env S => (a env S).bind fun x S1 => (match x with
  | .int i => .ok (.int (-i)) S1
  | _ => .bad)
def xBool (op : BoolOp) : List CE → CE
  | [], _, _ => .bad
  | [a], env, S => a env S
  | a :: b :: r, env, S => (a env S).bind fun w S1 => (match w with
    | .bl c => (match op, c with
      | .And, true => xBool op (b :: r) env S1
      | .And, false => .ok (.bl false) S1
      | .Or, true => .ok (.bl true) S1
      | .Or, false => xBool op (b :: r) env S1)
    | _ => .bad)
def xCmp (op : CmpOp) (a b : CE) : CE := fun env S => (a env S).bind fun x S1 => (b env S1).bind fun y S2 => (lift (cmpop S2 op x y) S2).bind fun c S3 => .ok (.bl c) S3
def xChain (op op' : CmpOp) (a b c : CE) : CE := fun env S => (a env S).bind fun x S1 => (b env S1).bind fun y S2 => (lift (cmpop S2 op x y) S2).bind fun d S3 => (match d with
  | false => .ok (.bl false) S3
  | true => (c env S3).bind fun z S4 => (lift (cmpop S4 op' y z) S4).bind fun d' S5 => .ok (.bl d') S5)
def xIf (t : CT) (a b : CE) : CE := fun env S => (t env S).bind fun c S1 => (match c with
  | true => a env S1
  | false => b env S1)
def oC : Option CE → Env' → Sto → R (Option Int)
  | none, _, S => .ok none S
  | some e, env, S => (e env S).bind fun w S1 => (match w with
    | .int i => .ok (some i) S1
    | _ => .bad)
def xSl (a : CE) (lo hi : Option CE) : CE := fun env S => (a env S).bind fun x S1 => (oC lo env S1).bind fun l S2 => (oC hi env S2).bind fun h S3 => lift (slS S3 x l h) S3
def xIx (a i : CE) : CE := fun env S => (a env S).bind fun x S1 => (i env S1).bind fun y S2 => lift (ixS S2 x y) S2
def bN (i : Nat) : Bnd := fun w env => some (env.set i (some w))
/-- a turn of a comprehension: bnd binds the target, vs its slots -/
def stepC (bnd : Bnd) (vs : List Nat) (c : Option CT) (elt : CE) (env : Env') : W → Sto → R (Option W) := fun w S => (match bnd w (wipeE env vs) with
    | none => .bad
    | some env1 => (match c with
      | none => (noExc (elt env1 S)).bind fun y S2 => .ok (some y) S2
      | some c => (noExc (c env1 S)).bind fun b S2 => (match b with
        | true => (noExc (elt env1 S2)).bind fun y S3 => .ok (some y) S3
        | false => .ok none S2)))
def xLcF (fl : Bool) (bnd : Bnd) (vs : List Nat) (iter : CI) (c : Option CT) (elt : CE) : CE := fun env S => (iter env S).bind fun items S1 => lcR fl (stepC bnd vs c elt env) items.2 items.1 [] S1
def xLc (bnd : Bnd) (vs : List Nat) (iter : CI) (c : Option CT) (elt : CE) : CE := xLcF false bnd vs iter c elt
def pV (i : Nat) : CP := fun env S => match env[i]? with
  | some (some w) => some w
  | _ => none
def pA (pg : Pg) (i : Nat) (f : Str) : CP := fun env S => (match pV i env S with
  | some w => (match objS S w with
    | some (c, fs) => if pg.fld c f = true then fs.lookup f else none
    | none => none)
  | none => none)
def dWalkC (k : Nat) (p : CP) (env : Env') (S : Sto) : Option (List W × Sto) := match p env S with
  | some w => (match dictAt S w with
    | some (ks, S1) => some (itemsOf ks k, S1)
    | none => none)
  | none => none
def dFlagC (p : CP) (env : Env') (S : Sto) : Bool := match p env S with
  | some (.ref n) => (match S[n]? with
    | some (.dct _) => true
    | _ => false)
  | _ => false
/-- a comprehension over what may be a dict -/
def xLcD (k : Nat) (p : CP) (bnd : Bnd) (vs : List Nat) (iter : CI) (c : Option CT) (elt : CE) : CE := fun env S => (match dWalkC k p env S with
  | some (items, S1) => noExc (lcR false (stepC bnd vs c elt env) (fun _ => true) items [] S1)
  | none => (iter env S).bind fun items S1 => lcR false (stepC bnd vs c elt env) items.2 items.1 [] S1)
/-- a dict's comprehension -/
def xDc (bnd : Bnd) (vs : List Nat) (iter : CI) (c : Option CT) (kx vx : CE) : CE := fun env S => (iter env S).bind fun items S1 =>
  dcR (fun w S => (match bnd w (wipeE env vs) with
    | none => .bad
    | some env1 => (match c with
      | none => (noExc (kx env1 S)).bind fun k S2 => (noExc (vx env1 S2)).bind fun y S3 => .ok (some (k, y)) S3
      | some c => (noExc (c env1 S)).bind fun b S2 => (match b with
        | true => (noExc (kx env1 S2)).bind fun k S3 => (noExc (vx env1 S3)).bind fun y S4 => .ok (some (k, y)) S4
        | false => .ok none S2)))) items.2 items.1 [] S1
def xAt (pg : Pg) (o : CE) (f : Str) : CE := fun env S => (o env S).bind fun x S1 => (match objS S1 x with
  | some (c, fs) => guard' (pg.fld c f) (lift (fs.lookup f) S1)
  | none => .bad)
/-- methods of built-in types -/
def mB1 (m : Str) (a : CE) (env : Env') (S1 : Sto) (x : W) : R W := match x with
  | .str z => guard' (isStrM m) ((a env S1).bind fun y S2 => lift (bmStr S2 m z y) S2)
  | x => guard' (isAppend m && (true && (seqL S1 x).isSome)) ((mapC [a] env S1).bind fun ws S2 => (match bmeth S2 m x ws with
    | some (w, S3) => .ok w S3
    | none => .bad))
def xMeth (pg : Pg) (cl : Cl) (o : CE) (m : Str) (as : List CE) (blt : Env' → Sto → W → R W) : CE := fun env S => (noExc (o env S)).bind fun x S1 => (match objS S1 x with
  | some (c, fs) => (match pg.mt c m with
    | some n => guard' ((fs.lookup m).isNone) ((mapC as env S1).bind fun ws S2 => guard' (decide (ws.length = n)) (back env (cl (mName c m) (x :: ws) S2)))
    | none => .bad)
  | none => blt env S1 x)
def xMeth1 (pg : Pg) (cl : Cl) (o : CE) (m : Str) (a : CE) : CE := xMeth pg cl o m [a] (mB1 m a)
def mNo (env : Env') (S : Sto) (x : W) : R W := match x with
  | .str _ => .bad
  | _ => .bad
def xIsi (pg : Pg) (a : CE) (t : Str) : CE := fun env S => (a env S).bind fun w S1 => (match tyW S1 w with
  | some ty => (lift (pg.isi ty t) S1).bind fun b S2 => .ok (.bl b) S2
  | none => .bad)
def xIsiT (pg : Pg) (a : CE) (ts : List Str) : CE := fun env S => (a env S).bind fun w S1 => (match tyW S1 w, some ts with
  | some ty, some (n1 :: ns) => (lift (isiAny pg ty (n1 :: ns)) S1).bind fun b S2 => .ok (.bl b) S2
  | _, _ => .bad)
def xLenSet (a : CE) : CE := fun env S => (a env S).bind fun w S1 => (match seqX S1 w with
  | some xs => guard' (decide (xs.length < 64)) (.ok (.int (cntS xs xs.length : Nat)) S1)
  | none => .bad)
def xCall (cl : Cl) (f : Str) (n : Nat) (args : List CE) : CE := fun env S => (mapC args env S).bind fun ws S1 => guard' (decide (ws.length = n)) (match cl f ws S1 with
  | .ok w S2 => .ok w S2
  | .exc c fs _ S2 => .exc c fs env S2
  | .bad => .bad)
def xCall0 (cl : Cl) (f : Str) (n : Nat) : CE := fun env S => guard' (decide (0 = n)) (back env (cl f [] S))
def xMk (cl : Cl) (c i : Str) (n : Nat) (fz : Bool) (args : List CE) : CE := fun env S => (mapC args env S).bind fun ws S1 => guard' (decide (ws.length = n)) (mkR env S1.length c fz (cl i (.ref S1.length :: ws) (S1 ++ [SO.ins c []])))
def xMk0 (cl : Cl) (c i : Str) (n : Nat) (fz : Bool) : CE := fun env S => guard' (decide (0 = n)) (mkR env S.length c fz (cl i [.ref S.length] (S ++ [SO.ins c []])))
def xBlt (f : Str) (args : List CE) : CE := fun env S => (mapC args env S).bind fun ws S1 => lift (bcall S1 f ws) S1
def cNot (a : CT) : CT := fun env S => (a env S).bind fun b S1 => .ok (!b) S1
def cBool (op : BoolOp) : List CT → CT
  | [], _, _ => .bad
  | [a], env, S => a env S
  | a :: b :: r, env, S => (a env S).bind fun c S1 => (match op, c with
    | .And, true => cBool op (b :: r) env S1
    | .And, false => .ok false S1
    | .Or, true => .ok true S1
    | .Or, false => cBool op (b :: r) env S1)
def cCmp (op : CmpOp) (a b : CE) : CT := fun env S => (a env S).bind fun x S1 => (b env S1).bind fun y S2 => lift (cmpop S2 op x y) S2
def cChain (op op' : CmpOp) (a b c : CE) : CT := fun env S => (a env S).bind fun x S1 => (b env S1).bind fun y S2 => (lift (cmpop S2 op x y) S2).bind fun d S3 => (match d with
  | false => .ok false S3
  | true => (c env S3).bind fun z S4 => lift (cmpop S4 op' y z) S4)
def cTru (a : CE) : CT := fun env S => (a env S).bind fun w S1 => lift (truth S1 w) S1
def iRng1 (a : CE) : CI := fun env S => (mapC [a] env S).bind fun ws S1 => (match ws with
  | [.int n] => guard' (decide (-(2 ^ 62) ≤ n ∧ n < 2 ^ 62)) (.ok (still ((List.range n.toNat).map fun i : Nat => W.int ((0 : Int) + (i : Int)))) S1)
  | _ => .bad)
def iRng2 (a b : CE) : CI := fun env S => (mapC [a, b] env S).bind fun ws S1 => (match ws with
  | [.int m, .int n] => guard' (decide (-(2 ^ 62) ≤ m ∧ m < 2 ^ 62 ∧ -(2 ^ 62) ≤ n ∧ n < 2 ^ 62)) (.ok (still ((List.range (n - m).toNat).map fun i : Nat => W.int (m + (i : Int)))) S1)
  | _ => .bad)
def iEnum (a : CE) : CI := fun env S => (a env S).bind fun w S1 => enumWk w S1
def iNo : CI := fun _ _ => .bad
def iOf (a : CE) : CI := fun env S => (a env S).bind fun w S1 => walkW w S1
def seqC : List CS → CS
  | [], env, S => .ok (.next env) S
  | s :: r, env, S => (s env S).bind fun o S1 => (match o with
    | .next env1 => seqC r env1 S1
    | .ret w => .ok (.ret w) S1
    | .brk e => .ok (.brk e) S1
    | .cont e => .ok (.cont e) S1)
def sRet (e : CE) : CS := fun env S => (e env S).bind fun w S1 => .ok (.ret w) S1
def sRetN : CS := fun env S => .ok (.ret .non) S
def sPass : CS := fun env S => .ok (.next env) S
def sBrk : CS := fun env S => .ok (.brk env) S
def sCont : CS := fun env S => .ok (.cont env) S
def sExpr (e : CE) : CS := fun env S => (e env S).bind fun _ S1 => .ok (.next env) S1
def sIf (t : CT) (a b : List CS) : CS := fun env S => (t env S).bind fun d S1 => (match d with
  | true => seqC a env S1
  | false => seqC b env S1)
def sSet (i : Nat) (e : CE) : CS := fun env S => (e env S).bind fun w S1 => .ok (.next (env.set i (some w))) S1
def sSetT (ix : List Nat) (e : CE) : CS := fun env S => (e env S).bind fun w S1 => (match bindTs ix w env with
  | some env1 => .ok (.next env1) S1
  | none => .bad)
def sSw2 (i j : Nat) (a b : CE) : CS := fun env S => (a env S).bind fun v S1 => (b env S1).bind fun w S2 => .ok (.next ((env.set i (some v)).set j (some w))) S2
def sSw3 (i j k : Nat) (a b c : CE) : CS := fun env S => (a env S).bind fun u S1 => (b env S1).bind fun v S2 => (c env S2).bind fun w S3 => .ok (.next (((env.set i (some u)).set j (some v)).set k (some w))) S3
/-- o.f = e -/
def sAtt (pg : Pg) (o : CE) (f : Str) (e : CE) : CS := fun env S => (e env S).bind fun y S1 => (o env S1).bind fun z S2 => (match z with
  | .ref n => (match S2[n]? with
    | some (.ins c fs) => guard' (pg.fld c f && decide (fs.length < 1000)) (.ok (.next env) (S2.set n (SO.ins c (putW f y fs))))
    | _ => .bad)
  | _ => .bad)
/-- o[i] = e -/
def sSub (o i e : CE) : CS := fun env S => (e env S).bind fun y S1 => (o env S1).bind fun x S2 => (i env S2).bind fun k S3 => (match x with
  | .ref n => (match S3[n]? with
    | some (.lst ws) => (match k with
      | .int j => (match ixN ws.length j with
        | some j => .ok (.next env) (S3.set n (SO.lst (ws.set j y)))
        | none => .bad)
      | _ => .bad)
    | some (.dct ks) => (match keyW k with
      | some k => guard' (small (ks.length + 1)) (.ok (.next env) (S3.set n (SO.dct (storeK ks k y))))
      | none => .bad)
    | _ => .bad)
  | _ => .bad)
def sAug (i : Nat) (e : CE) : CS := fun env S => (match env[i]? with
  | some (some (.int a)) => (e env S).bind fun w S1 => (match w with
    | .int b => .ok (.next (env.set i (some (.int (a + b))))) S1
    | _ => .bad)
  | some (some (.ref n)) => (e env S).bind fun w S1 => (match S1[n]?, lstE S1 w with
    | some (.lst xs), some ys => guard' (small (xs.length + ys.length)) (.ok (.next (env.set i (some (.ref n)))) (S1.set n (SO.lst (xs ++ ys))))
    | _, _ => .bad)
  | _ => .bad)
def sAugIx (o i e : CE) : CS := fun env S => (o env S).bind fun x S1 => (i env S1).bind fun y S2 => (match x, y with
  | .ref n, .int k => (match S2[n]? with
    | some (.lst ws) => (match decide (0 ≤ k ∧ k < 2 ^ 62), ws[k.toNat]? with
      | true, some (.int a) => (e env S2).bind fun w S3 => (match w, S3[n]? with
        | .int b, some (.lst ws') => guard' (decide (k.toNat < ws'.length)) (.ok (.next env) (S3.set n (SO.lst (ws'.set k.toNat (.int (a + b))))))
        | _, _ => .bad)
      | _, _ => .bad)
    | _ => .bad)
  | _, _ => .bad)
def sRaise (c : Str) (ns : List Str) (args : List CE) : CS := fun env S => (mapC args env S).bind fun ws S1 => guard' (decide (ws.length = ns.length) && decide (ws.length ≤ 1000)) (.exc c (ns.zip ws).reverse env S1)
def sTry (pg : Pg) (g : Gm) (hds : List ExceptHandler) (body : List CS) : CS := fun env S => tryR pg g hds (seqC body env S)
def sFor (bnd : Bnd) (iter : CI) (body : List CS) : CS := fun env S => (iter env S).bind fun items S1 => forR (fun env S => seqC body env S) bnd items.2 items.1 env S1
def sForD (k : Nat) (p : CP) (bnd : Bnd) (iter : CI) (body : List CS) : CS := fun env S => (match dWalkC k p env S with
  | some (items, S1) => (match dFlagC p env S with
    | true => forR (fun env S => seqC body env S) bnd (fun _ => true) items env S1
    | false => noExc (forR (fun env S => seqC body env S) bnd (fun _ => true) items env S1))
  | none => (iter env S).bind fun items S1 => forR (fun env S => seqC body env S) bnd items.2 items.1 env S1)
def sWhile (t : CT) (body : List CS) : CS := fun env S => whileR (fun env S => t env S) (fun env S => seqC body env S) 100000 env S
def tryHds : Stmt → List ExceptHandler
  | .Try _ h _ _ _ => h
  | _ => []
def subSt : Stmt → List Stmt
  | .For _ _ b o _ => b ++ o
  | .While _ b o _ => b ++ o
  | .If _ b o _ => b ++ o
  | _ => []
def stAt : List Nat → List Stmt → Stmt
  | [], _ => .Pass ⟨0, 0, 0, 0⟩
  | [i], l => l.getD i (.Pass ⟨0, 0, 0, 0⟩)
  | i :: r, l => stAt r (subSt (l.getD i (.Pass ⟨0, 0, 0, 0⟩)))
/-! ### a text's words, called by name -/
structure Mir where
  N : List Str
  P : Nat
  keep : Bool
  c : Cl → List CS
def cdC (mir : Str → Option Mir) : Nat → Str → List W → Sto → R W
  | 0, _, _, _ => .bad
  | d + 1, f, ws, S => match mir f with
    | none => .bad
    | some M => guard' (decide (ws.length = M.P)) (leaveR M.keep S.length (seqC (M.c (cdC mir d)) (startE M.N ws) S))
structure MirOk (pg : Pg) (F : Fn) (M : Mir) : Prop where
  N : M.N = F.N
  P : M.P = F.P
  keep : M.keep = F.keep
  c : ∀ cl ws S, bodyR pg cl F ws S = seqC (M.c cl) (startE F.N ws) S
inductive MirsOk (pg : Pg) : List (Str × Fn) → List (Str × Mir) → Prop
  | nil : MirsOk pg [] []
  | cons {f : Str} {F : Fn} {M : Mir} {l : List (Str × Fn)} {l' : List (Str × Mir)} : MirOk pg F M → MirsOk pg l l' → MirsOk pg ((f, F) :: l) ((f, M) :: l')
theorem MirsOk.look {pg : Pg} {l : List (Str × Fn)} {l' : List (Str × Mir)} (h : MirsOk pg l l') (f : Str) : (l.lookup f = none ∧ l'.lookup f = none) ∨ ∃ F M, l.lookup f = some F ∧ l'.lookup f = some M ∧ MirOk pg F M := by
  induction h with
  | nil => exact .inl ⟨rfl, rfl⟩
  | @cons g F M l l' hm _ ih =>
    rw [List.lookup_cons, List.lookup_cons]
    cases q : f == g with
    | true => exact .inr ⟨F, M, rfl, rfl, hm⟩
    | false => exact ih
theorem callD_mir {pg : Pg} {l : List (Str × Fn)} {l' : List (Str × Mir)} (h : MirsOk pg l l') : ∀ d, callD pg (fun f => l.lookup f) d = cdC (fun f => l'.lookup f) d
  | 0 => rfl
  | d + 1 => by
    funext f ws S
    unfold callD cdC
    rcases h.look f with ⟨h1, h2⟩ | ⟨F, M, h1, h2, m⟩
    · rw [h1, h2]
    · rw [h1, h2]
      show guard' _ _ = guard' _ _
      rw [m.P, m.keep, m.N, m.c, callD_mir h d]
end Mi

set_option Elab.async false
set_option linter.all false
set_option maxRecDepth 100000
set_option maxHeartbeats 4000000
/-! Mi13: reckoning with the evaluator's words; the laws' draws. -/
noncomputable section
namespace Mi
open PySem PySem.Spec PyProof.Rows L2
section
variable {α β : Type} {S : Sto}
@[simp] theorem bind_ok {a : α} {f : α → Sto → R β} : (R.ok a S).bind f = f a S := rfl
@[simp] theorem bind_bad {f : α → Sto → R β} : (R.bad).bind f = .bad := rfl
@[simp] theorem bind_exc {c : Str} {fs : List (Str × W)} {e : Env'} {f : α → Sto → R β} : (R.exc c fs e S).bind f = .exc c fs e S := rfl
@[simp] theorem lift_some {a : α} : lift (some a) S = .ok a S := rfl
@[simp] theorem guard_true {r : R α} : guard' true r = r := rfl
@[simp] theorem noExc_ok {a : α} : noExc (R.ok a S) = .ok a S := rfl
end
@[simp] theorem exitW_same {S : Sto} {w : W} : exitW S.length w S = .ok w S := if_pos rfl
theorem exitR_ret {S : Sto} {w : W} : exitR S.length (.ok (.ret w) S) = .ok w S := exitW_same
theorem exitR_next {S : Sto} {env : Env'} : exitR S.length (.ok (.next env) S) = .ok .non S := exitW_same
end Mi

set_option Elab.async false
set_option linter.all false
set_option maxRecDepth 100000
set_option maxHeartbeats 4000000
/-! Mi14: the laws' draws. -/
noncomputable section
namespace Mi
open PySem PySem.Spec PyProof.Rows L2
def cLawNumber : List CS := [sSetT [2, 3] (xIf (cCmp .NotEq (xV 0) (xLst [])) (xTup [(xIx (xV 0) (xBin .Mod (xV 1) (xBlt "len" [(xV 0)]))), (xBin .FloorDiv (xV 1) (xBlt "len" [(xV 0)]))]) (xTup [(xC (.int 12345)), (xC (.int 0))])),
    sSet 4 (xIf (cCmp .Lt (xV 3) (xC (.int 60))) (xBin .Sub (xV 2) (xBin .Pow (xC (.int 10)) (xC (.int 18)))) (xC (.int 0))),
    sFor (bN 5) (iRng1 (xBin .Mod (xBlt "int" [(xV 3)]) (xC (.int 60)))) [sSet 4 (xBin .FloorDiv (xV 4) (xC (.int 1009)))],
    sIf (cCmp .Gt (xV 4) (xC (.int 0))) [sRet (xBin .Mod (xBlt "int" [(xV 4)]) (xC (.int 1009)))] [],
    sSet 6 (xBin .Mod (xBin .Add (xBin .Mult (xBlt "int" [(xBin .Add (xV 2) (xBin .Mult (xC (.int 977)) (xV 1)))]) (xC (.int 48271))) (xBin .Mult (xC (.int 31)) (xBlt "len" [(xV 0)]))) (xC (.int 2147483647))),
    sSet 6 (xBin .Mod (xBin .Add (xBin .Mult (xV 6) (xV 6)) (xBin .Mult (xC (.int 40503)) (xV 1))) (xC (.int 2147483629))),
    sRet (xBlt "int" [(xBin .Mod (xBin .Add (xBin .Mult (xV 6) (xC (.int 69621))) (xBin .FloorDiv (xV 6) (xC (.int 977)))) (xC (.int 2147483587)))])]
theorem bcall_int (S : Sto) (i : Int) : bcall S "int" [.int i] = some (.int i) := rfl
theorem bcall_len (S : Sto) (w : W) : bcall S "len" [w] = (lenD S w).map .int := rfl
theorem lenD_frl (S : Sto) (xs : List W) : lenD S (.frl xs) = some (xs.length : Int) := rfl
theorem lenD_lst (S : Sto) (xs : List W) : lenD S (.lst xs) = some (xs.length : Int) := rfl
section
variable {S : Sto} {a b : Int}
theorem b_add : binop S .Add (.int a) (.int b) = some (.int (a + b)) := rfl
theorem b_sub : binop S .Sub (.int a) (.int b) = some (.int (a - b)) := rfl
theorem b_mod (h : 0 < b) : binop S .Mod (.int a) (.int b) = some (.int (a % b)) := if_pos h
theorem b_fdv (h : 0 < b ∧ b < 1073741824) : binop S .FloorDiv (.int a) (.int b) = some (.int (a / b)) := if_pos h
theorem b_mul (h : (-(2 ^ 64) < a ∧ a < 2 ^ 64) ∨ (-(2 ^ 64) < b ∧ b < 2 ^ 64)) : binop S .Mult (.int a) (.int b) = some (.int (a * b)) := if_pos h
theorem b_pow (h : 0 ≤ b ∧ b ≤ 1000000 ∧ a.natAbs < 2 ^ 64) : binop S .Pow (.int a) (.int b) = some (.int (a ^ b.toNat)) := if_pos h
end
theorem toDs_ints : ∀ ns : List Int, toDs (ns.map W.int) = some (ns.map PyData.int)
  | [] => rfl
  | n :: r => by
    rw [List.map_cons, toDs, toDs_ints r]
    rfl
theorem lay_ints : ∀ ns : List Int, PyData.canLayAll0 (ns.map PyData.int) = true
  | [] => rfl
  | n :: r => by
    rw [List.map_cons, PyData.canLayAll0, lay_ints r]
    rfl
theorem depth_ints : ∀ ns : List Int, PyData.depthAll (ns.map PyData.int) ≤ 1
  | [] => by simp [PyData.depthAll]
  | n :: r => by
    have := depth_ints r
    simp [PyData.depthAll, PyData.depth] at *
    omega
theorem shaped_ints (ns : List Int) : SeqAt.shaped (.list (ns.map PyData.int)) = true := by
  unfold SeqAt.shaped
  have h1 : PyData.canLay0 (.list (ns.map PyData.int)) = true := by rw [PyData.canLay0]; exact lay_ints ns
  have h2 : PyData.depth (.list (ns.map PyData.int)) ≤ 64 := by
    have := depth_ints ns
    rw [PyData.depth]
    omega
  rw [h1, decide_eq_true h2]
  rfl
theorem eq_nil (S : Sto) (ns : List Int) : eqS S (.frl (ns.map W.int)) (.lst []) = some ns.isEmpty := by
  have h1 : datS S (.frl (ns.map W.int)) = some (.list (ns.map PyData.int)) := by
    show toD (.frl (ns.map W.int)) = _
    rw [toD, toDs_ints]
    rfl
  have h2 : datS S (.lst []) = some (.list []) := rfl
  show eqS0 S _ _ = _
  unfold eqS0
  rw [if_neg (show ¬ scalW (.frl (ns.map W.int)) (.lst []) = true from fun z => by cases z), h1, h2]
  show (if _ then _ else _) = _
  rw [if_pos ⟨shaped_ints ns, shaped_ints []⟩]
  cases ns with
  | nil => rfl
  | cons n r => rfl
/-- the loop that goes down the digits -/
theorem digits (S : Sto) (a b c e : Option W) (f : Option W) : ∀ (items : List W) (r : Int) (x : Option W), ∃ (r' : Int) (x' : Option W),
    forR (fun env S => seqC [sSet 4 (xBin .FloorDiv (xV 4) (xC (.int 1009)))] env S) (bN 5) (fun _ => true) items [a, b, c, e, some (.int r), x, f] S = .ok (.next [a, b, c, e, some (.int r'), x', f]) S
  | [], r, x => ⟨r, x, rfl⟩
  | w :: ws, r, x => by
    obtain ⟨r', x', h⟩ := digits S a b c e f ws (r / 1009) (some w)
    refine ⟨r', x', ?_⟩
    rw [← h]
    rfl
theorem lawNumber_rest (S : Sto) (sc : List W) (hs : sc.length ≤ 63) (idx c t : Int) (ht : 0 ≤ t) (x4 x5 x6 : Option W) : ∃ r : Int, 0 ≤ r ∧
    seqC (cLawNumber.drop 1) [some (.frl sc), some (.int idx), some (.int c), some (.int t), x4, x5, x6] S = .ok (.ret (.int r)) S := by
  unfold cLawNumber
  show ∃ r : Int, 0 ≤ r ∧ seqC [_, _, _, _, _, _] _ _ = _
  have step1 : ∃ r0 : Int, sSet 4 (xIf (cCmp .Lt (xV 3) (xC (.int 60))) (xBin .Sub (xV 2) (xBin .Pow (xC (.int 10)) (xC (.int 18)))) (xC (.int 0))) [some (.frl sc), some (.int idx), some (.int c), some (.int t), x4, x5, x6] S =
      .ok (.next [some (.frl sc), some (.int idx), some (.int c), some (.int t), some (.int r0), x5, x6]) S := by
    by_cases h : t < 60
    · refine ⟨c - 10 ^ 18, ?_⟩
      have e : cCmp .Lt (xV 3) (xC (.int 60)) [some (.frl sc), some (.int idx), some (.int c), some (.int t), x4, x5, x6] S = .ok true S := by
        show lift (some (decide (t < 60))) S = _
        rw [decide_eq_true h]; rfl
      unfold sSet xIf
      rw [e]
      rfl
    · refine ⟨0, ?_⟩
      have e : cCmp .Lt (xV 3) (xC (.int 60)) [some (.frl sc), some (.int idx), some (.int c), some (.int t), x4, x5, x6] S = .ok false S := by
        show lift (some (decide (t < 60))) S = _
        rw [decide_eq_false h]; rfl
      unfold sSet xIf
      rw [e]
      rfl
  obtain ⟨r0, e1⟩ := step1
  rw [seqC, e1]
  have step2 : ∃ (r1 : Int) (x5' : Option W), sFor (bN 5) (iRng1 (xBin .Mod (xBlt "int" [(xV 3)]) (xC (.int 60)))) [sSet 4 (xBin .FloorDiv (xV 4) (xC (.int 1009)))] [some (.frl sc), some (.int idx), some (.int c), some (.int t), some (.int r0), x5, x6] S =
      .ok (.next [some (.frl sc), some (.int idx), some (.int c), some (.int t), some (.int r1), x5', x6]) S := by
    have e : iRng1 (xBin .Mod (xBlt "int" [(xV 3)]) (xC (.int 60))) [some (.frl sc), some (.int idx), some (.int c), some (.int t), some (.int r0), x5, x6] S = .ok (still ((List.range (t % 60).toNat).map fun i : Nat => W.int ((0 : Int) + (i : Int)))) S := by
      have h1 : (0 : Int) ≤ t % 60 := Int.emod_nonneg _ (by decide)
      have h2 : t % 60 < 60 := Int.emod_lt_of_pos _ (by decide)
      show guard' (decide (-(2 ^ 62) ≤ t % 60 ∧ t % 60 < 2 ^ 62)) _ = _
      rw [decide_eq_true (by omega)]
      rfl
    obtain ⟨r', x', h⟩ := digits S (some (.frl sc)) (some (.int idx)) (some (.int c)) (some (.int t)) x6 ((List.range (t % 60).toNat).map fun i : Nat => W.int ((0 : Int) + (i : Int))) r0 x5
    exact ⟨r', x', by unfold sFor; rw [e]; exact h⟩
  obtain ⟨r1, x5', e2⟩ := step2
  rw [bind_ok]
  show ∃ r : Int, 0 ≤ r ∧ seqC [_, _, _, _, _] _ _ = _
  rw [seqC, e2, bind_ok]
  show ∃ r : Int, 0 ≤ r ∧ seqC [_, _, _, _] _ _ = _
  by_cases h : 0 < r1
  · refine ⟨r1 % 1009, Int.emod_nonneg _ (by decide), ?_⟩
    have e : cCmp .Gt (xV 4) (xC (.int 0)) [some (.frl sc), some (.int idx), some (.int c), some (.int t), some (.int r1), x5', x6] S = .ok true S := by
      show lift (some (decide (0 < r1))) S = _
      rw [decide_eq_true h]; rfl
    rw [seqC]
    unfold sIf
    rw [e]
    rfl
  · have e : cCmp .Gt (xV 4) (xC (.int 0)) [some (.frl sc), some (.int idx), some (.int c), some (.int t), some (.int r1), x5', x6] S = .ok false S := by
      show lift (some (decide (0 < r1))) S = _
      rw [decide_eq_false h]; rfl
    rw [seqC]
    unfold sIf
    rw [e, bind_ok]
    show ∃ r : Int, 0 ≤ r ∧ seqC [_, _, _] _ _ = _
    let bl := ((c + 977 * idx) * 48271 + 31 * (sc.length : Int)) % 2147483647
    have hb1 : 0 ≤ bl := Int.emod_nonneg _ (by decide)
    have hb2 : bl < 2147483647 := Int.emod_lt_of_pos _ (by decide)
    let bl2 := (bl * bl + 40503 * idx) % 2147483629
    have hc1 : 0 ≤ bl2 := Int.emod_nonneg _ (by decide)
    have hc2 : bl2 < 2147483629 := Int.emod_lt_of_pos _ (by decide)
    refine ⟨(bl2 * 69621 + bl2 / 977) % 2147483587, Int.emod_nonneg _ (by decide), ?_⟩
    have s3 : sSet 6 (xBin .Mod (xBin .Add (xBin .Mult (xBlt "int" [(xBin .Add (xV 2) (xBin .Mult (xC (.int 977)) (xV 1)))]) (xC (.int 48271))) (xBin .Mult (xC (.int 31)) (xBlt "len" [(xV 0)]))) (xC (.int 2147483647)))
        [some (.frl sc), some (.int idx), some (.int c), some (.int t), some (.int r1), x5', x6] S = .ok (.next [some (.frl sc), some (.int idx), some (.int c), some (.int t), some (.int r1), x5', some (.int bl)]) S := by
      simp only [sSet, xBin, xBlt, xC, mapC, bind_ok, xV, List.getElem?_cons_succ, List.getElem?_cons_zero, b_add, lift_some, bcall_int, bcall_len]
      rw [b_mul (.inl (by decide))]
      simp only [bind_ok, lift_some, b_add, bcall_int]
      rw [b_mul (.inr (by decide))]
      simp only [bind_ok, lift_some, lenD_frl, Option.map_some]
      rw [b_mul (.inl (by decide))]
      simp only [bind_ok, lift_some, b_add]
      rw [b_mod (by decide)]
      rfl
    have s4 : sSet 6 (xBin .Mod (xBin .Add (xBin .Mult (xV 6) (xV 6)) (xBin .Mult (xC (.int 40503)) (xV 1))) (xC (.int 2147483629)))
        [some (.frl sc), some (.int idx), some (.int c), some (.int t), some (.int r1), x5', some (.int bl)] S = .ok (.next [some (.frl sc), some (.int idx), some (.int c), some (.int t), some (.int r1), x5', some (.int bl2)]) S := by
      simp only [sSet, xBin, xBlt, xC, mapC, bind_ok, xV, List.getElem?_cons_succ, List.getElem?_cons_zero]
      rw [b_mul (.inl (by omega))]
      simp only [bind_ok, lift_some]
      rw [b_mul (.inl (by decide))]
      simp only [bind_ok, lift_some, b_add]
      rw [b_mod (by decide)]
      rfl
    rw [seqC, s3, bind_ok]
    show seqC [_, _] _ _ = _
    rw [seqC, s4, bind_ok]
    show seqC [_] _ _ = _
    simp only [seqC, sRet, xBin, xBlt, xC, mapC, bind_ok, xV, List.getElem?_cons_succ, List.getElem?_cons_zero]
    rw [b_mul (.inl (by omega))]
    simp only [bind_ok, lift_some]
    rw [b_fdv (by decide)]
    simp only [bind_ok, lift_some, b_add]
    rw [b_mod (by decide)]
    rfl
theorem lawNumber_ok (S : Sto) (ns : List Int) (hs : ns.length ≤ 63) (idx : Int) (hi : 0 ≤ idx) : ∃ r : Int, 0 ≤ r ∧
    seqC cLawNumber [some (.frl (ns.map W.int)), some (.int idx), none, none, none, none, none] S = .ok (.ret (.int r)) S := by
  have s1 : ∃ c t : Int, 0 ≤ t ∧ sSetT [2, 3] (xIf (cCmp .NotEq (xV 0) (xLst [])) (xTup [(xIx (xV 0) (xBin .Mod (xV 1) (xBlt "len" [(xV 0)]))), (xBin .FloorDiv (xV 1) (xBlt "len" [(xV 0)]))]) (xTup [(xC (.int 12345)), (xC (.int 0))]))
      [some (.frl (ns.map W.int)), some (.int idx), none, none, none, none, none] S = .ok (.next [some (.frl (ns.map W.int)), some (.int idx), some (.int c), some (.int t), none, none, none]) S := by
    have e : cCmp .NotEq (xV 0) (xLst []) [some (.frl (ns.map W.int)), some (.int idx), none, none, none, none, none] S = .ok (!ns.isEmpty) S := by
      show lift ((eqS S (.frl (ns.map W.int)) (.lst [])).map (!·)) S = _
      rw [eq_nil]
      rfl
    cases hn : ns with
    | nil =>
      refine ⟨12345, 0, by decide, ?_⟩
      rw [hn] at e
      unfold sSetT xIf
      rw [e]
      rfl
    | cons n r =>
      have hl : 0 < ((ns.map W.int).length : Int) := by rw [hn]; simp
      have hl2 : ((ns.map W.int).length : Int) ≤ 63 := by rw [List.length_map]; omega
      have h1 : 0 ≤ idx % ((ns.map W.int).length : Int) := Int.emod_nonneg _ (by omega)
      have h2 : idx % ((ns.map W.int).length : Int) < ((ns.map W.int).length : Int) := Int.emod_lt_of_pos _ hl
      obtain ⟨k, hk⟩ : ∃ k : Nat, idx % ((ns.map W.int).length : Int) = k := ⟨(idx % ((ns.map W.int).length : Int)).toNat, by omega⟩
      have hk2 : k < ns.length := by
        rw [hk] at h2
        simpa using h2
      have at_ : atI (ns.map W.int) (k : Int) = some (.int ns[k]) := atI_nat (by simp [hk2])
      refine ⟨ns[k], idx / ((ns.map W.int).length : Int), Int.ediv_nonneg hi (by omega), ?_⟩
      rw [← hn]
      have e' : cCmp .NotEq (xV 0) (xLst []) [some (.frl (ns.map W.int)), some (.int idx), none, none, none, none, none] S = .ok true S := by
        rw [e, hn]
        rfl
      unfold sSetT xIf
      rw [e', bind_ok]
      simp only [xTup, xIx, xBin, xBlt, xC, mapC, bind_ok, xV, List.getElem?_cons_succ, List.getElem?_cons_zero, bcall_len, lenD_frl, Option.map_some, lift_some]
      rw [b_mod hl]
      simp only [lift_some, bind_ok]
      rw [hk]
      have ix : ixS S (.frl (ns.map W.int)) (.int (k : Int)) = some (.int ns[k]) := at_
      rw [ix]
      simp only [lift_some, bind_ok]
      rw [b_fdv ⟨hl, by omega⟩]
      rfl
  obtain ⟨c, t, ht, e⟩ := s1
  obtain ⟨r, hr, h⟩ := lawNumber_rest S (ns.map W.int) (by simpa using hs) idx c t ht none none none
  refine ⟨r, hr, ?_⟩
  rw [← h]
  unfold cLawNumber
  rw [seqC, e]
  rfl
end Mi

set_option Elab.async false
set_option linter.all false
set_option maxRecDepth 100000
set_option maxHeartbeats 4000000
/-! Mi15: the laws' draws, called. -/
noncomputable section
namespace Mi
open PySem PySem.Spec PyProof.Rows L2
def cLawTake (cl : Cl) : List CS := [sAugIx (xV 0) (xC (.int 1)) (xC (.int 1)),
    sRet (xBin .Mod (xBlt "int" [(xCall cl "_law_number" 2 [(xIx (xV 0) (xC (.int 0))), (xBlt "int" [(xIx (xV 0) (xC (.int 1)))])])]) (xV 1))]
def cLawPick (cl : Cl) : List CS := [sRet (xIx (xV 1) (xCall cl "_law_take" 2 [(xV 0), (xBlt "len" [(xV 1)])]))]
structure Draws (mir : Str → Option Mir) : Prop where
  num : ∃ M, mir "_law_number" = some M ∧ M.P = 2 ∧ M.keep = false ∧ M.N = (["script", "index", "cell", "turn", "rest", "step", "blend"] : List Str) ∧ ∀ cl, M.c cl = cLawNumber
  take : ∃ M, mir "_law_take" = some M ∧ M.P = 2 ∧ M.keep = false ∧ M.N = (["draw", "many"] : List Str) ∧ ∀ cl, M.c cl = cLawTake cl
  pick : ∃ M, mir "_law_pick" = some M ∧ M.P = 2 ∧ M.keep = false ∧ M.N = (["draw", "items"] : List Str) ∧ ∀ cl, M.c cl = cLawPick cl
/-- a call, by its def's body -/
theorem cdC_of {mir : Str → Option Mir} {d : Nat} {f : Str} {M : Mir} {ws : List W} {S : Sto} (hf : mir f = some M) (hl : ws.length = M.P) (hk : M.keep = false) : cdC mir (d + 1) f ws S = exitR S.length (seqC (M.c (cdC mir d)) (startE M.N ws) S) := by
  rw [cdC, hf]
  show guard' (decide (ws.length = M.P)) _ = _
  rw [decide_eq_true hl, hk]
  rfl
theorem cdC_keep {mir : Str → Option Mir} {d : Nat} {f : Str} {M : Mir} {ws : List W} {S : Sto} (hf : mir f = some M) (hl : ws.length = M.P) (hk : M.keep = true) : cdC mir (d + 1) f ws S = keepR (seqC (M.c (cdC mir d)) (startE M.N ws) S) := by
  rw [cdC, hf]
  show guard' (decide (ws.length = M.P)) _ = _
  rw [decide_eq_true hl, hk]
  rfl
theorem seqD_cell {S : Sto} {k : Nat} {xs : List W} (h : S[k]? = some (.lst xs)) : seqD S (.ref k) = none := by
  unfold seqD
  dsimp only
  rw [h]
theorem ixS_cell {S : Sto} {k : Nat} {xs : List W} {i : Int} (h : S[k]? = some (.lst xs)) : ixS S (.ref k) (.int i) = atI xs i := by
  unfold ixS
  rw [seqD_cell h]
  show ixS0 S _ _ = _
  unfold ixS0 seqL
  dsimp only
  rw [h]
/-- the cell of a draw -/
def drawO (ns : List Int) (n : Int) : SO := .lst [.frl (ns.map W.int), .int n]
section
variable {mir : Str → Option Mir} (D : Draws mir)
include D
theorem num_ok (d : Nat) (S : Sto) (ns : List Int) (hs : ns.length ≤ 63) (idx : Int) (hi : 0 ≤ idx) : ∃ r : Int, 0 ≤ r ∧ cdC mir (d + 1) "_law_number" [.frl (ns.map W.int), .int idx] S = .ok (.int r) S := by
  obtain ⟨M, h1, h2, h4, h5, h3⟩ := D.num
  obtain ⟨r, hr, e⟩ := lawNumber_ok S ns hs idx hi
  refine ⟨r, hr, ?_⟩
  rw [cdC_of h1 (by rw [h2]; rfl) h4, h3, h5]
  have e' : startE ["script", "index", "cell", "turn", "rest", "step", "blend"] [.frl (ns.map W.int), .int idx] = [some (.frl (ns.map W.int)), some (.int idx), none, none, none, none, none] := rfl
  rw [e', e, exitR_ret]
theorem take_ok (d : Nat) (S : Sto) (k : Nat) (ns : List Int) (n m : Int) (hs : ns.length ≤ 63) (hn : 0 ≤ n) (hm : 0 < m) (hk : S[k]? = some (drawO ns n)) :
    ∃ r : Int, 0 ≤ r ∧ r < m ∧ cdC mir (d + 2) "_law_take" [.ref k, .int m] S = .ok (.int r) (S.set k (drawO ns (n + 1))) := by
  obtain ⟨M, h1, h2, h4, h5, h3⟩ := D.take
  obtain ⟨r, hr, e⟩ := num_ok D d (S.set k (drawO ns (n + 1))) ns hs (n + 1) (by omega)
  refine ⟨r % m, Int.emod_nonneg _ (by omega), Int.emod_lt_of_pos _ hm, ?_⟩
  rw [cdC_of h1 (by rw [h2]; rfl) h4, h3, h5]
  have e' : startE ["draw", "many"] [.ref k, .int m] = [some (.ref k), some (.int m)] := rfl
  rw [e', cLawTake, seqC]
  have hkl : k < S.length := (List.getElem?_eq_some_iff.mp hk).1
  have s1 : sAugIx (xV 0) (xC (.int 1)) (xC (.int 1)) [some (.ref k), some (.int m)] S = .ok (.next [some (.ref k), some (.int m)]) (S.set k (drawO ns (n + 1))) := by
    unfold sAugIx
    simp only [xV, xC, List.getElem?_cons_zero, bind_ok, hk, drawO]
    rfl
  have hk2 : (S.set k (drawO ns (n + 1)))[k]? = some (drawO ns (n + 1)) := List.getElem?_set_self hkl
  rw [s1, bind_ok]
  have i0 : ixS (S.set k (drawO ns (n + 1))) (.ref k) (.int 0) = some (.frl (ns.map W.int)) := by
    rw [ixS_cell hk2]
    rfl
  have i1 : ixS (S.set k (drawO ns (n + 1))) (.ref k) (.int 1) = some (.int (n + 1)) := by
    rw [ixS_cell hk2]
    rfl
  show exitR S.length (seqC [_] _ _) = _
  rw [seqC]
  have s2 : sRet (xBin .Mod (xBlt "int" [(xCall (cdC mir (d + 1)) "_law_number" 2 [(xIx (xV 0) (xC (.int 0))), (xBlt "int" [(xIx (xV 0) (xC (.int 1)))])])]) (xV 1)) [some (.ref k), some (.int m)] (S.set k (drawO ns (n + 1))) = .ok (.ret (.int (r % m))) (S.set k (drawO ns (n + 1))) := by
    simp only [sRet, xBin, xBlt, xCall, xIx, mapC, xV, xC, List.getElem?_cons_zero, List.getElem?_cons_succ, bind_ok, i0, i1, lift_some, bcall_int]
    simp only [show decide (([W.frl (ns.map W.int), W.int (n+1)] : List W).length = 2) = true from rfl, guard_true, e, bind_ok, bcall_int, lift_some]
    rw [b_mod hm]
    rfl
  rw [s2, bind_ok]
  show exitW S.length _ _ = _
  unfold exitW
  rw [if_pos (by simp)]
theorem pick_ok (d : Nat) (S : Sto) (k : Nat) (ns : List Int) (n : Int) (xs : List W) (hs : ns.length ≤ 63) (hn : 0 ≤ n) (hx : 0 < xs.length) (hk : S[k]? = some (drawO ns n)) :
    ∃ (i : Nat) (h : i < xs.length), cdC mir (d + 3) "_law_pick" [.ref k, .lst xs] S = .ok xs[i] (S.set k (drawO ns (n + 1))) := by
  obtain ⟨M, h1, h2, h4, h5, h3⟩ := D.pick
  obtain ⟨r, hr, hr2, e⟩ := take_ok D d S k ns n (xs.length : Int) hs hn (by omega) hk
  have hi : r.toNat < xs.length := by omega
  refine ⟨r.toNat, hi, ?_⟩
  rw [cdC_of h1 (by rw [h2]; rfl) h4, h3, h5]
  have e' : startE ["draw", "items"] [.ref k, .lst xs] = [some (.ref k), some (.lst xs)] := rfl
  rw [e', cLawPick, seqC]
  have ix : ixS (S.set k (drawO ns (n + 1))) (.lst xs) (.int r) = some xs[r.toNat] := by
    show atI xs r = _
    have z := atI_nat (xs := xs) (j := r.toNat) (v := xs[r.toNat]) (by simp [hi])
    rw [show ((r.toNat : Nat) : Int) = r by omega] at z
    exact z
  have s2 : sRet (xIx (xV 1) (xCall (cdC mir (d + 2)) "_law_take" 2 [(xV 0), (xBlt "len" [(xV 1)])])) [some (.ref k), some (.lst xs)] S = .ok (.ret xs[r.toNat]) (S.set k (drawO ns (n + 1))) := by
    simp only [sRet, xBlt, xCall, xIx, mapC, xV, xC, List.getElem?_cons_zero, List.getElem?_cons_succ, bind_ok, lift_some, bcall_len, lenD_lst, Option.map_some]
    simp only [show decide (([W.ref k, W.int (xs.length : Int)] : List W).length = 2) = true from rfl, guard_true, e, bind_ok, ix, lift_some]
  rw [s2, bind_ok]
  show exitW S.length _ _ = _
  unfold exitW
  rw [if_pos (by simp)]
end
end Mi

set_option Elab.async false
set_option linter.all false
set_option maxRecDepth 100000
set_option maxHeartbeats 4000000
/-! Mi16: sequences, comprehensions, loops: general laws of the evaluator's words. -/
noncomputable section
namespace Mi
open PySem PySem.Spec PyProof.Rows L2
def contC (B : List CS) : Out' → Sto → R Out'
  | .next e, S => seqC B e S
  | .ret w, S => .ok (.ret w) S
  | .brk e, S => .ok (.brk e) S
  | .cont e, S => .ok (.cont e) S
theorem seqC_app (B : List CS) : ∀ (A : List CS) (env : Env') (S : Sto), seqC (A ++ B) env S = (seqC A env S).bind (contC B)
  | [], env, S => rfl
  | a :: A, env, S => by
    rw [List.cons_append, seqC, seqC]
    cases h : a env S with
    | ok o S1 =>
      rw [bind_ok, bind_ok]
      cases o with
      | next e => exact seqC_app B A e S1
      | ret w => rfl
      | brk e => rfl
      | cont e => rfl
    | exc c fs e S1 => rfl
    | bad => rfl
theorem seqC_next {a : CS} {A : List CS} {env env' : Env'} {S S' : Sto} (h : a env S = .ok (.next env') S') : seqC (a :: A) env S = seqC A env' S' := by
  rw [seqC, h]
  rfl
theorem seqC_ret {a : CS} {A : List CS} {env : Env'} {w : W} {S S' : Sto} (h : a env S = .ok (.ret w) S') : seqC (a :: A) env S = .ok (.ret w) S' := by
  rw [seqC, h]
  rfl
theorem lcR_map {step : W → Sto → R (Option W)} {f : W → W} {S : Sto} {chk : Sto → Bool} (hc : chk S = true) : ∀ (items acc : List W), acc.length + items.length ≤ 100000 → (∀ w ∈ items, step w S = .ok (some (f w)) S) → lcR false step chk items acc S = .ok (.lst (acc ++ items.map f)) S
  | [], acc, hl, h => by
    rw [lcR, hc, List.map_nil, List.append_nil]
    rfl
  | w :: ws, acc, hl, h => by
    rw [List.length_cons] at hl
    rw [lcR, hc, h w (List.mem_cons_self ..)]
    show guard' (decide (acc.length + 1 ≤ 100000)) (lcR false step chk ws (acc ++ [f w]) S) = _
    rw [decide_eq_true (by omega), guard_true, lcR_map hc ws _ (by simp; omega) fun w' q => h w' (List.mem_cons_of_mem _ q)]
    simp
theorem forR_same {body : Env' → Sto → R Out'} {bnd : W → Env' → Option Env'} {S : Sto} {I : Env' → Prop} {chk : Sto → Bool} (hc : chk S = true) : ∀ (items : List W) (env : Env'), I env →
    (∀ w ∈ items, ∀ env, I env → ∃ e1 e2, bnd w env = some e1 ∧ body e1 S = .ok (.next e2) S ∧ I e2) → ∃ e, forR body bnd chk items env S = .ok (.next e) S ∧ I e
  | [], env, i, _ => ⟨env, by rw [forR, hc]; rfl, i⟩
  | w :: ws, env, i, h => by
    obtain ⟨e1, e2, h1, h2, h3⟩ := h w (List.mem_cons_self ..) env i
    obtain ⟨e, h4, h5⟩ := forR_same hc ws e2 h3 fun w' q => h w' (List.mem_cons_of_mem _ q)
    refine ⟨e, ?_, h5⟩
    rw [forR, hc, h1]
    show (body e1 S).bind _ = _
    rw [h2]
    exact h4
theorem bools_true {α : Type} : ∀ (xs : List α), bools (xs.map fun _ => W.bl true) = some (xs.map fun _ => true)
  | [] => rfl
  | x :: r => by
    rw [List.map_cons, bools, bools_true r]
    rfl
theorem all_true {α : Type} (S : Sto) (xs : List α) : bcall S "all" [.lst (xs.map fun _ => W.bl true)] = some (.bl true) := by
  show (bools (xs.map fun _ => W.bl true)).map (fun bs => W.bl (bs.all id)) = _
  rw [bools_true]
  show some (W.bl _) = _
  congr 2
  induction xs with
  | nil => rfl
  | cons x r ih => exact ih
/-! ### rules: one step each -/
theorem sRet_ok {e : CE} {env : Env'} {S S' : Sto} {w : W} (h : e env S = .ok w S') : sRet e env S = .ok (.ret w) S' := by
  unfold sRet
  rw [h]
  rfl
theorem sSet_ok {i : Nat} {e : CE} {env : Env'} {S S' : Sto} {w : W} (h : e env S = .ok w S') : sSet i e env S = .ok (.next (env.set i (some w))) S' := by
  unfold sSet
  rw [h]
  rfl
theorem sExpr_ok {e : CE} {env : Env'} {S S' : Sto} {w : W} (h : e env S = .ok w S') : sExpr e env S = .ok (.next env) S' := by
  unfold sExpr
  rw [h]
  rfl
theorem xIf_t {t : CT} {a b : CE} {env : Env'} {S S1 : Sto} {r : R W} (h : t env S = .ok true S1) (h2 : a env S1 = r) : xIf t a b env S = r := by
  unfold xIf
  rw [h]
  exact h2
theorem xIf_f {t : CT} {a b : CE} {env : Env'} {S S1 : Sto} {r : R W} (h : t env S = .ok false S1) (h2 : b env S1 = r) : xIf t a b env S = r := by
  unfold xIf
  rw [h]
  exact h2
theorem sIf_t {t : CT} {a b : List CS} {env : Env'} {S S1 : Sto} {r : R Out'} (h : t env S = .ok true S1) (h2 : seqC a env S1 = r) : sIf t a b env S = r := by
  unfold sIf
  rw [h]
  exact h2
theorem sIf_f {t : CT} {a b : List CS} {env : Env'} {S S1 : Sto} {r : R Out'} (h : t env S = .ok false S1) (h2 : seqC b env S1 = r) : sIf t a b env S = r := by
  unfold sIf
  rw [h]
  exact h2
theorem xCall_ok {cl : Cl} {f : Str} {n : Nat} {args : List CE} {env : Env'} {S S1 S2 : Sto} {ws : List W} {w : W} (h : mapC args env S = .ok ws S1) (hn : ws.length = n) (h2 : cl f ws S1 = .ok w S2) : xCall cl f n args env S = .ok w S2 := by
  unfold xCall
  rw [h, bind_ok, decide_eq_true hn, guard_true, h2]
theorem xBlt_ok {f : Str} {args : List CE} {env : Env'} {S S1 : Sto} {ws : List W} {w : W} (h : mapC args env S = .ok ws S1) (h2 : bcall S1 f ws = some w) : xBlt f args env S = .ok w S1 := by
  unfold xBlt
  rw [h, bind_ok, h2]
  rfl
theorem mapC_cons {c : CE} {cs : List CE} {env : Env'} {S S1 S2 : Sto} {w : W} {ws : List W} (h : c env S = .ok w S1) (h2 : mapC cs env S1 = .ok ws S2) : mapC (c :: cs) env S = .ok (w :: ws) S2 := by
  rw [mapC, h, bind_ok, h2]
  rfl
theorem xBin_ok {op : Operator} {a b : CE} {env : Env'} {S S1 S2 : Sto} {x y w : W} (h1 : a env S = .ok x S1) (h2 : b env S1 = .ok y S2) (h : binop S2 op x y = some w) : xBin op a b env S = .ok w S2 := by
  unfold xBin
  rw [h1, bind_ok, h2, bind_ok, h]
  rfl
theorem xCmp_ok {op : CmpOp} {a b : CE} {env : Env'} {S S1 S2 : Sto} {x y : W} {c : Bool} (h1 : a env S = .ok x S1) (h2 : b env S1 = .ok y S2) (h : cmpop S2 op x y = some c) : xCmp op a b env S = .ok (.bl c) S2 := by
  unfold xCmp
  rw [h1, bind_ok, h2, bind_ok, h]
  rfl
theorem cCmp_ok {op : CmpOp} {a b : CE} {env : Env'} {S S1 S2 : Sto} {x y : W} {c : Bool} (h1 : a env S = .ok x S1) (h2 : b env S1 = .ok y S2) (h : cmpop S2 op x y = some c) : cCmp op a b env S = .ok c S2 := by
  unfold cCmp
  rw [h1, bind_ok, h2, bind_ok, h]
  rfl
theorem cTru_ok {a : CE} {env : Env'} {S S1 : Sto} {w : W} {c : Bool} (h1 : a env S = .ok w S1) (h : truth S1 w = some c) : cTru a env S = .ok c S1 := by
  unfold cTru
  rw [h1, bind_ok, h]
  rfl
theorem cNot_ok {a : CT} {env : Env'} {S S1 : Sto} {c : Bool} (h1 : a env S = .ok c S1) : cNot a env S = .ok (!c) S1 := by
  unfold cNot
  rw [h1]
  rfl
theorem xIx_ok {a i : CE} {env : Env'} {S S1 S2 : Sto} {x y w : W} (h1 : a env S = .ok x S1) (h2 : i env S1 = .ok y S2) (h : ixS S2 x y = some w) : xIx a i env S = .ok w S2 := by
  unfold xIx
  rw [h1, bind_ok, h2, bind_ok, h]
  rfl
theorem sFor_ok {bnd : W → Env' → Option Env'} {iter : CI} {body : List CS} {env : Env'} {S S1 : Sto} {items : Itm} {r : R Out'} (h : iter env S = .ok items S1) (h2 : forR (fun env S => seqC body env S) bnd items.2 items.1 env S1 = r) : sFor bnd iter body env S = r := by
  unfold sFor
  rw [h]
  exact h2
theorem xLc_ok {i : Nat} {iter : CI} {elt : CE} {env : Env'} {S : Sto} {items : List W} (f : W → W) (h : iter env S = .ok (still items) S) (hl : items.length ≤ 100000) (h2 : ∀ w ∈ items, elt ((wipeE env [i]).set i (some w)) S = .ok (f w) S) : xLc (bN i) [i] iter none elt env S = .ok (.lst (items.map f)) S := by
  unfold xLc xLcF
  rw [h, bind_ok]
  show lcR false _ (fun _ => true) items [] S = _
  rw [lcR_map (f := f) rfl items [] (by rw [List.length_nil, Nat.zero_add]; exact hl), List.nil_append]
  intro w hw
  show (noExc (elt ((wipeE env [i]).set i (some w)) S)).bind _ = _
  rw [h2 w hw]
  rfl
/-- the sign and the figures of a short number, read -/
def pvD (cs : List Nat) : Int := cs.foldl (fun (a : Int) (c : Nat) => a * 10 + (Int.ofNat c - 48)) 0
def pv : List Nat → Int
  | 45 :: r => -(pvD r)
  | r => pvD r
def strI (n : Int) : Str := (toString n : String)
def numO (w : Str) : Option Int := if -99 ≤ pv w.cps.toList ∧ pv w.cps.toList ≤ 99 ∧ strI (pv w.cps.toList) = w then some (pv w.cps.toList) else none
theorem pv_all : (List.range 199).all (fun i => decide (pv (strI ((i : Int) - 99)).cps.toList = (i : Int) - 99)) = true := by decide +kernel
theorem pv_ok {n : Int} (h1 : -99 ≤ n) (h2 : n ≤ 99) : pv (strI n).cps.toList = n := by
  have z := List.all_eq_true.mp pv_all (n + 99).toNat (by rw [List.mem_range]; omega)
  have e : (((n + 99).toNat : Nat) : Int) - 99 = n := by omega
  rw [e] at z
  exact of_decide_eq_true z
theorem numO_iff {n : Int} (h1 : -99 ≤ n) (h2 : n ≤ 99) (w : Str) : strI n = w ↔ numO w = some n := by
  constructor
  · intro e
    subst e
    have := pv_ok h1 h2
    unfold numO
    rw [this, if_pos ⟨h1, h2, rfl⟩]
  · intro e
    unfold numO at e
    split at e
    · rename_i h
      injection e with e
      rw [← e]
      exact h.2.2
    · cases e
theorem bcall_str {S : Sto} {n : Int} (h : n.natAbs < 1920) : bcall S "str" [.int n] = some (.str (strI n)) := by
  unfold bcall
  rw [if_neg (by decide +kernel), if_neg (by decide +kernel), if_pos rfl]
  exact if_pos (Nat.lt_of_le_of_lt (Nat.log2_le_self _) h)
theorem strI_lens : (List.range 201).all (fun i => decide ((strI ((i : Int) - 100)).length ≤ 4)) = true := by decide +kernel
theorem strI_len {n : Int} (h1 : -100 ≤ n) (h2 : n ≤ 100) : (strI n).length ≤ 4 := by
  have z := List.all_eq_true.mp strI_lens (n + 100).toNat (by rw [List.mem_range]; omega)
  have e : (((n + 100).toNat : Nat) : Int) - 100 = n := by omega
  rw [e] at z
  exact of_decide_eq_true z
/-- is w the text of a number in lo..hi? -/
def numIn (w : Str) (lo hi : Int) : Bool := match numO w with
  | some n => decide (lo ≤ n) && decide (n ≤ hi)
  | none => false
theorem numIn_any {w : Str} {lo hi : Int} (h1 : -99 ≤ lo) (h2 : hi ≤ 99) : inW (.str w) ((List.range (hi + 1 - lo).toNat).map fun i : Nat => W.str (strI (lo + (i : Int)))) = numIn w lo hi := by
  unfold inW
  rw [List.any_map, Bool.eq_iff_iff, List.any_eq_true]
  constructor
  · intro ⟨i, hi1, hi2⟩
    rw [List.mem_range] at hi1
    have e : strI (lo + (i : Int)) = w := eqStr_iff.mp (hi2 : eqStr (strI (lo + (i : Int))) w = true)
    have := (numO_iff (by omega) (by omega) w).mp e
    unfold numIn
    rw [this]
    simp only [Bool.and_eq_true, decide_eq_true_eq]
    omega
  · intro h
    unfold numIn at h
    split at h
    · rename_i n e
      simp only [Bool.and_eq_true, decide_eq_true_eq] at h
      have := (numO_iff (by omega) (by omega) w).mpr e
      refine ⟨(n - lo).toNat, by rw [List.mem_range]; omega, ?_⟩
      show eqStr (strI (lo + (((n - lo).toNat : Nat) : Int))) w = true
      rw [show lo + (((n - lo).toNat : Nat) : Int) = n by omega, this]
      exact eqStr_iff.mpr rfl
    · cases h
end Mi

set_option Elab.async false
set_option linter.all false
set_option maxRecDepth 100000
set_option maxHeartbeats 4000000
/-! Ma17: a text's tables; what the head must have seen of them. -/
noncomputable section
namespace Mi
open PySem PySem.Spec PyProof.Rows L2 He
abbrev Pth := Str × Option Str
structure Tx where
  fnl : List (Str × Fn)
  csts : List (Str × W)
  arl : List (Str × Nat)
  frl : List Str
  fldl : List ((Str × Str) × Unit)
  mtl : List ((Str × Str) × Nat)
  newl : List (Str × (Nat × Bool))
  xcl : List (Str × List Str)
  exkl : List (Str × Unit)
  exml : List ((Str × Str) × Bool)
  exfl : List ((Str × Str) × Unit)
  exil : List ((Str × Str) × Bool)
  isil : List ((Str × Str) × Bool)
  own : List Str
  pth : List (Str × Pth)
def Tx.pg (T : Tx) : Pg := { cst := fun x => T.csts.lookup x, ar := fun f => T.arl.lookup f, free := T.frl, fld := fun c f => (T.fldl.lookup (c, f)).isSome, mt := fun c m => T.mtl.lookup (c, m), new := fun c => T.newl.lookup c, xc := fun c => T.xcl.lookup c, exk := fun x => (T.exkl.lookup x).isSome, exm := fun c x => T.exml.lookup (c, x), exf := fun c f => (T.exfl.lookup (c, f)).isSome, exi := fun c t => T.exil.lookup (c, t), isi := fun c t => T.isil.lookup (c, t) }
def Tx.path (T : Tx) (f : Str) : Pth := (T.pth.lookup f).getD (f, none)
/-- where classes and defs stand -/
@[reducible] def Tx.gam (T : Tx) (K : PySem.W.Frag) : Gam := ⟨fun c => if T.own.contains c = true then some (ga K c) else none, fun f => fAd K (T.path f)⟩
theorem lookup_in {κ β : Type} [BEq κ] [LawfulBEq κ] : ∀ {l : List (κ × β)} {f : κ} {F : β}, l.lookup f = some F → (f, F) ∈ l
  | [], _, _, h => by cases h
  | (g, G) :: r, f, F, h => by
    rw [List.lookup_cons] at h
    cases q : f == g with
    | true =>
      rw [q] at h
      cases h
      rw [eq_of_beq q]
      exact List.mem_cons_self ..
    | false =>
      rw [q] at h
      exact List.mem_cons_of_mem _ (lookup_in h)
/-! ### looks -/
def oneB (a b : Option (Option Value)) : Bool := decide (a = b)
def isB (K : PySem.W.Frag) (C : Addr) : Bool := decide (PySem.W.findIn K (.ref C) "__class__" = some (some (.builtin "object.__class__"))) && (decide (PySem.W.specialIn K (.builtin "object.__class__") "__get__" = some (some (.builtin "getset_descriptor.__get__"))) && (decide (PySem.W.takesIn K (.builtin "object.__class__") = some true) && decide (PySem.W.mroIn K C (.type "object") = some true)))
def oexB (K : PySem.W.Frag) (C : Addr) : Bool := (match K.lookup C with
  | some ⟨.type "type", _, .cls cd, sl⟩ => (match cd.mro, sl.toList with
    | .ref C' :: bm, [_, _, _, _, some (.builtin n), _] => decide (C' = C) && (decide (n = "ValueError.__new__") && (!cd.hasDel && (cd.hasDict && PySem.HandSPX.refsVE bm)))
    | _, _ => false)
  | _ => false) && (decide (PySem.W.findIn K (.ref C) "__setattr__" = some (some (.builtin "object.__setattr__"))) && (decide (PySem.W.subIn K (.ref C) (.type "BaseException") = some true) && (decide (PySem.W.typeIn K (.ref C) = some (.type "type")) && PySem.W.keepIn K (.ref C))))
def cB (K : PySem.W.Frag) (x : Str) : W → Bool
  | .int i => (Fa.int x i).ok K
  | .str s => (Fa.str x s).ok K
  | .tup ws => (Fa.glo x).ok K && (ws.all flatW && tupB K x (ws.map fun w => match w with
    | .bl b => .bl b
    | .int i => .int i
    | .str s => .str s
    | _ => .non))
  | _ => false
/-- the second argument of isinstance -/
def cvB (T : Tx) (K : PySem.W.Frag) (t : Str) : Option Value := match T.frl.contains t with
  | true => (match bootBuiltins t with
    | some (.type n) => some (.type n)
    | _ => none)
  | false => (match (Fa.glo t).ok K with
    | true => some (.ref (ga K t))
    | false => none)
def tyV (T : Tx) (K : PySem.W.Frag) (c : Str) : Option Value := match tyB c with
  | some n => some (.type n)
  | none => (match T.own.contains c && ((Fa.cls c).ok K && isB K (ga K c)) with
    | true => some (.ref (ga K c))
    | false => none)
def excB (K : PySem.W.Frag) (C : Addr) : Bool := xfB K C && isB K C
def Tx.ok (T : Tx) (K : PySem.W.Frag) : Bool :=
  (T.arl.all fun p => (Fa.glo p.1).ok K && PySem.W.keepIn K (.ref (ga K p.1))) && ((T.csts.all fun p => cB K p.1 p.2) && ((T.frl.all fun x => (Fa.free x).ok K) &&
  ((T.fldl.all fun p => T.own.contains p.1.1 && ((Fa.cls p.1.1).ok K && (Fa.noat p.1.1 p.1.2).ok K)) && ((T.mtl.all fun p => T.own.contains p.1.1 && ((Fa.cls p.1.1).ok K && (Fa.meth p.1.1 p.1.2).ok K)) &&
  ((T.newl.all fun p => T.own.contains p.1 && ((Fa.glo p.1).ok K && (Fa.mkr p.1).ok K)) &&
  ((T.xcl.all fun p => (Fa.glo p.1).ok K && (oexB K (ga K p.1) && ((p.2.all fun f => (Fa.noat p.1 f).ok K) && (oneB (PySem.W.findIn K (.ref (ga K p.1)) "__init__") (some (some (.ref (ma K (ga K p.1) "__init__")))) && decide (PySem.W.typeIn K (.ref (ma K (ga K p.1) "__init__")) = some (.type "function")))))) &&
  ((T.exkl.all fun p => (Fa.glo p.1).ok K) && ((T.exml.all fun p => (Fa.glo p.1.1).ok K && ((Fa.glo p.1.2).ok K && (Fa.exm p.1.1 p.1.2 p.2).ok K)) && ((T.exfl.all fun p => (Fa.glo p.1.1).ok K && (xfB K (ga K p.1.1) && (Fa.noat p.1.1 p.1.2).ok K)) &&
  ((T.exil.all fun p => (Fa.glo p.1.1).ok K && (excB K (ga K p.1.1) && (match cvB T K p.1.2 with
    | some cv => decide (PySem.W.kitOne K (.ref (ga K p.1.1)) cv = some p.2)
    | none => false))) && (T.isil.all fun p => (match tyV T K p.1.1, cvB T K p.1.2 with
    | some u, some cv => decide (PySem.W.kitOne K u cv = some p.2)
    | _, _ => false))))))))))))
/-- what shows without the head -/
def Tx.st (T : Tx) : Bool :=
  (T.arl.all fun p => (match T.fnl.lookup p.1 with
    | some F => decide (F.P = p.2)
    | none => false) && decide (T.path p.1 = (p.1, none))) &&
  ((T.mtl.all fun p => (match T.fnl.lookup (mName p.1.1 p.1.2) with
    | some F => decide (F.P = p.2 + 1)
    | none => false) && decide (T.path (mName p.1.1 p.1.2) = (p.1.1, some p.1.2))) &&
  (T.newl.all fun p => (match T.fnl.lookup (mName p.1 "__init__") with
    | some F => decide (F.P = p.2.1 + 1)
    | none => false) && decide (T.path (mName p.1 "__init__") = (p.1, some ("__init__" : Str)))))
section
variable {K : PySem.W.Frag} {h : Heap} {mg : Str → Option Value}
theorem isB_ok {C : Addr} (c : Cls K C) (hb : isB K C = true) : IsC K C := by
  obtain ⟨h1, h2⟩ := ba hb
  obtain ⟨h2, h3⟩ := ba h2
  obtain ⟨h3, h4⟩ := ba h3
  exact ⟨c, of_decide_eq_true h1, of_decide_eq_true h2, of_decide_eq_true h3, of_decide_eq_true h4⟩
theorem excB_ok {C : Addr} (hb : excB K C = true) : ExcC K C := by
  obtain ⟨h0, hb⟩ := ba hb
  have x := xfB_ok h0
  obtain ⟨h1, h2⟩ := ba hb
  obtain ⟨h2, h3⟩ := ba h2
  obtain ⟨h3, h4⟩ := ba h3
  exact ⟨x.ga, x.gg, x.exC, x.hdC, of_decide_eq_true h1, of_decide_eq_true h2, of_decide_eq_true h3, of_decide_eq_true h4⟩
theorem oexB_ok {C : Addr} (hb : oexB K C = true) : OexC K C := by
  obtain ⟨h0, hb⟩ := ba hb
  obtain ⟨h1, h2⟩ := ba hb
  obtain ⟨h2, h3⟩ := ba h2
  obtain ⟨h3, h4⟩ := ba h3
  refine ⟨?_, of_decide_eq_true h1, of_decide_eq_true h2, of_decide_eq_true h3, h4⟩
  split at h0
  · rename_i dd cd sl ho
    split at h0
    · rename_i C' bm k0 k1 k2 k3 n k5 hm hs
      obtain ⟨e1, h0⟩ := ba h0
      obtain ⟨e2, h0⟩ := ba h0
      obtain ⟨e3, h0⟩ := ba h0
      obtain ⟨e4, e5⟩ := ba h0
      have e1 := of_decide_eq_true e1
      have e2 := of_decide_eq_true e2
      subst e1 e2
      obtain ⟨nm, bs, mro, nsp, qn, hd, sn, sub, ab, col, del⟩ := cd
      dsimp only at hm e3 e4
      have e3 : del = false := by simpa using e3
      subst hm e3 e4
      have hsl : sl = #[k0, k1, k2, k3, some (.builtin "ValueError.__new__"), k5] := by
        obtain ⟨l⟩ := sl
        simp only at hs
        rw [hs]
      subst hsl
      exact ⟨nm, qn, nsp, bs, bm, sn, sub, ab, col, dd, k0, k1, k2, k3, k5, ho, e5⟩
    · cases h0
  · cases h0
theorem flat_v {K : PySem.W.Frag} [Gam] : ∀ {ws : List W}, ws.all flatW = true → ∀ B, RepL K B [] ((ws.map fun w => match w with
    | .bl b => Dv.bl b
    | .int i => .int i
    | .str s => .str s
    | _ => .non).map (Dv.v K)) ws
  | [], _, B => .nil
  | w :: ws, hf, B => by
    obtain ⟨h1, h2⟩ := ba (show (flatW w && ws.all flatW) = true from hf)
    refine .cons ?_ (flat_v h2 B)
    cases w <;> first | (cases h1; done) | constructor
theorem cB_ok [Gam] {x : Str} {w : W} (X : K.In h) (G : h.Ns mainGlobals mg) (c : cB K x w = true) : ∃ u v, mg x = some u ∧ RelV v u ∧ ∀ B, Rep K B [] v w := by
  unfold cB at c
  split at c
  · obtain ⟨t, e⟩ := int_ok X G c
    exact ⟨_, .int _, e, ⟨t, rfl⟩, fun B => .int _⟩
  · obtain ⟨t, e⟩ := str_ok X G c
    exact ⟨_, .str _, e, ⟨t, rfl⟩, fun B => .str _⟩
  · obtain ⟨h1, h2⟩ := ba c
    obtain ⟨h2, h3⟩ := ba h2
    exact ⟨_, .ref _, glo_ok X G h1, rfl, fun B => .tup (tupB_ok h3 B) (flat_v h2 B)⟩
  · cases c
theorem cvB_ok {T : Tx} {t : Str} {cv : Value} (X : K.In h) (G : h.Ns mainGlobals mg) (hf : ∀ x ∈ T.frl, mg x = none) (c : cvB T K t = some cv) : (∃ Ct, mg t = some (.ref Ct) ∧ cv = .ref Ct) ∨ (mg t = none ∧ ∃ T, bootBuiltins t = some (.type T) ∧ cv = .type T) := by
  unfold cvB at c
  split at c
  · rename_i q
    have hm : t ∈ T.frl := List.contains_iff_mem.mp q
    split at c
    · rename_i n e
      cases c
      exact .inr ⟨hf t hm, n, e, rfl⟩
    · cases c
  · split at c
    · rename_i q
      cases c
      exact .inl ⟨_, glo_ok X G q, rfl⟩
    · cases c
theorem tyV_ok {T : Tx} {c : Str} {u : Value} (e : tyV T K c = some u) : letI := T.gam K; TyN K c u := by
  letI := T.gam K
  unfold tyV at e
  show TyN K c u
  unfold TyN
  split at e
  · rename_i n q
    cases e
    first | rfl | rw [q]
  · rename_i q
    try rw [q]
    split at e
    · rename_i z
      cases e
      obtain ⟨h1, h2⟩ := ba z
      obtain ⟨h2, h3⟩ := ba h2
      exact ⟨_, if_pos h1, rfl, isB_ok (cls_ok h2) h3⟩
    · cases e
theorem opt_fn {l : List (Str × Fn)} {f : Str} {n : Nat} (e : (match l.lookup f with
    | some F => decide (F.P = n)
    | none => false) = true) : ∃ F, l.lookup f = some F ∧ F.P = n := by
  cases q : l.lookup f with
  | none => rw [q] at e; cases e
  | some F =>
    rw [q] at e
    exact ⟨F, rfl, of_decide_eq_true e⟩
/-- what is asked of an exception's __init__ -/
def XcOk (K : PySem.W.Frag) (mg : Str → Option Value) (c : Str) (ns : List Str) : Prop := ∃ fd ps, (∀ P w base, FnOk P w K mg base (L2.CX P w) 1 (ma K (ga K c) "__init__") fd ps (SpI K ns)) ∧ Binds K fd ps []
theorem txt_of {T : Tx} (X : K.In h) (G : h.Ns mainGlobals mg) (hk : T.ok K = true) (hs : T.st = true) (hd : letI := T.gam K; ∀ p ∈ T.fnl, Def K p.1 p.2) (hx : ∀ p ∈ T.xcl, XcOk K mg p.1 p.2) :
    letI := T.gam K; Txt K mg T.pg (fun f => T.fnl.lookup f) := by
  letI := T.gam K
  obtain ⟨k1, hk⟩ := ba hk
  obtain ⟨k2, hk⟩ := ba hk
  obtain ⟨k3, hk⟩ := ba hk
  obtain ⟨k4, hk⟩ := ba hk
  obtain ⟨k5, hk⟩ := ba hk
  obtain ⟨k6, hk⟩ := ba hk
  obtain ⟨k7, hk⟩ := ba hk
  obtain ⟨k8, hk⟩ := ba hk
  obtain ⟨k9, hk⟩ := ba hk
  obtain ⟨k10, hk⟩ := ba hk
  obtain ⟨k11, k12⟩ := ba hk
  obtain ⟨s1, hs⟩ := ba hs
  obtain ⟨s2, s3⟩ := ba hs
  have hfree : ∀ x ∈ T.frl, mg x = none := fun x hx => He.free_ok X G (List.all_eq_true.mp k3 x hx)
  have some_mem : ∀ {β : Type} {l : List ((Str × Str) × β)} {k : Str × Str}, (l.lookup k).isSome = true → ∃ b, (k, b) ∈ l := fun {β l k} e => by
    obtain ⟨b, q⟩ := Option.isSome_iff_exists.mp e
    exact ⟨b, lookup_in q⟩
  refine ⟨fun f F e => hd _ (lookup_in e), fun f n e => ?_, fun x w e => cB_ok X G (List.all_eq_true.mp k2 _ (lookup_in e)), hfree, fun c f e => ?_, fun c m n e => ?_, fun c n fz e => ?_, fun c ns e => ?_, fun x e => ?_, fun c x b e => ?_, fun c f e => ?_, fun c t b e => ?_, fun c t b e => ?_⟩
  · have m := lookup_in e
    obtain ⟨a1, a2⟩ := ba (List.all_eq_true.mp k1 _ m)
    obtain ⟨b1, b2⟩ := ba (List.all_eq_true.mp s1 _ m)
    obtain ⟨F, c1, c2⟩ := opt_fn b1
    have e2 : T.path f = (f, none) := of_decide_eq_true b2
    have e3 : Gam.fn f = ga K f := by
      show fAd K (T.path f) = _
      rw [e2]
      rfl
    exact ⟨F, c1, c2, by rw [e3]; exact glo_ok X G a1, by rw [e3]; exact a2⟩
  · obtain ⟨b, m⟩ := some_mem e
    obtain ⟨a1, a2⟩ := ba (List.all_eq_true.mp k4 _ m)
    obtain ⟨a2, a3⟩ := ba a2
    exact ⟨_, if_pos a1, cls_ok a2, noat_ok a3⟩
  · have mm := lookup_in e
    obtain ⟨a1, a2⟩ := ba (List.all_eq_true.mp k5 _ mm)
    obtain ⟨a2, a3⟩ := ba a2
    obtain ⟨b1, b2⟩ := ba (List.all_eq_true.mp s2 _ mm)
    obtain ⟨F, c1, c2⟩ := opt_fn b1
    have e2 : T.path (mName c m) = (c, some m) := of_decide_eq_true b2
    have e3 : Gam.fn (mName c m) = ma K (ga K c) m := by
      show fAd K (T.path (mName c m)) = _
      rw [e2]
      rfl
    exact ⟨_, F, if_pos a1, cls_ok a2, by rw [e3]; exact meth_ok a3, c1, c2⟩
  · have mm := lookup_in e
    obtain ⟨a1, a2⟩ := ba (List.all_eq_true.mp k6 _ mm)
    obtain ⟨a2, a3⟩ := ba a2
    obtain ⟨b1, b2⟩ := ba (List.all_eq_true.mp s3 _ mm)
    obtain ⟨F, c1, c2⟩ := opt_fn b1
    have e2 : T.path (mName c "__init__") = (c, some ("__init__" : Str)) := of_decide_eq_true b2
    have e3 : Gam.fn (mName c "__init__") = ma K (ga K c) "__init__" := by
      show fAd K (T.path (mName c "__init__")) = _
      rw [e2]
      rfl
    exact ⟨_, F, if_pos a1, glo_ok X G a2, by rw [e3]; exact mkr_ok a3, c1, c2⟩
  · have mm := lookup_in e
    obtain ⟨a1, a2⟩ := ba (List.all_eq_true.mp k7 _ mm)
    obtain ⟨a2, a3⟩ := ba a2
    obtain ⟨a3, a4⟩ := ba a3
    obtain ⟨a4, a5⟩ := ba a4
    obtain ⟨fd, ps, b1, b2⟩ := hx _ mm
    exact ⟨_, _, fd, ps, glo_ok X G a1, oexB_ok a2, fun f hf => noat_ok (List.all_eq_true.mp a3 f hf), of_decide_eq_true a4, of_decide_eq_true a5, b1, b2⟩
  · obtain ⟨b, q⟩ := Option.isSome_iff_exists.mp e
    exact ⟨_, glo_ok X G (List.all_eq_true.mp k8 _ (lookup_in q))⟩
  · obtain ⟨a1, a2⟩ := ba (List.all_eq_true.mp k9 _ (lookup_in e))
    obtain ⟨a2, a3⟩ := ba a2
    exact ⟨_, _, glo_ok X G a1, glo_ok X G a2, exm_ok a3⟩
  · obtain ⟨b, m⟩ := some_mem e
    obtain ⟨a1, a2⟩ := ba (List.all_eq_true.mp k10 _ m)
    obtain ⟨a2, a3⟩ := ba a2
    exact ⟨_, glo_ok X G a1, xfB_ok a2, noat_ok a3⟩
  · obtain ⟨a1, a2⟩ := ba (List.all_eq_true.mp k11 _ (lookup_in e))
    obtain ⟨a2, a3⟩ := ba a2
    dsimp only at a3
    split at a3
    · rename_i cv q
      exact ⟨_, cv, glo_ok X G a1, excB_ok a2, of_decide_eq_true a3, cvB_ok X G hfree q⟩
    · cases a3
  · have a := List.all_eq_true.mp k12 _ (lookup_in e)
    dsimp only at a
    split at a
    · rename_i u cv q1 q2
      exact ⟨u, cv, tyV_ok q1, of_decide_eq_true a, cvB_ok X G hfree q2⟩
    · cases a
end
end Mi

set_option Elab.async false
set_option linter.all false
set_option maxRecDepth 100000
set_option maxHeartbeats 0
noncomputable section
namespace K08
open PySem PySem.Spec PyProof.Rows L2 Mi
def top (i : Nat) : Stmt := PySem.Challenge.pw_switchyard_k08_refused_texts.main.body.getD i (.Pass ⟨0, 0, 0, 0⟩)
abbrev s_is_whole : Stmt := top 10
def F_is_whole : Fn := ⟨["value", "low", "high"], 3, defBody s_is_whole, defScope s_is_whole, [], false⟩
abbrev s_is_name : Stmt := top 11
def F_is_name : Fn := ⟨["value", "sign"], 1, defBody s_is_name, defScope s_is_name, [], false⟩
abbrev s_are_names : Stmt := top 12
def F_are_names : Fn := ⟨["value", "least", "most", "one"], 3, defBody s_are_names, defScope s_are_names, [], false⟩
abbrev s_is_type : Stmt := top 13
def F_is_type : Fn := ⟨["value"], 1, defBody s_is_type, defScope s_is_type, [], false⟩
abbrev s_is_number_word : Stmt := top 14
def F_is_number_word : Fn := ⟨["word", "low", "high", "figures", "sign", "number"], 3, defBody s_is_number_word, defScope s_is_number_word, [], false⟩
abbrev s_is_bound : Stmt := top 24
def F_is_bound : Fn := ⟨["high", "low"], 2, defBody s_is_bound, defScope s_is_bound, [], false⟩
abbrev s_is_takes : Stmt := top 25
def F_is_takes : Fn := ⟨["value"], 1, defBody s_is_takes, defScope s_is_takes, [], false⟩
abbrev s_Option___init__ : Stmt := inClass (top 26) 0
def F_Option___init__ : Fn := ⟨["self", "name", "letter", "takes", "low", "high", "is_letter", "rights", "part", "is_right"], 6, defBody s_Option___init__, defScope s_Option___init__, [], false⟩
abbrev s_Operand___init__ : Stmt := inClass (top 27) 0
def F_Operand___init__ : Fn := ⟨["self", "name", "kind", "few", "many"], 5, defBody s_Operand___init__, defScope s_Operand___init__, [], false⟩
abbrev s_are_options : Stmt := top 28
def F_are_options : Fn := ⟨["value", "one"], 1, defBody s_are_options, defScope s_are_options, [], false⟩
abbrev s_are_operands : Stmt := top 29
def F_are_operands : Fn := ⟨["value", "one"], 1, defBody s_are_operands, defScope s_are_operands, [], false⟩
abbrev s_are_commands : Stmt := top 30
def F_are_commands : Fn := ⟨["value", "name", "one"], 1, defBody s_are_commands, defScope s_are_commands, [], false⟩
abbrev s_are_traits : Stmt := top 31
def F_are_traits : Fn := ⟨["value", "commands", "one"], 2, defBody s_are_traits, defScope s_are_traits, [], false⟩
abbrev s_is_condition : Stmt := top 32
def F_is_condition : Fn := ⟨["value", "names", "one"], 2, defBody s_is_condition, defScope s_is_condition, [], false⟩
abbrev s_Table___init__ : Stmt := inClass (top 33) 0
def F_Table___init__ : Fn := ⟨["self", "options", "operands", "commands", "traits", "conditions", "rights", "part", "is_right", "names", "one", "name", "letters"], 6, defBody s_Table___init__, defScope s_Table___init__, [".conditions", ".operands", ".options", ".traits"], false⟩
abbrev s_Table_is_inner : Stmt := inClass (top 33) 2
def F_Table_is_inner : Fn := ⟨["self"], 1, defBody s_Table_is_inner, defScope s_Table_is_inner, [], false⟩
abbrev s_Table_names : Stmt := inClass (top 33) 3
def F_Table_names : Fn := ⟨["self", "found", "one", "table"], 1, defBody s_Table_names, defScope s_Table_names, ["found"], false⟩
abbrev s_Table_letter_rows : Stmt := inClass (top 33) 4
def F_Table_letter_rows : Fn := ⟨["self", "outer", "one", "rows", "table", "mine"], 1, defBody s_Table_letter_rows, defScope s_Table_letter_rows, ["rows"], false⟩
abbrev s_has_twins : Stmt := top 34
def F_has_twins : Fn := ⟨["row"], 1, defBody s_has_twins, defScope s_has_twins, [], false⟩
abbrev s_Line___init__ : Stmt := inClass (top 36) 0
def F_Line___init__ : Fn := ⟨["self", "number", "row", "at", "sign"], 3, defBody s_Line___init__, defScope s_Line___init__, [".columns", ".words"], true⟩
abbrev s_Line__put : Stmt := inClass (top 36) 1
def F_Line__put : Fn := ⟨["self", "at", "sign", "row"], 4, defBody s_Line__put, defScope s_Line__put, [], false⟩
abbrev s_Line_peek : Stmt := inClass (top 36) 2
def F_Line_peek : Fn := ⟨["self"], 1, defBody s_Line_peek, defScope s_Line_peek, [], false⟩
abbrev s_Line_refuse : Stmt := inClass (top 36) 3
def F_Line_refuse : Fn := ⟨["self"], 1, defBody s_Line_refuse, defScope s_Line_refuse, [], false⟩
abbrev s_Line_take : Stmt := inClass (top 36) 4
def F_Line_take : Fn := ⟨["self", "is_right"], 2, defBody s_Line_take, defScope s_Line_take, [], false⟩
abbrev s_Line_end : Stmt := inClass (top 36) 5
def F_Line_end : Fn := ⟨["self"], 1, defBody s_Line_end, defScope s_Line_end, [], false⟩
abbrev s_span_of : Stmt := top 37
def F_span_of : Fn := ⟨["word", "low", "dots", "high"], 1, defBody s_span_of, defScope s_span_of, [], false⟩
abbrev s_limits_of : Stmt := top 38
def F_limits_of : Fn := ⟨["word", "at", "low", "high"], 1, defBody s_limits_of, defScope s_limits_of, [], false⟩
abbrev s_number_of : Stmt := top 39
def F_number_of : Fn := ⟨["word"], 1, defBody s_number_of, defScope s_number_of, [], false⟩
abbrev s_read_span : Stmt := top 40
def F_read_span : Fn := ⟨["line", "found"], 1, defBody s_read_span, defScope s_read_span, [], false⟩
abbrev s_read_kind : Stmt := top 41
def F_read_kind : Fn := ⟨["line", "word", "names", "limits"], 1, defBody s_read_kind, defScope s_read_kind, [], false⟩
abbrev s_read_takes : Stmt := top 42
def F_read_takes : Fn := ⟨["line", "word", "kind"], 1, defBody s_read_takes, defScope s_read_takes, [], false⟩
abbrev s_read_option : Stmt := top 43
def F_read_option : Fn := ⟨["line", "name", "sign", "letter", "takes", "low", "high"], 1, defBody s_read_option, defScope s_read_option, [], false⟩
abbrev s_read_operand : Stmt := top 44
def F_read_operand : Fn := ⟨["line", "name", "kind", "few", "many"], 1, defBody s_read_operand, defScope s_read_operand, [], false⟩
abbrev s_read_condition : Stmt := top 45
def F_read_condition : Fn := ⟨["line", "word", "names"], 2, defBody s_read_condition, defScope s_read_condition, ["names"], false⟩
abbrev s_Parts___init__ : Stmt := inClass (top 46) 0
def F_Parts___init__ : Fn := ⟨["self"], 1, defBody s_Parts___init__, defScope s_Parts___init__, [".conditions", ".operands", ".options", ".traits"], true⟩
abbrev s_Parts_put : Stmt := inClass (top 46) 1
def F_Parts_put : Fn := ⟨["self", "line", "word"], 2, defBody s_Parts_put, defScope s_Parts_put, [], false⟩
abbrev s_read_table : Stmt := top 47
def F_read_table : Fn := ⟨["text", "outer", "inner", "now", "number", "row", "line", "name", "commands", "parts"], 1, defBody s_read_table, defScope s_read_table, ["commands", "inner"], false⟩
abbrev s__law_number : Stmt := top 49
def F__law_number : Fn := ⟨["script", "index", "cell", "turn", "rest", "step", "blend"], 2, defBody s__law_number, defScope s__law_number, [], false⟩
abbrev s__law_take : Stmt := top 50
def F__law_take : Fn := ⟨["draw", "many"], 2, defBody s__law_take, defScope s__law_take, ["draw"], false⟩
abbrev s__law_pick : Stmt := top 51
def F__law_pick : Fn := ⟨["draw", "items"], 2, defBody s__law_pick, defScope s__law_pick, [], false⟩
abbrev s__law_refused : Stmt := top 52
def F__law_refused : Fn := ⟨["text", "fault"], 1, defBody s__law_refused, defScope s__law_refused, [], false⟩
abbrev s__law_known : Stmt := top 53
def F__law_known : Fn := ⟨["rows"], 0, defBody s__law_known, defScope s__law_known, [], false⟩
abbrev s__law_place : Stmt := top 54
def F__law_place : Fn := ⟨["line", "number", "at", "words"], 2, defBody s__law_place, defScope s__law_place, [], false⟩
abbrev s_law : Stmt := top 55
def F_law : Fn := ⟨["script", "draw", "turn", "line", "number", "ahead", "blanks", "text", "rows", "at", "due"], 1, defBody s_law, defScope s_law, ["draw", "rows"], false⟩
def fnl : List (Str × Fn) := ([("is_whole", F_is_whole), ("is_name", F_is_name), ("are_names", F_are_names), ("is_type", F_is_type), ("is_number_word", F_is_number_word), ("is_bound", F_is_bound), ("is_takes", F_is_takes), ("Option.__init__", F_Option___init__), ("Operand.__init__", F_Operand___init__), ("are_options", F_are_options), ("are_operands", F_are_operands), ("are_commands", F_are_commands), ("are_traits", F_are_traits), ("is_condition", F_is_condition), ("Table.__init__", F_Table___init__), ("Table.is_inner", F_Table_is_inner), ("Table.names", F_Table_names), ("Table.letter_rows", F_Table_letter_rows), ("has_twins", F_has_twins), ("Line.__init__", F_Line___init__)] : List (Str × Fn)) ++ ([("Line._put", F_Line__put), ("Line.peek", F_Line_peek), ("Line.refuse", F_Line_refuse), ("Line.take", F_Line_take), ("Line.end", F_Line_end), ("span_of", F_span_of), ("limits_of", F_limits_of), ("number_of", F_number_of), ("read_span", F_read_span), ("read_kind", F_read_kind), ("read_takes", F_read_takes), ("read_option", F_read_option), ("read_operand", F_read_operand), ("read_condition", F_read_condition), ("Parts.__init__", F_Parts___init__), ("Parts.put", F_Parts_put), ("read_table", F_read_table), ("_law_number", F__law_number), ("_law_take", F__law_take), ("_law_pick", F__law_pick)] : List (Str × Fn)) ++ ([("_law_refused", F__law_refused), ("_law_known", F__law_known), ("_law_place", F__law_place), ("law", F_law)] : List (Str × Fn))
def fns (f : Str) : Option Fn := fnl.lookup f
def csts : List (Str × W) := [("SMALL", .str "abcdefghijklmnopqrstuvwxyz"), ("FIGURES", .str "0123456789"), ("MOST_CHOSEN", .int (8)), ("FAR", .int (99)), ("MOST_OPTIONS", .int (8)), ("MOST_INNER", .int (4)), ("MOST_OPERANDS", .int (3)), ("MOST_COMMANDS", .int (3)), ("MOST_TIMES", .int (9)), ("MOST_CONDITIONS", .int (3)), ("TRAITS", .tup [.str "abbreviated", .str "alone", .str "dashed", .str "ends", .str "far", .str "guessed", .str "mixed"]), ("OUTER_TRAITS", .tup [.str "alone", .str "far"])]
def arl : List (Str × Nat) := ([("is_whole", 3), ("is_name", 1), ("are_names", 3), ("is_type", 1), ("is_number_word", 3), ("is_bound", 2), ("is_takes", 1), ("are_options", 1), ("are_operands", 1), ("are_commands", 1), ("are_traits", 2), ("is_condition", 2), ("has_twins", 1), ("span_of", 1), ("limits_of", 1), ("number_of", 1), ("read_span", 1), ("read_kind", 1), ("read_takes", 1), ("read_option", 1)] : List (Str × Nat)) ++ ([("read_operand", 1), ("read_condition", 2), ("read_table", 1), ("_law_number", 2), ("_law_take", 2), ("_law_pick", 2), ("_law_refused", 1), ("_law_known", 0), ("_law_place", 2), ("law", 1)] : List (Str × Nat))
def fldl : List ((Str × Str) × Unit) := ([(("Option", "name"), ()), (("Option", "letter"), ()), (("Option", "takes"), ()), (("Option", "low"), ()), (("Option", "high"), ()), (("Operand", "name"), ()), (("Operand", "kind"), ()), (("Operand", "few"), ()), (("Operand", "many"), ()), (("Table", "options"), ()), (("Table", "operands"), ()), (("Table", "commands"), ()), (("Table", "traits"), ()), (("Table", "conditions"), ()), (("Line", "number"), ()), (("Line", "words"), ()), (("Line", "columns"), ()), (("Line", "behind"), ()), (("Line", "at"), ()), (("Parts", "options"), ())] : List ((Str × Str) × Unit)) ++ ([(("Parts", "operands"), ()), (("Parts", "traits"), ()), (("Parts", "conditions"), ())] : List ((Str × Str) × Unit))
def mtl : List ((Str × Str) × Nat) := ([(("Table", "is_inner"), 0), (("Table", "names"), 0), (("Table", "letter_rows"), 0), (("Line", "_put"), 3), (("Line", "peek"), 0), (("Line", "refuse"), 0), (("Line", "take"), 1), (("Line", "end"), 0), (("Parts", "put"), 1)] : List ((Str × Str) × Nat))
def newl : List (Str × (Nat × Bool)) := ([("Option", (5, true)), ("Operand", (4, true)), ("Table", (5, true)), ("Line", (2, false)), ("Parts", (0, false))] : List (Str × (Nat × Bool)))
def xcl : List (Str × List Str) := ([("BadPart", ["part"]), ("BadText", ["line", "column"])] : List (Str × List Str))
def exkl : List (Str × Unit) := ([("BadText", ()), ("BadPart", ())] : List (Str × Unit))
def exml : List ((Str × Str) × Bool) := ([(("BadPart", "BadText"), false), (("BadPart", "BadPart"), true), (("BadText", "BadText"), true), (("BadText", "BadPart"), false)] : List ((Str × Str) × Bool))
def exfl : List ((Str × Str) × Unit) := ([(("BadPart", "part"), ()), (("BadText", "line"), ()), (("BadText", "column"), ())] : List ((Str × Str) × Unit))
def exil : List ((Str × Str) × Bool) := ([(("BadPart", "int"), false), (("BadPart", "bool"), false), (("BadPart", "str"), false), (("BadPart", "list"), false), (("BadPart", "tuple"), false), (("BadPart", "Option"), false), (("BadPart", "Operand"), false), (("BadPart", "dict"), false), (("BadPart", "Table"), false), (("BadPart", "SwitchError"), true), (("BadText", "int"), false), (("BadText", "bool"), false), (("BadText", "str"), false), (("BadText", "list"), false), (("BadText", "tuple"), false), (("BadText", "Option"), false), (("BadText", "Operand"), false), (("BadText", "dict"), false), (("BadText", "Table"), false), (("BadText", "SwitchError"), true)] : List ((Str × Str) × Bool))
def isil : List ((Str × Str) × Bool) := ([(("NoneType", "int"), false), (("NoneType", "bool"), false), (("NoneType", "str"), false), (("NoneType", "list"), false), (("NoneType", "tuple"), false), (("NoneType", "Option"), false), (("NoneType", "Operand"), false), (("NoneType", "dict"), false), (("NoneType", "Table"), false), (("NoneType", "SwitchError"), false), (("bool", "int"), true), (("bool", "bool"), true), (("bool", "str"), false), (("bool", "list"), false), (("bool", "tuple"), false), (("bool", "Option"), false), (("bool", "Operand"), false), (("bool", "dict"), false), (("bool", "Table"), false), (("bool", "SwitchError"), false)] : List ((Str × Str) × Bool)) ++ ([(("int", "int"), true), (("int", "bool"), false), (("int", "str"), false), (("int", "list"), false), (("int", "tuple"), false), (("int", "Option"), false), (("int", "Operand"), false), (("int", "dict"), false), (("int", "Table"), false), (("int", "SwitchError"), false), (("str", "int"), false), (("str", "bool"), false), (("str", "str"), true), (("str", "list"), false), (("str", "tuple"), false), (("str", "Option"), false), (("str", "Operand"), false), (("str", "dict"), false), (("str", "Table"), false), (("str", "SwitchError"), false)] : List ((Str × Str) × Bool)) ++ ([(("tuple", "int"), false), (("tuple", "bool"), false), (("tuple", "str"), false), (("tuple", "list"), false), (("tuple", "tuple"), true), (("tuple", "Option"), false), (("tuple", "Operand"), false), (("tuple", "dict"), false), (("tuple", "Table"), false), (("tuple", "SwitchError"), false), (("list", "int"), false), (("list", "bool"), false), (("list", "str"), false), (("list", "list"), true), (("list", "tuple"), false), (("list", "Option"), false), (("list", "Operand"), false), (("list", "dict"), false), (("list", "Table"), false), (("list", "SwitchError"), false)] : List ((Str × Str) × Bool)) ++ ([(("dict", "int"), false), (("dict", "bool"), false), (("dict", "str"), false), (("dict", "list"), false), (("dict", "tuple"), false), (("dict", "Option"), false), (("dict", "Operand"), false), (("dict", "dict"), true), (("dict", "Table"), false), (("dict", "SwitchError"), false), (("Option", "int"), false), (("Option", "bool"), false), (("Option", "str"), false), (("Option", "list"), false), (("Option", "tuple"), false), (("Option", "Option"), true), (("Option", "Operand"), false), (("Option", "dict"), false), (("Option", "Table"), false), (("Option", "SwitchError"), false)] : List ((Str × Str) × Bool)) ++ ([(("Operand", "int"), false), (("Operand", "bool"), false), (("Operand", "str"), false), (("Operand", "list"), false), (("Operand", "tuple"), false), (("Operand", "Option"), false), (("Operand", "Operand"), true), (("Operand", "dict"), false), (("Operand", "Table"), false), (("Operand", "SwitchError"), false), (("Table", "int"), false), (("Table", "bool"), false), (("Table", "str"), false), (("Table", "list"), false), (("Table", "tuple"), false), (("Table", "Option"), false), (("Table", "Operand"), false), (("Table", "dict"), false), (("Table", "Table"), true), (("Table", "SwitchError"), false)] : List ((Str × Str) × Bool)) ++ ([(("Line", "int"), false), (("Line", "bool"), false), (("Line", "str"), false), (("Line", "list"), false), (("Line", "tuple"), false), (("Line", "Option"), false), (("Line", "Operand"), false), (("Line", "dict"), false), (("Line", "Table"), false), (("Line", "SwitchError"), false), (("Parts", "int"), false), (("Parts", "bool"), false), (("Parts", "str"), false), (("Parts", "list"), false), (("Parts", "tuple"), false), (("Parts", "Option"), false), (("Parts", "Operand"), false), (("Parts", "dict"), false), (("Parts", "Table"), false), (("Parts", "SwitchError"), false)] : List ((Str × Str) × Bool))
def pthl : List (Str × Pth) := ([("is_whole", ("is_whole", none)), ("is_name", ("is_name", none)), ("are_names", ("are_names", none)), ("is_type", ("is_type", none)), ("is_number_word", ("is_number_word", none)), ("is_bound", ("is_bound", none)), ("is_takes", ("is_takes", none)), ("Option.__init__", ("Option", some "__init__")), ("Operand.__init__", ("Operand", some "__init__")), ("are_options", ("are_options", none)), ("are_operands", ("are_operands", none)), ("are_commands", ("are_commands", none)), ("are_traits", ("are_traits", none)), ("is_condition", ("is_condition", none)), ("Table.__init__", ("Table", some "__init__")), ("Table.is_inner", ("Table", some "is_inner")), ("Table.names", ("Table", some "names")), ("Table.letter_rows", ("Table", some "letter_rows")), ("has_twins", ("has_twins", none)), ("Line.__init__", ("Line", some "__init__"))] : List (Str × Pth)) ++ ([("Line._put", ("Line", some "_put")), ("Line.peek", ("Line", some "peek")), ("Line.refuse", ("Line", some "refuse")), ("Line.take", ("Line", some "take")), ("Line.end", ("Line", some "end")), ("span_of", ("span_of", none)), ("limits_of", ("limits_of", none)), ("number_of", ("number_of", none)), ("read_span", ("read_span", none)), ("read_kind", ("read_kind", none)), ("read_takes", ("read_takes", none)), ("read_option", ("read_option", none)), ("read_operand", ("read_operand", none)), ("read_condition", ("read_condition", none)), ("Parts.__init__", ("Parts", some "__init__")), ("Parts.put", ("Parts", some "put")), ("read_table", ("read_table", none)), ("_law_number", ("_law_number", none)), ("_law_take", ("_law_take", none)), ("_law_pick", ("_law_pick", none))] : List (Str × Pth)) ++ ([("_law_refused", ("_law_refused", none)), ("_law_known", ("_law_known", none)), ("_law_place", ("_law_place", none)), ("law", ("law", none))] : List (Str × Pth))
def tx : Tx := ⟨fnl, csts, arl, ["all", "any", "bool", "dict", "enumerate", "int", "isinstance", "len", "list", "max", "range", "set", "sorted", "str", "tuple"], fldl, mtl, newl, xcl, exkl, exml, exfl, exil, isil, ["Option", "Operand", "Table", "Line", "Parts"], pthl⟩
def pg : Pg := tx.pg
def c_is_whole (cl : Cl) : List CS := [sRet (xBool .And [(xIsi pg (xV 0) "int"), (xNot (xIsi pg (xV 0) "bool")), (xChain .LtE .LtE (xV 1) (xV 0) (xV 2))])]
theorem b_is_whole (cl : Cl) (ws : List W) (S : Sto) : bodyR pg cl F_is_whole ws S = seqC (c_is_whole cl) (startE F_is_whole.N ws) S := by
  kernel_rfl
def c_is_name (cl : Cl) : List CS := [sIf (cBool .Or [(cNot (cTru (xIsi pg (xV 0) "str"))), (cNot (cChain .LtE .LtE (xC (.int 1)) (xBlt "len" [(xV 0)]) (xC (.int 8)))), (cCmp .NotIn (xIx (xV 0) (xC (.int 0))) (xC (.str "abcdefghijklmnopqrstuvwxyz")))]) [sRet (xC (.bl false))] [],
    sRet (xBlt "all" [(xLcD 0 (pV 0) (bN 1) [1] (iOf (xV 0)) none (xBool .Or [(xCmp .In (xV 1) (xC (.str "abcdefghijklmnopqrstuvwxyz"))), (xCmp .In (xV 1) (xC (.str "0123456789")))]))])]
theorem b_is_name (cl : Cl) (ws : List W) (S : Sto) : bodyR pg cl F_is_name ws S = seqC (c_is_name cl) (startE F_is_name.N ws) S := by
  kernel_rfl
def c_are_names (cl : Cl) : List CS := [sIf (cBool .Or [(cNot (cTru (xIsiT pg (xV 0) ["list", "tuple"]))), (cNot (cChain .LtE .LtE (xV 1) (xBlt "len" [(xV 0)]) (xV 2)))]) [sRet (xC (.bl false))] [],
    sRet (xBool .And [(xBlt "all" [(xLcD 0 (pV 0) (bN 3) [3] (iOf (xV 0)) none (xCall cl "is_name" 1 [(xV 3)]))]), (xCmp .Eq (xLenSet (xV 0)) (xBlt "len" [(xV 0)]))])]
theorem b_are_names (cl : Cl) (ws : List W) (S : Sto) : bodyR pg cl F_are_names ws S = seqC (c_are_names cl) (startE F_are_names.N ws) S := by
  kernel_rfl
def c_is_type (cl : Cl) : List CS := [sIf (cBool .Or [(cNot (cTru (xIsi pg (xV 0) "tuple"))), (cCmp .Eq (xV 0) (xTup []))]) [sRet (xC (.bl false))] [],
    sIf (cCmp .Eq (xIx (xV 0) (xC (.int 0))) (xC (.str "any"))) [sRet (xCmp .Eq (xBlt "len" [(xV 0)]) (xC (.int 1)))] [],
    sIf (cCmp .Eq (xIx (xV 0) (xC (.int 0))) (xC (.str "chosen"))) [sRet (xCall cl "are_names" 3 [(xSl (xV 0) (some (xC (.int 1))) none), (xC (.int 1)), (xC (.int 8))])] [],
    sIf (cBool .Or [(cCmp .NotEq (xIx (xV 0) (xC (.int 0))) (xC (.str "number"))), (cCmp .NotEq (xBlt "len" [(xV 0)]) (xC (.int 3))), (cNot (cTru (xCall cl "is_whole" 3 [(xIx (xV 0) (xC (.int 1))), (xNeg (xC (.int 99))), (xC (.int 99))])))]) [sRet (xC (.bl false))] [],
    sRet (xCall cl "is_whole" 3 [(xIx (xV 0) (xC (.int 2))), (xIx (xV 0) (xC (.int 1))), (xC (.int 99))])]
theorem b_is_type (cl : Cl) (ws : List W) (S : Sto) : bodyR pg cl F_is_type ws S = seqC (c_is_type cl) (startE F_is_type.N ws) S := by
  kernel_rfl
def c_is_number_word (cl : Cl) : List CS := [sSet 3 (xIf (cCmp .Eq (xSl (xV 0) none (some (xC (.int 1)))) (xC (.str "-"))) (xSl (xV 0) (some (xC (.int 1))) none) (xV 0)),
    sIf (cBool .Or [(cCmp .Eq (xV 3) (xC (.str ""))), (cCmp .Gt (xBlt "len" [(xV 3)]) (xC (.int 2))), (cNot (cTru (xBlt "all" [(xLcD 0 (pV 3) (bN 4) [4] (iOf (xV 3)) none (xCmp .In (xV 4) (xC (.str "0123456789"))))])))]) [sRet (xC (.bl false))] [],
    sIf (cBool .And [(cCmp .Eq (xIx (xV 3) (xC (.int 0))) (xC (.str "0"))), (cCmp .NotEq (xV 0) (xC (.str "0")))]) [sRet (xC (.bl false))] [],
    sSet 5 (xIf (cCmp .Eq (xV 3) (xV 0)) (xBlt "int" [(xV 3)]) (xBin .Sub (xC (.int 0)) (xBlt "int" [(xV 3)]))),
    sRet (xChain .LtE .LtE (xV 1) (xV 5) (xV 2))]
theorem b_is_number_word (cl : Cl) (ws : List W) (S : Sto) : bodyR pg cl F_is_number_word ws S = seqC (c_is_number_word cl) (startE F_is_number_word.N ws) S := by
  kernel_rfl
def c_is_bound (cl : Cl) : List CS := [sRet (xBool .Or [(xCmp .Is (xV 0) (xC (.non))), (xCall cl "is_whole" 3 [(xV 0), (xBlt "max" [(xC (.int 1)), (xV 1)]), (xC (.int 9))])])]
theorem b_is_bound (cl : Cl) (ws : List W) (S : Sto) : bodyR pg cl F_is_bound ws S = seqC (c_is_bound cl) (startE F_is_bound.N ws) S := by
  kernel_rfl
def c_is_takes (cl : Cl) : List CS := [sIf (cCmp .Eq (xV 0) (xTup [(xC (.str "nothing"))])) [sRet (xC (.bl true))] [],
    sIf (cBool .Or [(cNot (cTru (xIsi pg (xV 0) "tuple"))), (cCmp .Lt (xBlt "len" [(xV 0)]) (xC (.int 2))), (cNot (cTru (xCall cl "is_type" 1 [(xIx (xV 0) (xC (.int 1)))])))]) [sRet (xC (.bl false))] [],
    sIf (cCmp .In (xIx (xV 0) (xC (.int 0))) (xTup [(xC (.str "one")), (xC (.str "maybe"))])) [sRet (xCmp .Eq (xBlt "len" [(xV 0)]) (xC (.int 2)))] [],
    sRet (xBool .And [(xCmp .Eq (xIx (xV 0) (xC (.int 0))) (xC (.str "some"))), (xCmp .Eq (xBlt "len" [(xV 0)]) (xC (.int 4))), (xCall cl "is_whole" 3 [(xIx (xV 0) (xC (.int 2))), (xC (.int 0)), (xC (.int 9))]), (xCall cl "is_bound" 2 [(xIx (xV 0) (xC (.int 3))), (xIx (xV 0) (xC (.int 2)))])])]
theorem b_is_takes (cl : Cl) (ws : List W) (S : Sto) : bodyR pg cl F_is_takes ws S = seqC (c_is_takes cl) (startE F_is_takes.N ws) S := by
  kernel_rfl
def c_Option___init__ (cl : Cl) : List CS := [sSet 6 (xBool .And [(xIsi pg (xV 2) "str"), (xBool .Or [(xCmp .Eq (xV 2) (xC (.str ""))), (xBool .And [(xCmp .Eq (xBlt "len" [(xV 2)]) (xC (.int 1))), (xCmp .In (xV 2) (xC (.str "abcdefghijklmnopqrstuvwxyz")))])])]),
    sSet 7 (xTup [(xTup [(xC (.str "name")), (xCall cl "is_name" 1 [(xV 1)])]), (xTup [(xC (.str "letter")), (xV 6)]), (xTup [(xC (.str "takes")), (xCall cl "is_takes" 1 [(xV 3)])]), (xTup [(xC (.str "low")), (xCall cl "is_whole" 3 [(xV 4), (xC (.int 0)), (xC (.int 9))])])]),
    sForD 0 (pV 7) (bindTs [8, 9]) (iOf (xV 7)) [sIf (cNot (cTru (xV 9))) [sRaise "BadPart" ["part"] [(xV 8)]] []],
    sIf (cNot (cTru (xCall cl "is_bound" 2 [(xV 5), (xV 4)]))) [sRaise "BadPart" ["part"] [(xC (.str "high"))]] [],
    sAtt pg (xV 0) "name" (xV 1),
    sAtt pg (xV 0) "letter" (xV 2),
    sAtt pg (xV 0) "takes" (xV 3),
    sAtt pg (xV 0) "low" (xV 4),
    sAtt pg (xV 0) "high" (xV 5)]
theorem b_Option___init__ (cl : Cl) (ws : List W) (S : Sto) : bodyR pg cl F_Option___init__ ws S = seqC (c_Option___init__ cl) (startE F_Option___init__.N ws) S := by
  kernel_rfl
def c_Operand___init__ (cl : Cl) : List CS := [sIf (cNot (cTru (xCall cl "is_name" 1 [(xV 1)]))) [sRaise "BadPart" ["part"] [(xC (.str "name"))]] [],
    sIf (cNot (cTru (xCall cl "is_type" 1 [(xV 2)]))) [sRaise "BadPart" ["part"] [(xC (.str "kind"))]] [],
    sIf (cNot (cTru (xCall cl "is_whole" 3 [(xV 3), (xC (.int 0)), (xC (.int 9))]))) [sRaise "BadPart" ["part"] [(xC (.str "few"))]] [],
    sIf (cNot (cTru (xCall cl "is_bound" 2 [(xV 4), (xV 3)]))) [sRaise "BadPart" ["part"] [(xC (.str "many"))]] [],
    sAtt pg (xV 0) "name" (xV 1),
    sAtt pg (xV 0) "kind" (xV 2),
    sAtt pg (xV 0) "few" (xV 3),
    sAtt pg (xV 0) "many" (xV 4)]
theorem b_Operand___init__ (cl : Cl) (ws : List W) (S : Sto) : bodyR pg cl F_Operand___init__ ws S = seqC (c_Operand___init__ cl) (startE F_Operand___init__.N ws) S := by
  kernel_rfl
def c_are_options (cl : Cl) : List CS := [sIf (cBool .Or [(cNot (cTru (xIsiT pg (xV 0) ["list", "tuple"]))), (cCmp .Gt (xBlt "len" [(xV 0)]) (xC (.int 8)))]) [sRet (xC (.bl false))] [],
    sRet (xBlt "all" [(xLcD 0 (pV 0) (bN 1) [1] (iOf (xV 0)) none (xIsi pg (xV 1) "Option"))])]
theorem b_are_options (cl : Cl) (ws : List W) (S : Sto) : bodyR pg cl F_are_options ws S = seqC (c_are_options cl) (startE F_are_options.N ws) S := by
  kernel_rfl
def c_are_operands (cl : Cl) : List CS := [sIf (cBool .Or [(cNot (cTru (xIsiT pg (xV 0) ["list", "tuple"]))), (cCmp .Gt (xBlt "len" [(xV 0)]) (xC (.int 3)))]) [sRet (xC (.bl false))] [],
    sRet (xBlt "all" [(xLcD 0 (pV 0) (bN 1) [1] (iOf (xV 0)) none (xIsi pg (xV 1) "Operand"))])]
theorem b_are_operands (cl : Cl) (ws : List W) (S : Sto) : bodyR pg cl F_are_operands ws S = seqC (c_are_operands cl) (startE F_are_operands.N ws) S := by
  kernel_rfl
def c_are_commands (cl : Cl) : List CS := [sIf (cBool .Or [(cNot (cTru (xIsi pg (xV 0) "dict"))), (cCmp .Gt (xBlt "len" [(xV 0)]) (xC (.int 3))), (cNot (cTru (xBlt "all" [(xLcD 0 (pV 0) (bN 1) [1] (iOf (xV 0)) none (xCall cl "is_name" 1 [(xV 1)]))])))]) [sRet (xC (.bl false))] [],
    sRet (xBlt "all" [(xLcD 1 (pV 0) (bN 2) [2] (iOf (xMeth pg cl (xV 0) "values" [] mNo)) none (xBool .And [(xIsi pg (xV 2) "Table"), (xMeth pg cl (xV 2) "is_inner" [] mNo)]))])]
theorem b_are_commands (cl : Cl) (ws : List W) (S : Sto) : bodyR pg cl F_are_commands ws S = seqC (c_are_commands cl) (startE F_are_commands.N ws) S := by
  kernel_rfl
def c_are_traits (cl : Cl) : List CS := [sIf (cBool .Or [(cNot (cTru (xIsiT pg (xV 0) ["list", "tuple"]))), (cNot (cTru (xBlt "all" [(xLcD 0 (pV 0) (bN 2) [2] (iOf (xV 0)) none (xBool .And [(xIsi pg (xV 2) "str"), (xCmp .In (xV 2) (xC (.tup [.str "abbreviated", .str "alone", .str "dashed", .str "ends", .str "far", .str "guessed", .str "mixed"])))]))])))]) [sRet (xC (.bl false))] [],
    sIf (cBool .Or [(cCmp .Lt (xLenSet (xV 0)) (xBlt "len" [(xV 0)])), (cBool .And [(cCmp .In (xC (.str "abbreviated")) (xV 0)), (cCmp .In (xC (.str "guessed")) (xV 0))])]) [sRet (xC (.bl false))] [],
    sRet (xBool .Or [(xCmp .NotEq (xV 1) xDct0), (xNot (xBlt "any" [(xLcD 0 (pV 0) (bN 2) [2] (iOf (xV 0)) none (xCmp .In (xV 2) (xC (.tup [.str "alone", .str "far"]))))]))])]
theorem b_are_traits (cl : Cl) (ws : List W) (S : Sto) : bodyR pg cl F_are_traits ws S = seqC (c_are_traits cl) (startE F_are_traits.N ws) S := by
  kernel_rfl
def c_is_condition (cl : Cl) : List CS := [sIf (cBool .Or [(cNot (cTru (xIsi pg (xV 0) "tuple"))), (cCmp .Lt (xBlt "len" [(xV 0)]) (xC (.int 2)))]) [sRet (xC (.bl false))] [],
    sIf (cCmp .In (xIx (xV 0) (xC (.int 0))) (xTup [(xC (.str "needs")), (xC (.str "without"))])) [sRet (xBool .And [(xCmp .Eq (xBlt "len" [(xV 0)]) (xC (.int 3))), (xCall cl "are_names" 3 [(xSl (xV 0) (some (xC (.int 1))) none), (xC (.int 2)), (xC (.int 2))]), (xCmp .In (xIx (xV 0) (xC (.int 1))) (xV 1)), (xCmp .In (xIx (xV 0) (xC (.int 2))) (xV 1))])] [],
    sIf (cBool .Or [(cCmp .NotEq (xIx (xV 0) (xC (.int 0))) (xC (.str "some"))), (cCmp .NotEq (xBlt "len" [(xV 0)]) (xC (.int 2))), (cNot (cTru (xIsi pg (xIx (xV 0) (xC (.int 1))) "tuple")))]) [sRet (xC (.bl false))] [],
    sRet (xBool .And [(xCall cl "are_names" 3 [(xIx (xV 0) (xC (.int 1))), (xC (.int 1)), (xC (.int 8))]), (xBlt "all" [(xLcF false (bN 2) [2] (iOf (xIx (xV 0) (xC (.int 1)))) none (xCmp .In (xV 2) (xV 1)))])])]
theorem b_is_condition (cl : Cl) (ws : List W) (S : Sto) : bodyR pg cl F_is_condition ws S = seqC (c_is_condition cl) (startE F_is_condition.N ws) S := by
  kernel_rfl
def c_Table___init__ (cl : Cl) : List CS := [sSet 3 (xIf (cCmp .Is (xV 3) (xC (.non))) xDct0 (xV 3)),
    sSet 6 (xTup [(xTup [(xC (.str "options")), (xCall cl "are_options" 1 [(xV 1)])]), (xTup [(xC (.str "operands")), (xCall cl "are_operands" 1 [(xV 2)])]), (xTup [(xC (.str "commands")), (xCall cl "are_commands" 1 [(xV 3)])])]),
    sForD 0 (pV 6) (bindTs [7, 8]) (iOf (xV 6)) [sIf (cNot (cTru (xV 8))) [sRaise "BadPart" ["part"] [(xV 7)]] []],
    sIf (cNot (cTru (xCall cl "are_traits" 2 [(xV 4), (xV 3)]))) [sRaise "BadPart" ["part"] [(xC (.str "traits"))]] [],
    sSet 9 (xLcF false (bN 10) [10] (iOf (xV 1)) none (xAt pg (xV 10) "name")),
    sIf (cBool .Or [(cNot (cTru (xIsiT pg (xV 5) ["list", "tuple"]))), (cCmp .Gt (xBlt "len" [(xV 5)]) (xC (.int 3)))]) [sRaise "BadPart" ["part"] [(xC (.str "conditions"))]] [],
    sIf (cNot (cTru (xBlt "all" [(xLcD 0 (pV 5) (bN 10) [10] (iOf (xV 5)) none (xCall cl "is_condition" 2 [(xV 10), (xV 9)]))]))) [sRaise "BadPart" ["part"] [(xC (.str "conditions"))]] [],
    sAtt pg (xV 0) "options" (xBlt "tuple" [(xV 1)]),
    sAtt pg (xV 0) "operands" (xBlt "tuple" [(xV 2)]),
    sAtt pg (xV 0) "commands" (xDc (bN 11) [11] (iOf (xBlt "sorted" [(xV 3)])) none (xV 11) (xIx (xV 3) (xV 11))),
    sAtt pg (xV 0) "traits" (xBlt "tuple" [(xBlt "sorted" [(xV 4)])]),
    sAtt pg (xV 0) "conditions" (xBlt "tuple" [(xV 5)]),
    sIf (cTru (xCall cl "has_twins" 1 [(xMeth pg cl (xV 0) "names" [] mNo)])) [sRaise "BadPart" ["part"] [(xC (.str "names"))]] [],
    sIf (cTru (xBlt "any" [(xLcF false (bN 12) [12] (iOf (xMeth pg cl (xV 0) "letter_rows" [] mNo)) none (xCall cl "has_twins" 1 [(xV 12)]))])) [sRaise "BadPart" ["part"] [(xC (.str "letters"))]] []]
theorem b_Table___init__ (cl : Cl) (ws : List W) (S : Sto) : bodyR pg cl F_Table___init__ ws S = seqC (c_Table___init__ cl) (startE F_Table___init__.N ws) S := by
  kernel_rfl
def c_Table_is_inner (cl : Cl) : List CS := [sRet (xBool .And [(xCmp .Eq (xAt pg (xV 0) "commands") xDct0), (xCmp .LtE (xBlt "len" [(xAt pg (xV 0) "options")]) (xC (.int 4)))])]
theorem b_Table_is_inner (cl : Cl) (ws : List W) (S : Sto) : bodyR pg cl F_Table_is_inner ws S = seqC (c_Table_is_inner cl) (startE F_Table_is_inner.N ws) S := by
  kernel_rfl
def c_Table_names (cl : Cl) : List CS := [sSet 1 (xLcF true (bN 2) [2] (iOf (xLstS [(true, (xAt pg (xV 0) "options")), (true, (xAt pg (xV 0) "operands"))])) none (xAt pg (xV 2) "name")),
    sForD 1 (pA pg 0 "commands") (bN 3) (iOf (xMeth pg cl (xAt pg (xV 0) "commands") "values" [] mNo)) [sAug 1 (xMeth pg cl (xV 3) "names" [] mNo)],
    sRet (xV 1)]
theorem b_Table_names (cl : Cl) (ws : List W) (S : Sto) : bodyR pg cl F_Table_names ws S = seqC (c_Table_names cl) (startE F_Table_names.N ws) S := by
  kernel_rfl
def c_Table_letter_rows (cl : Cl) : List CS := [sSet 1 (xLcF false (bN 2) [2] (iOf (xAt pg (xV 0) "options")) (some (cCmp .NotEq (xAt pg (xV 2) "letter") (xC (.str "")))) (xAt pg (xV 2) "letter")),
    sSet 3 (xCell [(xV 1)]),
    sForD 1 (pA pg 0 "commands") (bN 4) (iOf (xMeth pg cl (xAt pg (xV 0) "commands") "values" [] mNo)) [sSet 5 (xLcF false (bN 2) [2] (iOf (xAt pg (xV 4) "options")) (some (cCmp .NotEq (xAt pg (xV 2) "letter") (xC (.str "")))) (xAt pg (xV 2) "letter")),
    sExpr (xMeth1 pg cl (xV 3) "append" (xIf (cCmp .In (xC (.str "far")) (xAt pg (xV 0) "traits")) (xBin .Add (xV 5) (xV 1)) (xV 5)))],
    sRet (xV 3)]
theorem b_Table_letter_rows (cl : Cl) (ws : List W) (S : Sto) : bodyR pg cl F_Table_letter_rows ws S = seqC (c_Table_letter_rows cl) (startE F_Table_letter_rows.N ws) S := by
  kernel_rfl
def c_has_twins (cl : Cl) : List CS := [sRet (xCmp .Lt (xLenSet (xV 0)) (xBlt "len" [(xV 0)]))]
theorem b_has_twins (cl : Cl) (ws : List W) (S : Sto) : bodyR pg cl F_has_twins ws S = seqC (c_has_twins cl) (startE F_has_twins.N ws) S := by
  kernel_rfl
def c_Line___init__ (cl : Cl) : List CS := [sAtt pg (xV 0) "number" (xV 1),
    sAtt pg (xV 0) "words" (xCell []),
    sAtt pg (xV 0) "columns" (xCell []),
    sAtt pg (xV 0) "behind" (xC (.int 1)),
    sAtt pg (xV 0) "at" (xC (.int 0)),
    sFor (bindTs [3, 4]) (iEnum (xIx (xMeth1 pg cl (xV 2) "split" (xC (.str "#"))) (xC (.int 0)))) [sIf (cCmp .NotEq (xV 4) (xC (.str " "))) [sExpr (xMeth pg cl (xV 0) "_put" [(xV 3), (xV 4), (xV 2)] mNo)] []]]
theorem b_Line___init__ (cl : Cl) (ws : List W) (S : Sto) : bodyR pg cl F_Line___init__ ws S = seqC (c_Line___init__ cl) (startE F_Line___init__.N ws) S := by
  kernel_rfl
def c_Line__put (cl : Cl) : List CS := [sIf (cBool .And [(cCmp .Gt (xV 1) (xC (.int 0))), (cCmp .NotEq (xIx (xV 3) (xBin .Sub (xV 1) (xC (.int 1)))) (xC (.str " ")))]) [sSub (xAt pg (xV 0) "words") (xNeg (xC (.int 1))) (xBin .Add (xIx (xAt pg (xV 0) "words") (xNeg (xC (.int 1)))) (xV 2))] [sExpr (xMeth1 pg cl (xAt pg (xV 0) "words") "append" (xV 2)),
    sExpr (xMeth1 pg cl (xAt pg (xV 0) "columns") "append" (xBin .Add (xV 1) (xC (.int 1))))],
    sAtt pg (xV 0) "behind" (xBin .Add (xV 1) (xC (.int 2)))]
theorem b_Line__put (cl : Cl) (ws : List W) (S : Sto) : bodyR pg cl F_Line__put ws S = seqC (c_Line__put cl) (startE F_Line__put.N ws) S := by
  kernel_rfl
def c_Line_peek (cl : Cl) : List CS := [sRet (xIf (cCmp .Lt (xAt pg (xV 0) "at") (xBlt "len" [(xAt pg (xV 0) "words")])) (xIx (xAt pg (xV 0) "words") (xAt pg (xV 0) "at")) (xC (.str "")))]
theorem b_Line_peek (cl : Cl) (ws : List W) (S : Sto) : bodyR pg cl F_Line_peek ws S = seqC (c_Line_peek cl) (startE F_Line_peek.N ws) S := by
  kernel_rfl
def c_Line_refuse (cl : Cl) : List CS := [sRaise "BadText" ["line", "column"] [(xAt pg (xV 0) "number"), (xIf (cCmp .Lt (xAt pg (xV 0) "at") (xBlt "len" [(xAt pg (xV 0) "columns")])) (xIx (xAt pg (xV 0) "columns") (xAt pg (xV 0) "at")) (xAt pg (xV 0) "behind"))]]
theorem b_Line_refuse (cl : Cl) (ws : List W) (S : Sto) : bodyR pg cl F_Line_refuse ws S = seqC (c_Line_refuse cl) (startE F_Line_refuse.N ws) S := by
  kernel_rfl
def c_Line_take (cl : Cl) : List CS := [sIf (cBool .Or [(cCmp .Eq (xAt pg (xV 0) "at") (xBlt "len" [(xAt pg (xV 0) "words")])), (cNot (cTru (xV 1)))]) [sExpr (xMeth pg cl (xV 0) "refuse" [] mNo)] [],
    sAtt pg (xV 0) "at" (xBin .Add (xAt pg (xV 0) "at") (xC (.int 1))),
    sRet (xIx (xAt pg (xV 0) "words") (xBin .Sub (xAt pg (xV 0) "at") (xC (.int 1))))]
theorem b_Line_take (cl : Cl) (ws : List W) (S : Sto) : bodyR pg cl F_Line_take ws S = seqC (c_Line_take cl) (startE F_Line_take.N ws) S := by
  kernel_rfl
def c_Line_end (cl : Cl) : List CS := [sIf (cCmp .Lt (xAt pg (xV 0) "at") (xBlt "len" [(xAt pg (xV 0) "words")])) [sExpr (xMeth pg cl (xV 0) "refuse" [] mNo)] []]
theorem b_Line_end (cl : Cl) (ws : List W) (S : Sto) : bodyR pg cl F_Line_end ws S = seqC (c_Line_end cl) (startE F_Line_end.N ws) S := by
  kernel_rfl
def c_span_of (cl : Cl) : List CS := [sSw3 1 2 3 (xSl (xV 0) none (some (xC (.int 1)))) (xSl (xV 0) (some (xC (.int 1))) (some (xC (.int 3)))) (xSl (xV 0) (some (xC (.int 3))) none),
    sIf (cBool .Or [(cCmp .NotEq (xBlt "len" [(xV 1)]) (xC (.int 1))), (cCmp .NotIn (xV 1) (xC (.str "0123456789"))), (cCmp .NotEq (xV 2) (xC (.str ".."))), (cCmp .Gt (xBlt "len" [(xV 3)]) (xC (.int 1))), (cCmp .NotIn (xV 3) (xC (.str "0123456789")))]) [sRet (xC (.non))] [],
    sIf (cCmp .Eq (xV 3) (xC (.str ""))) [sRet (xTup [(xBlt "int" [(xV 1)]), (xC (.non))])] [],
    sRet (xIf (cCmp .LtE (xBlt "max" [(xC (.int 1)), (xBlt "int" [(xV 1)])]) (xBlt "int" [(xV 3)])) (xTup [(xBlt "int" [(xV 1)]), (xBlt "int" [(xV 3)])]) (xC (.non)))]
theorem b_span_of (cl : Cl) (ws : List W) (S : Sto) : bodyR pg cl F_span_of ws S = seqC (c_span_of cl) (startE F_span_of.N ws) S := by
  kernel_rfl
def c_limits_of (cl : Cl) : List CS := [sSet 1 (xMeth1 pg cl (xV 0) "find" (xC (.str ".."))),
    sIf (cBool .Or [(cCmp .Lt (xV 1) (xC (.int 0))), (cNot (cTru (xCall cl "is_number_word" 3 [(xSl (xV 0) none (some (xV 1))), (xNeg (xC (.int 99))), (xC (.int 99))]))), (cNot (cTru (xCall cl "is_number_word" 3 [(xSl (xV 0) (some (xBin .Add (xV 1) (xC (.int 2)))) none), (xNeg (xC (.int 99))), (xC (.int 99))])))]) [sRet (xC (.non))] [],
    sSw2 2 3 (xCall cl "number_of" 1 [(xSl (xV 0) none (some (xV 1)))]) (xCall cl "number_of" 1 [(xSl (xV 0) (some (xBin .Add (xV 1) (xC (.int 2)))) none)]),
    sRet (xIf (cCmp .LtE (xV 2) (xV 3)) (xTup [(xV 2), (xV 3)]) (xC (.non)))]
theorem b_limits_of (cl : Cl) (ws : List W) (S : Sto) : bodyR pg cl F_limits_of ws S = seqC (c_limits_of cl) (startE F_limits_of.N ws) S := by
  kernel_rfl
def c_number_of (cl : Cl) : List CS := [sRet (xIf (cCmp .Eq (xIx (xV 0) (xC (.int 0))) (xC (.str "-"))) (xBin .Sub (xC (.int 0)) (xBlt "int" [(xSl (xV 0) (some (xC (.int 1))) none)])) (xBlt "int" [(xV 0)]))]
theorem b_number_of (cl : Cl) (ws : List W) (S : Sto) : bodyR pg cl F_number_of ws S = seqC (c_number_of cl) (startE F_number_of.N ws) S := by
  kernel_rfl
def c_read_span (cl : Cl) : List CS := [sSet 1 (xCall cl "span_of" 1 [(xMeth pg cl (xV 0) "peek" [] mNo)]),
    sExpr (xMeth1 pg cl (xV 0) "take" (xCmp .IsNot (xV 1) (xC (.non)))),
    sRet (xV 1)]
theorem b_read_span (cl : Cl) (ws : List W) (S : Sto) : bodyR pg cl F_read_span ws S = seqC (c_read_span cl) (startE F_read_span.N ws) S := by
  kernel_rfl
def c_read_kind (cl : Cl) : List CS := [sSet 1 (xMeth1 pg cl (xV 0) "take" (xCmp .In (xMeth pg cl (xV 0) "peek" [] mNo) (xTup [(xC (.str "any")), (xC (.str "chosen")), (xC (.str "number"))]))),
    sIf (cCmp .Eq (xV 1) (xC (.str "chosen"))) [sSet 2 (xMeth1 pg cl (xMeth pg cl (xV 0) "peek" [] mNo) "split" (xC (.str ","))),
    sExpr (xMeth1 pg cl (xV 0) "take" (xCall cl "are_names" 3 [(xV 2), (xC (.int 1)), (xC (.int 8))])),
    sRet (xTupS [(false, (xC (.str "chosen"))), (true, (xV 2))])] [],
    sIf (cCmp .Eq (xV 1) (xC (.str "number"))) [sSet 3 (xCall cl "limits_of" 1 [(xMeth pg cl (xV 0) "peek" [] mNo)]),
    sExpr (xMeth1 pg cl (xV 0) "take" (xCmp .IsNot (xV 3) (xC (.non)))),
    sRet (xTupS [(false, (xC (.str "number"))), (true, (xV 3))])] [],
    sRet (xTup [(xC (.str "any"))])]
theorem b_read_kind (cl : Cl) (ws : List W) (S : Sto) : bodyR pg cl F_read_kind ws S = seqC (c_read_kind cl) (startE F_read_kind.N ws) S := by
  kernel_rfl
def c_read_takes (cl : Cl) : List CS := [sSet 1 (xMeth1 pg cl (xV 0) "take" (xCmp .In (xMeth pg cl (xV 0) "peek" [] mNo) (xTup [(xC (.str "nothing")), (xC (.str "one")), (xC (.str "maybe")), (xC (.str "some"))]))),
    sIf (cCmp .Eq (xV 1) (xC (.str "nothing"))) [sRet (xTup [(xC (.str "nothing"))])] [],
    sSet 2 (xCall cl "read_kind" 1 [(xV 0)]),
    sRet (xIf (cCmp .Eq (xV 1) (xC (.str "some"))) (xTupS [(false, (xV 1)), (false, (xV 2)), (true, (xCall cl "read_span" 1 [(xV 0)]))]) (xTup [(xV 1), (xV 2)]))]
theorem b_read_takes (cl : Cl) (ws : List W) (S : Sto) : bodyR pg cl F_read_takes ws S = seqC (c_read_takes cl) (startE F_read_takes.N ws) S := by
  kernel_rfl
def c_read_option (cl : Cl) : List CS := [sSet 1 (xMeth1 pg cl (xV 0) "take" (xCall cl "is_name" 1 [(xMeth pg cl (xV 0) "peek" [] mNo)])),
    sSet 2 (xMeth pg cl (xV 0) "peek" [] mNo),
    sSet 3 (xMeth1 pg cl (xV 0) "take" (xBool .And [(xCmp .Eq (xBlt "len" [(xV 2)]) (xC (.int 1))), (xBool .Or [(xCmp .In (xV 2) (xC (.str "abcdefghijklmnopqrstuvwxyz"))), (xCmp .Eq (xV 2) (xC (.str "-")))])])),
    sSet 4 (xCall cl "read_takes" 1 [(xV 0)]),
    sSetT [5, 6] (xCall cl "read_span" 1 [(xV 0)]),
    sRet (xMk cl "Option" "Option.__init__" 5 true [(xV 1), (xIf (cCmp .Eq (xV 3) (xC (.str "-"))) (xC (.str "")) (xV 3)), (xV 4), (xV 5), (xV 6)])]
theorem b_read_option (cl : Cl) (ws : List W) (S : Sto) : bodyR pg cl F_read_option ws S = seqC (c_read_option cl) (startE F_read_option.N ws) S := by
  kernel_rfl
def c_read_operand (cl : Cl) : List CS := [sSet 1 (xMeth1 pg cl (xV 0) "take" (xCall cl "is_name" 1 [(xMeth pg cl (xV 0) "peek" [] mNo)])),
    sSet 2 (xCall cl "read_kind" 1 [(xV 0)]),
    sSetT [3, 4] (xCall cl "read_span" 1 [(xV 0)]),
    sRet (xMk cl "Operand" "Operand.__init__" 4 true [(xV 1), (xV 2), (xV 3), (xV 4)])]
theorem b_read_operand (cl : Cl) (ws : List W) (S : Sto) : bodyR pg cl F_read_operand ws S = seqC (c_read_operand cl) (startE F_read_operand.N ws) S := by
  kernel_rfl
def c_read_condition (cl : Cl) : List CS := [sSet 2 (xCell []),
    sWhile (cBool .And [(cCmp .NotEq (xMeth pg cl (xV 0) "peek" [] mNo) (xC (.str ""))), (cBool .Or [(cCmp .Eq (xV 1) (xC (.str "some"))), (cCmp .Lt (xBlt "len" [(xV 2)]) (xC (.int 2)))])]) [sExpr (xMeth1 pg cl (xV 2) "append" (xMeth1 pg cl (xV 0) "take" (xCall cl "is_name" 1 [(xMeth pg cl (xV 0) "peek" [] mNo)])))],
    sIf (cBool .Or [(cCmp .Eq (xV 2) (xLst [])), (cBool .And [(cCmp .NotEq (xV 1) (xC (.str "some"))), (cCmp .Lt (xBlt "len" [(xV 2)]) (xC (.int 2)))])]) [sExpr (xMeth pg cl (xV 0) "refuse" [] mNo)] [],
    sRet (xIf (cCmp .Eq (xV 1) (xC (.str "some"))) (xTup [(xV 1), (xBlt "tuple" [(xV 2)])]) (xTupS [(false, (xV 1)), (true, (xV 2))]))]
theorem b_read_condition (cl : Cl) (ws : List W) (S : Sto) : bodyR pg cl F_read_condition ws S = seqC (c_read_condition cl) (startE F_read_condition.N ws) S := by
  kernel_rfl
def c_Parts___init__ (cl : Cl) : List CS := [sAtt pg (xV 0) "options" (xCell []),
    sAtt pg (xV 0) "operands" (xCell []),
    sAtt pg (xV 0) "traits" (xCell []),
    sAtt pg (xV 0) "conditions" (xCell [])]
theorem b_Parts___init__ (cl : Cl) (ws : List W) (S : Sto) : bodyR pg cl F_Parts___init__ ws S = seqC (c_Parts___init__ cl) (startE F_Parts___init__.N ws) S := by
  kernel_rfl
def c_Parts_put (cl : Cl) : List CS := [sSet 2 (xMeth1 pg cl (xV 1) "take" (xCmp .In (xMeth pg cl (xV 1) "peek" [] mNo) (xTup [(xC (.str "option")), (xC (.str "operand")), (xC (.str "trait")), (xC (.str "needs")), (xC (.str "without")), (xC (.str "some"))]))),
    sIf (cCmp .Eq (xV 2) (xC (.str "option"))) [sExpr (xMeth1 pg cl (xAt pg (xV 0) "options") "append" (xCall cl "read_option" 1 [(xV 1)]))] [sIf (cCmp .Eq (xV 2) (xC (.str "operand"))) [sExpr (xMeth1 pg cl (xAt pg (xV 0) "operands") "append" (xCall cl "read_operand" 1 [(xV 1)]))] [sIf (cCmp .Eq (xV 2) (xC (.str "trait"))) [sExpr (xMeth1 pg cl (xAt pg (xV 0) "traits") "append" (xMeth1 pg cl (xV 1) "take" (xBool .And [(xCmp .In (xMeth pg cl (xV 1) "peek" [] mNo) (xC (.tup [.str "abbreviated", .str "alone", .str "dashed", .str "ends", .str "far", .str "guessed", .str "mixed"]))), (xCmp .NotIn (xMeth pg cl (xV 1) "peek" [] mNo) (xAt pg (xV 0) "traits"))])))] [sExpr (xMeth1 pg cl (xAt pg (xV 0) "conditions") "append" (xCall cl "read_condition" 2 [(xV 1), (xV 2)]))]]],
    sExpr (xMeth pg cl (xV 1) "end" [] mNo)]
theorem b_Parts_put (cl : Cl) (ws : List W) (S : Sto) : bodyR pg cl F_Parts_put ws S = seqC (c_Parts_put cl) (startE F_Parts_put.N ws) S := by
  kernel_rfl
def c_read_table (cl : Cl) : List CS := [sIf (cNot (cTru (xIsi pg (xV 0) "str"))) [sRaise "BadText" ["line", "column"] [(xC (.int 0)), (xC (.int 0))]] [],
    sSw3 1 2 3 (xMk0 cl "Parts" "Parts.__init__" 0 false) xCellD (xC (.non)),
    sFor (bindTs [4, 5]) (iEnum (xMeth1 pg cl (xV 0) "split" (xC (.str "\n")))) [sSet 6 (xMk cl "Line" "Line.__init__" 2 false [(xBin .Add (xV 4) (xC (.int 1))), (xV 5)]),
    sIf (cCmp .Eq (xMeth pg cl (xV 6) "peek" [] mNo) (xC (.str "command"))) [sExpr (xMeth1 pg cl (xV 6) "take" (xC (.bl true))),
    sSet 7 (xMeth1 pg cl (xV 6) "take" (xBool .And [(xCall cl "is_name" 1 [(xMeth pg cl (xV 6) "peek" [] mNo)]), (xCmp .NotIn (xMeth pg cl (xV 6) "peek" [] mNo) (xV 2))])),
    sExpr (xMeth pg cl (xV 6) "end" [] mNo),
    sSub (xV 2) (xV 7) (xMk0 cl "Parts" "Parts.__init__" 0 false),
    sSet 3 (xIx (xV 2) (xV 7))] [sIf (cCmp .NotEq (xMeth pg cl (xV 6) "peek" [] mNo) (xC (.str ""))) [sExpr (xMeth1 pg cl (xIf (cCmp .Is (xV 3) (xC (.non))) (xV 1) (xV 3)) "put" (xV 6))] []]],
    sSet 8 xCellD,
    sForD 2 (pV 2) (bindTs [7, 9]) (iOf (xMeth pg cl (xV 2) "items" [] mNo)) [sSub (xV 8) (xV 7) (xMk cl "Table" "Table.__init__" 5 true [(xAt pg (xV 9) "options"), (xAt pg (xV 9) "operands"), (xC (.non)), (xAt pg (xV 9) "traits"), (xAt pg (xV 9) "conditions")])],
    sRet (xMk cl "Table" "Table.__init__" 5 true [(xAt pg (xV 1) "options"), (xAt pg (xV 1) "operands"), (xV 8), (xAt pg (xV 1) "traits"), (xAt pg (xV 1) "conditions")])]
theorem b_read_table (cl : Cl) (ws : List W) (S : Sto) : bodyR pg cl F_read_table ws S = seqC (c_read_table cl) (startE F_read_table.N ws) S := by
  kernel_rfl
def c__law_number (cl : Cl) : List CS := [sSetT [2, 3] (xIf (cCmp .NotEq (xV 0) (xLst [])) (xTup [(xIx (xV 0) (xBin .Mod (xV 1) (xBlt "len" [(xV 0)]))), (xBin .FloorDiv (xV 1) (xBlt "len" [(xV 0)]))]) (xTup [(xC (.int 12345)), (xC (.int 0))])),
    sSet 4 (xIf (cCmp .Lt (xV 3) (xC (.int 60))) (xBin .Sub (xV 2) (xBin .Pow (xC (.int 10)) (xC (.int 18)))) (xC (.int 0))),
    sFor (bN 5) (iRng1 (xBin .Mod (xBlt "int" [(xV 3)]) (xC (.int 60)))) [sSet 4 (xBin .FloorDiv (xV 4) (xC (.int 1009)))],
    sIf (cCmp .Gt (xV 4) (xC (.int 0))) [sRet (xBin .Mod (xBlt "int" [(xV 4)]) (xC (.int 1009)))] [],
    sSet 6 (xBin .Mod (xBin .Add (xBin .Mult (xBlt "int" [(xBin .Add (xV 2) (xBin .Mult (xC (.int 977)) (xV 1)))]) (xC (.int 48271))) (xBin .Mult (xC (.int 31)) (xBlt "len" [(xV 0)]))) (xC (.int 2147483647))),
    sSet 6 (xBin .Mod (xBin .Add (xBin .Mult (xV 6) (xV 6)) (xBin .Mult (xC (.int 40503)) (xV 1))) (xC (.int 2147483629))),
    sRet (xBlt "int" [(xBin .Mod (xBin .Add (xBin .Mult (xV 6) (xC (.int 69621))) (xBin .FloorDiv (xV 6) (xC (.int 977)))) (xC (.int 2147483587)))])]
theorem b__law_number (cl : Cl) (ws : List W) (S : Sto) : bodyR pg cl F__law_number ws S = seqC (c__law_number cl) (startE F__law_number.N ws) S := by
  kernel_rfl
def c__law_take (cl : Cl) : List CS := [sAugIx (xV 0) (xC (.int 1)) (xC (.int 1)),
    sRet (xBin .Mod (xBlt "int" [(xCall cl "_law_number" 2 [(xIx (xV 0) (xC (.int 0))), (xBlt "int" [(xIx (xV 0) (xC (.int 1)))])])]) (xV 1))]
theorem b__law_take (cl : Cl) (ws : List W) (S : Sto) : bodyR pg cl F__law_take ws S = seqC (c__law_take cl) (startE F__law_take.N ws) S := by
  kernel_rfl
def c__law_pick (cl : Cl) : List CS := [sRet (xIx (xV 1) (xCall cl "_law_take" 2 [(xV 0), (xBlt "len" [(xV 1)])]))]
theorem b__law_pick (cl : Cl) (ws : List W) (S : Sto) : bodyR pg cl F__law_pick ws S = seqC (c__law_pick cl) (startE F__law_pick.N ws) S := by
  kernel_rfl
def c__law_refused (cl : Cl) : List CS := [sTry pg (gmOf F__law_refused) (tryHds (stAt [0] F__law_refused.body)) [sExpr (xCall cl "read_table" 1 [(xV 0)])],
    sRet (xC (.non))]
theorem b__law_refused (cl : Cl) (ws : List W) (S : Sto) : bodyR pg cl F__law_refused ws S = seqC (c__law_refused cl) (startE F__law_refused.N ws) S := by
  kernel_rfl
def c__law_known (cl : Cl) : List CS := [sSet 0 (xLst [(xTup [(xC (.str "option")), (xC (.int 1))]), (xTup [(xC (.str "option up")), (xC (.int 2))]), (xTup [(xC (.str "option Up - nothing 0..")), (xC (.int 1))]), (xTup [(xC (.str "option up ab nothing 0..")), (xC (.int 2))]), (xTup [(xC (.str "option up - none 0..")), (xC (.int 3))])]),
    sSet 0 (xBin .Add (xV 0) (xLst [(xTup [(xC (.str "option up - nothing")), (xC (.int 4))]), (xTup [(xC (.str "option up - nothing 0.")), (xC (.int 4))]), (xTup [(xC (.str "option up - nothing 2..1")), (xC (.int 4))]), (xTup [(xC (.str "option up - nothing 0..0")), (xC (.int 4))])])),
    sSet 0 (xBin .Add (xV 0) (xLst [(xTup [(xC (.str "option up - nothing 0..1 more")), (xC (.int 5))]), (xTup [(xC (.str "option up - one")), (xC (.int 4))]), (xTup [(xC (.str "option up - one all 0..")), (xC (.int 4))]), (xTup [(xC (.str "option up - one chosen 0..")), (xC (.int 5))])])),
    sSet 0 (xBin .Add (xV 0) (xLst [(xTup [(xC (.str "option up - one chosen a,a 0..")), (xC (.int 5))]), (xTup [(xC (.str "option up - one chosen a,,b 0..")), (xC (.int 5))])])),
    sSet 0 (xBin .Add (xV 0) (xLst [(xTup [(xC (.str "option up - one number 5..2 0..")), (xC (.int 5))]), (xTup [(xC (.str "option up - one number 05..9 0..")), (xC (.int 5))])])),
    sSet 0 (xBin .Add (xV 0) (xLst [(xTup [(xC (.str "option up - some any 0..")), (xC (.int 6))]), (xTup [(xC (.str "option up - one any 0..1 0..")), (xC (.int 6))]), (xTup [(xC (.str "operand")), (xC (.int 1))])])),
    sSet 0 (xBin .Add (xV 0) (xLst [(xTup [(xC (.str "operand to any")), (xC (.int 3))]), (xTup [(xC (.str "operand to 1..")), (xC (.int 2))]), (xTup [(xC (.str "operand to any 1..2 3")), (xC (.int 4))])])),
    sSet 0 (xBin .Add (xV 0) (xLst [(xTup [(xC (.str "trait")), (xC (.int 1))]), (xTup [(xC (.str "trait loud")), (xC (.int 1))]), (xTup [(xC (.str "trait mixed ends")), (xC (.int 2))]), (xTup [(xC (.str "needs")), (xC (.int 1))]), (xTup [(xC (.str "needs up")), (xC (.int 2))])])),
    sSet 0 (xBin .Add (xV 0) (xLst [(xTup [(xC (.str "needs up down more")), (xC (.int 3))]), (xTup [(xC (.str "without up 9a")), (xC (.int 2))]), (xTup [(xC (.str "some")), (xC (.int 1))]), (xTup [(xC (.str "some up Down")), (xC (.int 2))])])),
    sRet (xBin .Add (xV 0) (xLst [(xTup [(xC (.str "command")), (xC (.int 1))]), (xTup [(xC (.str "command Go")), (xC (.int 1))]), (xTup [(xC (.str "command go now")), (xC (.int 2))]), (xTup [(xC (.str "options")), (xC (.int 0))]), (xTup [(xC (.str "Option up - nothing 0..")), (xC (.int 0))]), (xTup [(xC (.str "- x")), (xC (.int 0))])]))]
theorem b__law_known (cl : Cl) (ws : List W) (S : Sto) : bodyR pg cl F__law_known ws S = seqC (c__law_known cl) (startE F__law_known.N ws) S := by
  kernel_rfl
def c__law_place (cl : Cl) : List CS := [sSw2 2 3 (xC (.int 0)) (xMeth1 pg cl (xV 0) "split" (xC (.str " "))),
    sIf (cCmp .GtE (xV 1) (xBlt "len" [(xV 3)])) [sRet (xBin .Add (xBlt "len" [(xV 0)]) (xC (.int 1)))] [],
    sRet (xBin .Add (xBlt "len" [(xMeth1 pg cl (xC (.str " ")) "join" (xSl (xV 3) none (some (xV 1))))]) (xIf (cCmp .Gt (xV 1) (xC (.int 0))) (xC (.int 2)) (xC (.int 1))))]
theorem b__law_place (cl : Cl) (ws : List W) (S : Sto) : bodyR pg cl F__law_place ws S = seqC (c__law_place cl) (startE F__law_place.N ws) S := by
  kernel_rfl
def c_law (cl : Cl) : List CS := [sSet 1 (xCell [(xV 0), (xC (.int 0))]),
    sFor (bN 2) (iRng1 (xC (.int 6))) [sSetT [3, 4] (xCall cl "_law_pick" 2 [(xV 1), (xCall0 cl "_law_known" 0)]),
    sSet 5 (xCall cl "_law_pick" 2 [(xV 1), (xLst [(xLst []), (xLst [(xC (.str "option here h nothing 0..1"))]), (xLst [(xC (.str "")), (xC (.str "# x")), (xC (.str "trait ends"))]), (xLst [(xC (.str "operand a any 0..")), (xC (.str "command b"))])])]),
    sSet 6 (xBin .Mult (xC (.str " ")) (xCall cl "_law_take" 2 [(xV 1), (xC (.int 3))])),
    sSet 7 (xMeth1 pg cl (xC (.str "\n")) "join" (xBin .Add (xBin .Add (xV 5) (xLst [(xBin .Add (xV 6) (xV 3))])) (xCall cl "_law_pick" 2 [(xV 1), (xLst [(xLst []), (xLst [(xC (.str "nonsense"))])])]))),
    sIf (cCmp .NotEq (xCall cl "_law_refused" 1 [(xV 7)]) (xTup [(xBin .Add (xBlt "len" [(xV 5)]) (xC (.int 1))), (xBin .Add (xBlt "len" [(xV 6)]) (xCall cl "_law_place" 2 [(xV 3), (xV 4)]))])) [sRet (xC (.bl false))] []],
    sSet 8 (xCell [(xTup [(xC (.str "trait ends\ntrait ends")), (xTup [(xC (.int 2)), (xC (.int 7))])]), (xTup [(xC (.str "command go\ncommand go")), (xTup [(xC (.int 2)), (xC (.int 9))])]), (xTup [(xC (.non)), (xTup [(xC (.int 0)), (xC (.int 0))])]), (xTup [(xC (.int 7)), (xTup [(xC (.int 0)), (xC (.int 0))])])]),
    sSet 8 (xCellA (xV 8) (xLst [(xTup [(xC (.str "trait far")), (xC (.str "traits"))]), (xTup [(xC (.str "trait guessed\ntrait abbreviated")), (xC (.str "traits"))]), (xTup [(xC (.str "needs up down")), (xC (.str "conditions"))])])),
    sExpr (xMeth1 pg cl (xV 8) "append" (xTup [(xC (.str "option a - nothing 0..\noption a - nothing 0..")), (xC (.str "names"))])),
    sExpr (xMeth1 pg cl (xV 8) "append" (xTup [(xC (.str "option a x nothing 0..\noption b x nothing 0..")), (xC (.str "letters"))])),
    sExpr (xMeth1 pg cl (xV 8) "append" (xTup [(xC (.str "option a x nothing 0..\ncommand go\noption b x nothing 0..\noperand a any 0..")), (xC (.str "names"))])),
    sExpr (xMeth1 pg cl (xV 8) "append" (xTup [(xC (.str "trait alone\ncommand go\ntrait far")), (xC (.str "traits"))])),
    sExpr (xMeth1 pg cl (xV 8) "append" (xTup [(xMeth1 pg cl (xC (.str "\n")) "join" (xLcF false (bN 9) [9] (iRng1 (xC (.int 9))) none (xBin .Add (xBin .Add (xC (.str "option o")) (xBlt "str" [(xV 9)])) (xC (.str " - nothing 0.."))))), (xC (.str "options"))])),
    sExpr (xMeth1 pg cl (xV 8) "append" (xTup [(xBin .Add (xC (.str "command go\n")) (xMeth1 pg cl (xC (.str "\n")) "join" (xLcF false (bN 9) [9] (iRng1 (xC (.int 5))) none (xBin .Add (xBin .Add (xC (.str "option o")) (xBlt "str" [(xV 9)])) (xC (.str " - nothing 0..")))))), (xC (.str "commands"))])),
    sExpr (xMeth1 pg cl (xV 8) "append" (xTup [(xMeth1 pg cl (xC (.str "\n")) "join" (xLcF false (bN 9) [9] (iRng1 (xC (.int 4))) none (xBin .Add (xC (.str "command c")) (xBlt "str" [(xV 9)])))), (xC (.str "commands"))])),
    sRet (xBlt "all" [(xLcD 0 (pV 8) (bindTs [7, 10]) [7, 10] (iOf (xV 8)) none (xCmp .Eq (xCall cl "_law_refused" 1 [(xV 7)]) (xV 10)))])]
theorem b_law (cl : Cl) (ws : List W) (S : Sto) : bodyR pg cl F_law ws S = seqC (c_law cl) (startE F_law.N ws) S := by
  kernel_rfl
def mirl : List (Str × Mir) := ([("is_whole", ⟨F_is_whole.N, 3, F_is_whole.keep, c_is_whole⟩), ("is_name", ⟨F_is_name.N, 1, F_is_name.keep, c_is_name⟩), ("are_names", ⟨F_are_names.N, 3, F_are_names.keep, c_are_names⟩), ("is_type", ⟨F_is_type.N, 1, F_is_type.keep, c_is_type⟩), ("is_number_word", ⟨F_is_number_word.N, 3, F_is_number_word.keep, c_is_number_word⟩), ("is_bound", ⟨F_is_bound.N, 2, F_is_bound.keep, c_is_bound⟩), ("is_takes", ⟨F_is_takes.N, 1, F_is_takes.keep, c_is_takes⟩), ("Option.__init__", ⟨F_Option___init__.N, 6, F_Option___init__.keep, c_Option___init__⟩), ("Operand.__init__", ⟨F_Operand___init__.N, 5, F_Operand___init__.keep, c_Operand___init__⟩), ("are_options", ⟨F_are_options.N, 1, F_are_options.keep, c_are_options⟩), ("are_operands", ⟨F_are_operands.N, 1, F_are_operands.keep, c_are_operands⟩), ("are_commands", ⟨F_are_commands.N, 1, F_are_commands.keep, c_are_commands⟩), ("are_traits", ⟨F_are_traits.N, 2, F_are_traits.keep, c_are_traits⟩), ("is_condition", ⟨F_is_condition.N, 2, F_is_condition.keep, c_is_condition⟩), ("Table.__init__", ⟨F_Table___init__.N, 6, F_Table___init__.keep, c_Table___init__⟩), ("Table.is_inner", ⟨F_Table_is_inner.N, 1, F_Table_is_inner.keep, c_Table_is_inner⟩), ("Table.names", ⟨F_Table_names.N, 1, F_Table_names.keep, c_Table_names⟩), ("Table.letter_rows", ⟨F_Table_letter_rows.N, 1, F_Table_letter_rows.keep, c_Table_letter_rows⟩), ("has_twins", ⟨F_has_twins.N, 1, F_has_twins.keep, c_has_twins⟩), ("Line.__init__", ⟨F_Line___init__.N, 3, F_Line___init__.keep, c_Line___init__⟩)] : List (Str × Mir)) ++ ([("Line._put", ⟨F_Line__put.N, 4, F_Line__put.keep, c_Line__put⟩), ("Line.peek", ⟨F_Line_peek.N, 1, F_Line_peek.keep, c_Line_peek⟩), ("Line.refuse", ⟨F_Line_refuse.N, 1, F_Line_refuse.keep, c_Line_refuse⟩), ("Line.take", ⟨F_Line_take.N, 2, F_Line_take.keep, c_Line_take⟩), ("Line.end", ⟨F_Line_end.N, 1, F_Line_end.keep, c_Line_end⟩), ("span_of", ⟨F_span_of.N, 1, F_span_of.keep, c_span_of⟩), ("limits_of", ⟨F_limits_of.N, 1, F_limits_of.keep, c_limits_of⟩), ("number_of", ⟨F_number_of.N, 1, F_number_of.keep, c_number_of⟩), ("read_span", ⟨F_read_span.N, 1, F_read_span.keep, c_read_span⟩), ("read_kind", ⟨F_read_kind.N, 1, F_read_kind.keep, c_read_kind⟩), ("read_takes", ⟨F_read_takes.N, 1, F_read_takes.keep, c_read_takes⟩), ("read_option", ⟨F_read_option.N, 1, F_read_option.keep, c_read_option⟩), ("read_operand", ⟨F_read_operand.N, 1, F_read_operand.keep, c_read_operand⟩), ("read_condition", ⟨F_read_condition.N, 2, F_read_condition.keep, c_read_condition⟩), ("Parts.__init__", ⟨F_Parts___init__.N, 1, F_Parts___init__.keep, c_Parts___init__⟩), ("Parts.put", ⟨F_Parts_put.N, 2, F_Parts_put.keep, c_Parts_put⟩), ("read_table", ⟨F_read_table.N, 1, F_read_table.keep, c_read_table⟩), ("_law_number", ⟨F__law_number.N, 2, F__law_number.keep, c__law_number⟩), ("_law_take", ⟨F__law_take.N, 2, F__law_take.keep, c__law_take⟩), ("_law_pick", ⟨F__law_pick.N, 2, F__law_pick.keep, c__law_pick⟩)] : List (Str × Mir)) ++ ([("_law_refused", ⟨F__law_refused.N, 1, F__law_refused.keep, c__law_refused⟩), ("_law_known", ⟨F__law_known.N, 0, F__law_known.keep, c__law_known⟩), ("_law_place", ⟨F__law_place.N, 2, F__law_place.keep, c__law_place⟩), ("law", ⟨F_law.N, 1, F_law.keep, c_law⟩)] : List (Str × Mir))
def mir (f : Str) : Option Mir := mirl.lookup f
theorem mirs : MirsOk pg fnl mirl := (.cons ⟨rfl, rfl, rfl, b_is_whole⟩ (.cons ⟨rfl, rfl, rfl, b_is_name⟩ (.cons ⟨rfl, rfl, rfl, b_are_names⟩ (.cons ⟨rfl, rfl, rfl, b_is_type⟩ (.cons ⟨rfl, rfl, rfl, b_is_number_word⟩ (.cons ⟨rfl, rfl, rfl, b_is_bound⟩ (.cons ⟨rfl, rfl, rfl, b_is_takes⟩ (.cons ⟨rfl, rfl, rfl, b_Option___init__⟩ (.cons ⟨rfl, rfl, rfl, b_Operand___init__⟩ (.cons ⟨rfl, rfl, rfl, b_are_options⟩ (.cons ⟨rfl, rfl, rfl, b_are_operands⟩ (.cons ⟨rfl, rfl, rfl, b_are_commands⟩ (.cons ⟨rfl, rfl, rfl, b_are_traits⟩ (.cons ⟨rfl, rfl, rfl, b_is_condition⟩ (.cons ⟨rfl, rfl, rfl, b_Table___init__⟩ (.cons ⟨rfl, rfl, rfl, b_Table_is_inner⟩ (.cons ⟨rfl, rfl, rfl, b_Table_names⟩ (.cons ⟨rfl, rfl, rfl, b_Table_letter_rows⟩ (.cons ⟨rfl, rfl, rfl, b_has_twins⟩ (.cons ⟨rfl, rfl, rfl, b_Line___init__⟩ (.cons ⟨rfl, rfl, rfl, b_Line__put⟩ (.cons ⟨rfl, rfl, rfl, b_Line_peek⟩ (.cons ⟨rfl, rfl, rfl, b_Line_refuse⟩ (.cons ⟨rfl, rfl, rfl, b_Line_take⟩ (.cons ⟨rfl, rfl, rfl, b_Line_end⟩ (.cons ⟨rfl, rfl, rfl, b_span_of⟩ (.cons ⟨rfl, rfl, rfl, b_limits_of⟩ (.cons ⟨rfl, rfl, rfl, b_number_of⟩ (.cons ⟨rfl, rfl, rfl, b_read_span⟩ (.cons ⟨rfl, rfl, rfl, b_read_kind⟩ (.cons ⟨rfl, rfl, rfl, b_read_takes⟩ (.cons ⟨rfl, rfl, rfl, b_read_option⟩ (.cons ⟨rfl, rfl, rfl, b_read_operand⟩ (.cons ⟨rfl, rfl, rfl, b_read_condition⟩ (.cons ⟨rfl, rfl, rfl, b_Parts___init__⟩ (.cons ⟨rfl, rfl, rfl, b_Parts_put⟩ (.cons ⟨rfl, rfl, rfl, b_read_table⟩ (.cons ⟨rfl, rfl, rfl, b__law_number⟩ (.cons ⟨rfl, rfl, rfl, b__law_take⟩ (.cons ⟨rfl, rfl, rfl, b__law_pick⟩ (.cons ⟨rfl, rfl, rfl, b__law_refused⟩ (.cons ⟨rfl, rfl, rfl, b__law_known⟩ (.cons ⟨rfl, rfl, rfl, b__law_place⟩ (.cons ⟨rfl, rfl, rfl, b_law⟩ .nil))))))))))))))))))))))))))))))))))))))))))))
theorem callD_eq (d : Nat) : callD pg fns d = cdC mir d := callD_mir mirs d
abbrev C11 : Cl := cdC mir 11
def knownL : List (Str × Int) := ([("option", 1), ("option up", 2), ("option Up - nothing 0..", 1), ("option up ab nothing 0..", 2), ("option up - none 0..", 3), ("option up - nothing", 4), ("option up - nothing 0.", 4), ("option up - nothing 2..1", 4), ("option up - nothing 0..0", 4), ("option up - nothing 0..1 more", 5), ("option up - one", 4), ("option up - one all 0..", 4), ("option up - one chosen 0..", 5), ("option up - one chosen a,a 0..", 5), ("option up - one chosen a,,b 0..", 5)] : List (Str × Int)) ++ ([("option up - one number 5..2 0..", 5), ("option up - one number 05..9 0..", 5), ("option up - some any 0..", 6), ("option up - one any 0..1 0..", 6), ("operand", 1), ("operand to any", 3), ("operand to 1..", 2), ("operand to any 1..2 3", 4), ("trait", 1), ("trait loud", 1), ("trait mixed ends", 2), ("needs", 1), ("needs up", 2), ("needs up down more", 3), ("without up 9a", 2)] : List (Str × Int)) ++ ([("some", 1), ("some up Down", 2), ("command", 1), ("command Go", 1), ("command go now", 2), ("options", 0), ("Option up - nothing 0..", 0), ("- x", 0)] : List (Str × Int))
def aheadL : List (List Str) := [[], ["option here h nothing 0..1"], ["", "# x", "trait ends"], ["operand a any 0..", "command b"]]
def blL : List Str := ["", " ", "  "]
def tailL : List (List Str) := [[], ["nonsense"]]
def toW (p : Str × Int) : W := .tup [.str p.1, .int p.2]
def textOf (l : Str) (a : List Str) (b : Str) (t : List Str) : Str := joinF "\n" (a ++ [appS b l] ++ t)
def st1 : CS := sSetT [3, 4] (xCall C11 "_law_pick" 2 [(xV 1), (xCall0 C11 "_law_known" 0)])
def st2 : CS := sSet 5 (xCall C11 "_law_pick" 2 [(xV 1), (xLst [(xLst []), (xLst [(xC (.str "option here h nothing 0..1"))]), (xLst [(xC (.str "")), (xC (.str "# x")), (xC (.str "trait ends"))]), (xLst [(xC (.str "operand a any 0..")), (xC (.str "command b"))])])])
def st3 : CS := sSet 6 (xBin .Mult (xC (.str " ")) (xCall C11 "_law_take" 2 [(xV 1), (xC (.int 3))]))
def st4 : CS := sSet 7 (xMeth1 pg C11 (xC (.str "\n")) "join" (xBin .Add (xBin .Add (xV 5) (xLst [(xBin .Add (xV 6) (xV 3))])) (xCall C11 "_law_pick" 2 [(xV 1), (xLst [(xLst []), (xLst [(xC (.str "nonsense"))])])])))
def st5 : CS := sIf (cCmp .NotEq (xCall C11 "_law_refused" 1 [(xV 7)]) (xTup [(xBin .Add (xBlt "len" [(xV 5)]) (xC (.int 1))), (xBin .Add (xBlt "len" [(xV 6)]) (xCall C11 "_law_place" 2 [(xV 3), (xV 4)]))])) [sRet (xC (.bl false))] []
def combos : List (List Str × Str × List Str) := aheadL.flatMap fun a => blL.flatMap fun b => tailL.map fun t => (a, b, t)
def envOf (ns : List Int) (turn : Option W) (l : Str × Int) (c : List Str × Str × List Str) : Env' := [some (.frl (ns.map W.int)), some (.ref 0), turn, some (.str l.1), some (.int l.2), some (.lst (c.1.map W.str)), some (.str c.2.1), some (.str (textOf l.1 c.1 c.2.1 c.2.2)), none, none, none]
theorem rest_ok (ns : List Int) (k : Int) (e2 e3 e4 e5 e6 e7 : Option W) : exitR 0 (seqC ((c_law C11).drop 2) [some (.frl (ns.map W.int)), some (.ref 0), e2, e3, e4, e5, e6, e7, none, none, none] [drawO ns k]) = .ok (.bl true) [] := by kernel_rfl
theorem turn0 (ns : List Int) (k : Int) (turn : Option W) : combos.map (fun c => st5 (envOf ns turn (knownL.getD 0 (("" : Str), 0)) c) [drawO ns k]) = combos.map (fun c => .ok (.next (envOf ns turn (knownL.getD 0 (("" : Str), 0)) c)) [drawO ns k]) := by kernel_rfl
theorem turn1 (ns : List Int) (k : Int) (turn : Option W) : combos.map (fun c => st5 (envOf ns turn (knownL.getD 1 (("" : Str), 0)) c) [drawO ns k]) = combos.map (fun c => .ok (.next (envOf ns turn (knownL.getD 1 (("" : Str), 0)) c)) [drawO ns k]) := by kernel_rfl
theorem turn2 (ns : List Int) (k : Int) (turn : Option W) : combos.map (fun c => st5 (envOf ns turn (knownL.getD 2 (("" : Str), 0)) c) [drawO ns k]) = combos.map (fun c => .ok (.next (envOf ns turn (knownL.getD 2 (("" : Str), 0)) c)) [drawO ns k]) := by kernel_rfl
theorem turn3 (ns : List Int) (k : Int) (turn : Option W) : combos.map (fun c => st5 (envOf ns turn (knownL.getD 3 (("" : Str), 0)) c) [drawO ns k]) = combos.map (fun c => .ok (.next (envOf ns turn (knownL.getD 3 (("" : Str), 0)) c)) [drawO ns k]) := by kernel_rfl
theorem turn4 (ns : List Int) (k : Int) (turn : Option W) : combos.map (fun c => st5 (envOf ns turn (knownL.getD 4 (("" : Str), 0)) c) [drawO ns k]) = combos.map (fun c => .ok (.next (envOf ns turn (knownL.getD 4 (("" : Str), 0)) c)) [drawO ns k]) := by kernel_rfl
theorem turn5 (ns : List Int) (k : Int) (turn : Option W) : combos.map (fun c => st5 (envOf ns turn (knownL.getD 5 (("" : Str), 0)) c) [drawO ns k]) = combos.map (fun c => .ok (.next (envOf ns turn (knownL.getD 5 (("" : Str), 0)) c)) [drawO ns k]) := by kernel_rfl
theorem turn6 (ns : List Int) (k : Int) (turn : Option W) : combos.map (fun c => st5 (envOf ns turn (knownL.getD 6 (("" : Str), 0)) c) [drawO ns k]) = combos.map (fun c => .ok (.next (envOf ns turn (knownL.getD 6 (("" : Str), 0)) c)) [drawO ns k]) := by kernel_rfl
theorem turn7 (ns : List Int) (k : Int) (turn : Option W) : combos.map (fun c => st5 (envOf ns turn (knownL.getD 7 (("" : Str), 0)) c) [drawO ns k]) = combos.map (fun c => .ok (.next (envOf ns turn (knownL.getD 7 (("" : Str), 0)) c)) [drawO ns k]) := by kernel_rfl
theorem turn8 (ns : List Int) (k : Int) (turn : Option W) : combos.map (fun c => st5 (envOf ns turn (knownL.getD 8 (("" : Str), 0)) c) [drawO ns k]) = combos.map (fun c => .ok (.next (envOf ns turn (knownL.getD 8 (("" : Str), 0)) c)) [drawO ns k]) := by kernel_rfl
theorem turn9 (ns : List Int) (k : Int) (turn : Option W) : combos.map (fun c => st5 (envOf ns turn (knownL.getD 9 (("" : Str), 0)) c) [drawO ns k]) = combos.map (fun c => .ok (.next (envOf ns turn (knownL.getD 9 (("" : Str), 0)) c)) [drawO ns k]) := by kernel_rfl
theorem turn10 (ns : List Int) (k : Int) (turn : Option W) : combos.map (fun c => st5 (envOf ns turn (knownL.getD 10 (("" : Str), 0)) c) [drawO ns k]) = combos.map (fun c => .ok (.next (envOf ns turn (knownL.getD 10 (("" : Str), 0)) c)) [drawO ns k]) := by kernel_rfl
theorem turn11 (ns : List Int) (k : Int) (turn : Option W) : combos.map (fun c => st5 (envOf ns turn (knownL.getD 11 (("" : Str), 0)) c) [drawO ns k]) = combos.map (fun c => .ok (.next (envOf ns turn (knownL.getD 11 (("" : Str), 0)) c)) [drawO ns k]) := by kernel_rfl
theorem turn12 (ns : List Int) (k : Int) (turn : Option W) : combos.map (fun c => st5 (envOf ns turn (knownL.getD 12 (("" : Str), 0)) c) [drawO ns k]) = combos.map (fun c => .ok (.next (envOf ns turn (knownL.getD 12 (("" : Str), 0)) c)) [drawO ns k]) := by kernel_rfl
theorem turn13 (ns : List Int) (k : Int) (turn : Option W) : combos.map (fun c => st5 (envOf ns turn (knownL.getD 13 (("" : Str), 0)) c) [drawO ns k]) = combos.map (fun c => .ok (.next (envOf ns turn (knownL.getD 13 (("" : Str), 0)) c)) [drawO ns k]) := by kernel_rfl
theorem turn14 (ns : List Int) (k : Int) (turn : Option W) : combos.map (fun c => st5 (envOf ns turn (knownL.getD 14 (("" : Str), 0)) c) [drawO ns k]) = combos.map (fun c => .ok (.next (envOf ns turn (knownL.getD 14 (("" : Str), 0)) c)) [drawO ns k]) := by kernel_rfl
theorem turn15 (ns : List Int) (k : Int) (turn : Option W) : combos.map (fun c => st5 (envOf ns turn (knownL.getD 15 (("" : Str), 0)) c) [drawO ns k]) = combos.map (fun c => .ok (.next (envOf ns turn (knownL.getD 15 (("" : Str), 0)) c)) [drawO ns k]) := by kernel_rfl
theorem turn16 (ns : List Int) (k : Int) (turn : Option W) : combos.map (fun c => st5 (envOf ns turn (knownL.getD 16 (("" : Str), 0)) c) [drawO ns k]) = combos.map (fun c => .ok (.next (envOf ns turn (knownL.getD 16 (("" : Str), 0)) c)) [drawO ns k]) := by kernel_rfl
theorem turn17 (ns : List Int) (k : Int) (turn : Option W) : combos.map (fun c => st5 (envOf ns turn (knownL.getD 17 (("" : Str), 0)) c) [drawO ns k]) = combos.map (fun c => .ok (.next (envOf ns turn (knownL.getD 17 (("" : Str), 0)) c)) [drawO ns k]) := by kernel_rfl
theorem turn18 (ns : List Int) (k : Int) (turn : Option W) : combos.map (fun c => st5 (envOf ns turn (knownL.getD 18 (("" : Str), 0)) c) [drawO ns k]) = combos.map (fun c => .ok (.next (envOf ns turn (knownL.getD 18 (("" : Str), 0)) c)) [drawO ns k]) := by kernel_rfl
theorem turn19 (ns : List Int) (k : Int) (turn : Option W) : combos.map (fun c => st5 (envOf ns turn (knownL.getD 19 (("" : Str), 0)) c) [drawO ns k]) = combos.map (fun c => .ok (.next (envOf ns turn (knownL.getD 19 (("" : Str), 0)) c)) [drawO ns k]) := by kernel_rfl
theorem turn20 (ns : List Int) (k : Int) (turn : Option W) : combos.map (fun c => st5 (envOf ns turn (knownL.getD 20 (("" : Str), 0)) c) [drawO ns k]) = combos.map (fun c => .ok (.next (envOf ns turn (knownL.getD 20 (("" : Str), 0)) c)) [drawO ns k]) := by kernel_rfl
theorem turn21 (ns : List Int) (k : Int) (turn : Option W) : combos.map (fun c => st5 (envOf ns turn (knownL.getD 21 (("" : Str), 0)) c) [drawO ns k]) = combos.map (fun c => .ok (.next (envOf ns turn (knownL.getD 21 (("" : Str), 0)) c)) [drawO ns k]) := by kernel_rfl
theorem turn22 (ns : List Int) (k : Int) (turn : Option W) : combos.map (fun c => st5 (envOf ns turn (knownL.getD 22 (("" : Str), 0)) c) [drawO ns k]) = combos.map (fun c => .ok (.next (envOf ns turn (knownL.getD 22 (("" : Str), 0)) c)) [drawO ns k]) := by kernel_rfl
theorem turn23 (ns : List Int) (k : Int) (turn : Option W) : combos.map (fun c => st5 (envOf ns turn (knownL.getD 23 (("" : Str), 0)) c) [drawO ns k]) = combos.map (fun c => .ok (.next (envOf ns turn (knownL.getD 23 (("" : Str), 0)) c)) [drawO ns k]) := by kernel_rfl
theorem turn24 (ns : List Int) (k : Int) (turn : Option W) : combos.map (fun c => st5 (envOf ns turn (knownL.getD 24 (("" : Str), 0)) c) [drawO ns k]) = combos.map (fun c => .ok (.next (envOf ns turn (knownL.getD 24 (("" : Str), 0)) c)) [drawO ns k]) := by kernel_rfl
theorem turn25 (ns : List Int) (k : Int) (turn : Option W) : combos.map (fun c => st5 (envOf ns turn (knownL.getD 25 (("" : Str), 0)) c) [drawO ns k]) = combos.map (fun c => .ok (.next (envOf ns turn (knownL.getD 25 (("" : Str), 0)) c)) [drawO ns k]) := by kernel_rfl
theorem turn26 (ns : List Int) (k : Int) (turn : Option W) : combos.map (fun c => st5 (envOf ns turn (knownL.getD 26 (("" : Str), 0)) c) [drawO ns k]) = combos.map (fun c => .ok (.next (envOf ns turn (knownL.getD 26 (("" : Str), 0)) c)) [drawO ns k]) := by kernel_rfl
theorem turn27 (ns : List Int) (k : Int) (turn : Option W) : combos.map (fun c => st5 (envOf ns turn (knownL.getD 27 (("" : Str), 0)) c) [drawO ns k]) = combos.map (fun c => .ok (.next (envOf ns turn (knownL.getD 27 (("" : Str), 0)) c)) [drawO ns k]) := by kernel_rfl
theorem turn28 (ns : List Int) (k : Int) (turn : Option W) : combos.map (fun c => st5 (envOf ns turn (knownL.getD 28 (("" : Str), 0)) c) [drawO ns k]) = combos.map (fun c => .ok (.next (envOf ns turn (knownL.getD 28 (("" : Str), 0)) c)) [drawO ns k]) := by kernel_rfl
theorem turn29 (ns : List Int) (k : Int) (turn : Option W) : combos.map (fun c => st5 (envOf ns turn (knownL.getD 29 (("" : Str), 0)) c) [drawO ns k]) = combos.map (fun c => .ok (.next (envOf ns turn (knownL.getD 29 (("" : Str), 0)) c)) [drawO ns k]) := by kernel_rfl
theorem turn30 (ns : List Int) (k : Int) (turn : Option W) : combos.map (fun c => st5 (envOf ns turn (knownL.getD 30 (("" : Str), 0)) c) [drawO ns k]) = combos.map (fun c => .ok (.next (envOf ns turn (knownL.getD 30 (("" : Str), 0)) c)) [drawO ns k]) := by kernel_rfl
theorem turn31 (ns : List Int) (k : Int) (turn : Option W) : combos.map (fun c => st5 (envOf ns turn (knownL.getD 31 (("" : Str), 0)) c) [drawO ns k]) = combos.map (fun c => .ok (.next (envOf ns turn (knownL.getD 31 (("" : Str), 0)) c)) [drawO ns k]) := by kernel_rfl
theorem turn32 (ns : List Int) (k : Int) (turn : Option W) : combos.map (fun c => st5 (envOf ns turn (knownL.getD 32 (("" : Str), 0)) c) [drawO ns k]) = combos.map (fun c => .ok (.next (envOf ns turn (knownL.getD 32 (("" : Str), 0)) c)) [drawO ns k]) := by kernel_rfl
theorem turn33 (ns : List Int) (k : Int) (turn : Option W) : combos.map (fun c => st5 (envOf ns turn (knownL.getD 33 (("" : Str), 0)) c) [drawO ns k]) = combos.map (fun c => .ok (.next (envOf ns turn (knownL.getD 33 (("" : Str), 0)) c)) [drawO ns k]) := by kernel_rfl
theorem turn34 (ns : List Int) (k : Int) (turn : Option W) : combos.map (fun c => st5 (envOf ns turn (knownL.getD 34 (("" : Str), 0)) c) [drawO ns k]) = combos.map (fun c => .ok (.next (envOf ns turn (knownL.getD 34 (("" : Str), 0)) c)) [drawO ns k]) := by kernel_rfl
theorem turn35 (ns : List Int) (k : Int) (turn : Option W) : combos.map (fun c => st5 (envOf ns turn (knownL.getD 35 (("" : Str), 0)) c) [drawO ns k]) = combos.map (fun c => .ok (.next (envOf ns turn (knownL.getD 35 (("" : Str), 0)) c)) [drawO ns k]) := by kernel_rfl
theorem turn36 (ns : List Int) (k : Int) (turn : Option W) : combos.map (fun c => st5 (envOf ns turn (knownL.getD 36 (("" : Str), 0)) c) [drawO ns k]) = combos.map (fun c => .ok (.next (envOf ns turn (knownL.getD 36 (("" : Str), 0)) c)) [drawO ns k]) := by kernel_rfl
theorem turn37 (ns : List Int) (k : Int) (turn : Option W) : combos.map (fun c => st5 (envOf ns turn (knownL.getD 37 (("" : Str), 0)) c) [drawO ns k]) = combos.map (fun c => .ok (.next (envOf ns turn (knownL.getD 37 (("" : Str), 0)) c)) [drawO ns k]) := by kernel_rfl
theorem turn_all (ns : List Int) (k : Int) (turn : Option W) : ∀ i, i < 38 → ∀ c ∈ combos, st5 (envOf ns turn (knownL.getD i (("" : Str), 0)) c) [drawO ns k] = .ok (.next (envOf ns turn (knownL.getD i (("" : Str), 0)) c)) [drawO ns k]
  | 0, _ => List.map_inj_left.mp (turn0 ns k turn)
  | 1, _ => List.map_inj_left.mp (turn1 ns k turn)
  | 2, _ => List.map_inj_left.mp (turn2 ns k turn)
  | 3, _ => List.map_inj_left.mp (turn3 ns k turn)
  | 4, _ => List.map_inj_left.mp (turn4 ns k turn)
  | 5, _ => List.map_inj_left.mp (turn5 ns k turn)
  | 6, _ => List.map_inj_left.mp (turn6 ns k turn)
  | 7, _ => List.map_inj_left.mp (turn7 ns k turn)
  | 8, _ => List.map_inj_left.mp (turn8 ns k turn)
  | 9, _ => List.map_inj_left.mp (turn9 ns k turn)
  | 10, _ => List.map_inj_left.mp (turn10 ns k turn)
  | 11, _ => List.map_inj_left.mp (turn11 ns k turn)
  | 12, _ => List.map_inj_left.mp (turn12 ns k turn)
  | 13, _ => List.map_inj_left.mp (turn13 ns k turn)
  | 14, _ => List.map_inj_left.mp (turn14 ns k turn)
  | 15, _ => List.map_inj_left.mp (turn15 ns k turn)
  | 16, _ => List.map_inj_left.mp (turn16 ns k turn)
  | 17, _ => List.map_inj_left.mp (turn17 ns k turn)
  | 18, _ => List.map_inj_left.mp (turn18 ns k turn)
  | 19, _ => List.map_inj_left.mp (turn19 ns k turn)
  | 20, _ => List.map_inj_left.mp (turn20 ns k turn)
  | 21, _ => List.map_inj_left.mp (turn21 ns k turn)
  | 22, _ => List.map_inj_left.mp (turn22 ns k turn)
  | 23, _ => List.map_inj_left.mp (turn23 ns k turn)
  | 24, _ => List.map_inj_left.mp (turn24 ns k turn)
  | 25, _ => List.map_inj_left.mp (turn25 ns k turn)
  | 26, _ => List.map_inj_left.mp (turn26 ns k turn)
  | 27, _ => List.map_inj_left.mp (turn27 ns k turn)
  | 28, _ => List.map_inj_left.mp (turn28 ns k turn)
  | 29, _ => List.map_inj_left.mp (turn29 ns k turn)
  | 30, _ => List.map_inj_left.mp (turn30 ns k turn)
  | 31, _ => List.map_inj_left.mp (turn31 ns k turn)
  | 32, _ => List.map_inj_left.mp (turn32 ns k turn)
  | 33, _ => List.map_inj_left.mp (turn33 ns k turn)
  | 34, _ => List.map_inj_left.mp (turn34 ns k turn)
  | 35, _ => List.map_inj_left.mp (turn35 ns k turn)
  | 36, _ => List.map_inj_left.mp (turn36 ns k turn)
  | 37, _ => List.map_inj_left.mp (turn37 ns k turn)
  | i + 38, h => by omega
theorem draws : Draws mir := ⟨⟨_, rfl, rfl, rfl, rfl, fun cl => rfl⟩, ⟨_, rfl, rfl, rfl, rfl, fun cl => rfl⟩, ⟨_, rfl, rfl, rfl, rfl, fun cl => rfl⟩⟩
theorem known_ok (ns : List Int) (k : Int) (env : Env') : xCall0 C11 "_law_known" 0 env [drawO ns k] = .ok (.lst (knownL.map toW)) [drawO ns k] := by kernel_rfl
theorem len_known : (knownL.map toW).length = 38 := by kernel_rfl
theorem step1 (ns : List Int) (hs : ns.length ≤ 63) (k : Int) (hk : 0 ≤ k) (e2 e3 e4 e5 e6 e7 : Option W) : ∃ i, i < 38 ∧
    st1 [some (.frl (ns.map W.int)), some (.ref 0), e2, e3, e4, e5, e6, e7, none, none, none] [drawO ns k] = .ok (.next [some (.frl (ns.map W.int)), some (.ref 0), e2, some (.str (knownL.getD i ((("" : Str), 0))).1), some (.int (knownL.getD i ((("" : Str), 0))).2), e5, e6, e7, none, none, none]) [drawO ns (k + 1)] := by
  obtain ⟨i, hi, e⟩ := pick_ok draws 8 [drawO ns k] 0 ns k (knownL.map toW) hs hk (by rw [len_known]; decide) rfl
  refine ⟨i, by rw [len_known] at hi; exact hi, ?_⟩
  have hi' : i < knownL.length := by simpa using hi
  have x : (knownL.map toW)[i]'hi = toW (knownL.getD i ((("" : Str), 0))) := by
    rw [List.getElem_map, List.getD_eq_getElem?_getD, List.getElem?_eq_getElem hi']
    rfl
  rw [x] at e
  have c1 : xCall C11 "_law_pick" 2 [(xV 1), (xCall0 C11 "_law_known" 0)] [some (.frl (ns.map W.int)), some (.ref 0), e2, e3, e4, e5, e6, e7, none, none, none] [drawO ns k] = .ok (toW (knownL.getD i ((("" : Str), 0)))) [drawO ns (k + 1)] :=
    xCall_ok (ws := [.ref 0, .lst (knownL.map toW)]) (S1 := [drawO ns k]) (mapC_cons rfl (mapC_cons (known_ok ns k _) rfl)) rfl e
  unfold st1 sSetT
  rw [c1]
  rfl
theorem step2 (ns : List Int) (hs : ns.length ≤ 63) (k : Int) (hk : 0 ≤ k) (e2 e3 e4 e5 e6 e7 : Option W) : ∃ a ∈ aheadL,
    st2 [some (.frl (ns.map W.int)), some (.ref 0), e2, e3, e4, e5, e6, e7, none, none, none] [drawO ns k] = .ok (.next [some (.frl (ns.map W.int)), some (.ref 0), e2, e3, e4, some (.lst (a.map W.str)), e6, e7, none, none, none]) [drawO ns (k + 1)] := by
  obtain ⟨i, hi, e⟩ := pick_ok draws 8 [drawO ns k] 0 ns k (aheadL.map fun a => W.lst (a.map W.str)) hs hk (by decide) rfl
  have hi' : i < aheadL.length := by simpa using hi
  refine ⟨aheadL[i], List.getElem_mem hi', ?_⟩
  rw [List.getElem_map] at e
  unfold st2
  exact sSet_ok (xCall_ok (ws := [.ref 0, .lst (aheadL.map fun a => W.lst (a.map W.str))]) (S1 := [drawO ns k]) rfl rfl e)
theorem step3 (ns : List Int) (hs : ns.length ≤ 63) (k : Int) (hk : 0 ≤ k) (e2 e3 e4 e5 e6 e7 : Option W) : ∃ b ∈ blL,
    st3 [some (.frl (ns.map W.int)), some (.ref 0), e2, e3, e4, e5, e6, e7, none, none, none] [drawO ns k] = .ok (.next [some (.frl (ns.map W.int)), some (.ref 0), e2, e3, e4, e5, some (.str b), e7, none, none, none]) [drawO ns (k + 1)] := by
  obtain ⟨r, h0, h3, e⟩ := take_ok draws 9 [drawO ns k] 0 ns k 3 hs hk (by decide) rfl
  have go : ∀ b : Str, binop [drawO ns (k + 1)] .Mult (.str " ") (.int r) = some (.str b) → st3 [some (.frl (ns.map W.int)), some (.ref 0), e2, e3, e4, e5, e6, e7, none, none, none] [drawO ns k] = .ok (.next [some (.frl (ns.map W.int)), some (.ref 0), e2, e3, e4, e5, some (.str b), e7, none, none, none]) [drawO ns (k + 1)] := fun b hb => by
    unfold st3
    exact sSet_ok (xBin_ok rfl (xCall_ok (ws := [.ref 0, .int 3]) (S1 := [drawO ns k]) rfl rfl e) hb)
  obtain rfl | rfl | rfl : r = 0 ∨ r = 1 ∨ r = 2 := by omega
  · exact ⟨"", by decide +kernel, go _ (by kernel_rfl)⟩
  · exact ⟨" ", by decide +kernel, go _ (by kernel_rfl)⟩
  · exact ⟨"  ", by decide +kernel, go _ (by kernel_rfl)⟩
def tailW (t : List Str) : W := .lst (t.map W.str)
theorem text_all (ns : List Int) (k : Int) (e2 : Option W) (i : Nat) (hi : i < 38) : ∀ c ∈ combos, ∀ hb : cdC mir 11 "_law_pick" [.ref 0, .lst (tailL.map tailW)] [drawO ns k] = .ok (tailW c.2.2) [drawO ns (k + 1)],
    ∀ e7, st4 [some (.frl (ns.map W.int)), some (.ref 0), e2, some (.str (knownL.getD i ((("" : Str), 0))).1), some (.int (knownL.getD i ((("" : Str), 0))).2), some (.lst (c.1.map W.str)), some (.str c.2.1), e7, none, none, none] [drawO ns k] = .ok (.next (envOf ns e2 (knownL.getD i ((("" : Str), 0))) c)) [drawO ns (k + 1)] := by
  intro c hc hb e7
  have key : ∀ i, i < 38 → ∀ c ∈ combos, small ((c.2.1).length + ((knownL.getD i ((("" : Str), 0))).1).length) = true ∧ strsW (((c.1.map W.str) ++ [W.str (appS c.2.1 (knownL.getD i ((("" : Str), 0))).1)]) ++ c.2.2.map W.str) = some ((c.1 ++ [appS c.2.1 (knownL.getD i ((("" : Str), 0))).1]) ++ c.2.2) ∧
      decide ((((c.1 ++ [appS c.2.1 (knownL.getD i ((("" : Str), 0))).1]) ++ c.2.2).map (·.length)).sum + ((c.1 ++ [appS c.2.1 (knownL.getD i ((("" : Str), 0))).1]) ++ c.2.2).length * ("\n" : Str).length ≤ 16777216) = true ∧
      small ((c.1.map W.str).length + 1) = true ∧ small (((c.1.map W.str) ++ [W.str (appS c.2.1 (knownL.getD i ((("" : Str), 0))).1)]).length + (c.2.2.map W.str).length) = true := by
    have z : (List.range 38).all (fun i => combos.all fun c => small ((c.2.1).length + ((knownL.getD i ((("" : Str), 0))).1).length) && (decide ((((c.1 ++ [appS c.2.1 (knownL.getD i ((("" : Str), 0))).1]) ++ c.2.2).map (·.length)).sum + ((c.1 ++ [appS c.2.1 (knownL.getD i ((("" : Str), 0))).1]) ++ c.2.2).length * ("\n" : Str).length ≤ 16777216) &&
      (small ((c.1.map W.str).length + 1) && small (((c.1.map W.str) ++ [W.str (appS c.2.1 (knownL.getD i ((("" : Str), 0))).1)]).length + (c.2.2.map W.str).length)))) = true := by kernel_rfl
    intro i hi c hc
    have z1 := List.all_eq_true.mp (List.all_eq_true.mp z i (List.mem_range.mpr hi)) c hc
    simp only [Bool.and_eq_true] at z1
    refine ⟨z1.1, ?_, z1.2.1, z1.2.2.1, z1.2.2.2⟩
    have sw : ∀ l : List Str, strsW (l.map W.str) = some l := by
      intro l
      induction l with
      | nil => rfl
      | cons x r ih =>
        show (strsW (r.map W.str)).map (x :: ·) = _
        rw [ih]
        rfl
    have e : ((c.1.map W.str) ++ [W.str (appS c.2.1 (knownL.getD i ((("" : Str), 0))).1)]) ++ c.2.2.map W.str = ((c.1 ++ [appS c.2.1 (knownL.getD i ((("" : Str), 0))).1]) ++ c.2.2).map W.str := by simp
    rw [e, sw]
  obtain ⟨k1, k2, k3, k4, k5⟩ := key i hi c hc
  have a1 : ∀ env : Env', env = [some (.frl (ns.map W.int)), some (.ref 0), e2, some (.str (knownL.getD i ((("" : Str), 0))).1), some (.int (knownL.getD i ((("" : Str), 0))).2), some (.lst (c.1.map W.str)), some (.str c.2.1), e7, none, none, none] →
      (xBin .Add (xBin .Add (xV 5) (xLst [(xBin .Add (xV 6) (xV 3))])) (xCall C11 "_law_pick" 2 [(xV 1), (xLst [(xLst []), (xLst [(xC (.str "nonsense"))])])])) env [drawO ns k] = .ok (.lst (((c.1.map W.str) ++ [.str (appS c.2.1 (knownL.getD i ((("" : Str), 0))).1)]) ++ c.2.2.map W.str)) [drawO ns (k + 1)] := by
    rintro env rfl
    refine xBin_ok (S1 := [drawO ns k]) (x := .lst ((c.1.map W.str) ++ [.str (appS c.2.1 (knownL.getD i ((("" : Str), 0))).1)])) (y := .lst (c.2.2.map W.str)) (xBin_ok (x := .lst (c.1.map W.str)) (y := .lst [.str (appS c.2.1 (knownL.getD i ((("" : Str), 0))).1)]) rfl ?_ ?_) (xCall_ok (ws := [.ref 0, .lst (tailL.map tailW)]) (S1 := [drawO ns k]) rfl rfl hb) ?_
    · have k1' : binop [drawO ns k] .Add (.str c.2.1) (.str (knownL.getD i (((("" : Str), 0)))).1) = some (.str (appS c.2.1 (knownL.getD i (((("" : Str), 0)))).1)) := if_pos k1
      unfold xLst
      rw [mapC_cons (xBin_ok (x := .str c.2.1) (y := .str (knownL.getD i ((("" : Str), 0))).1) (w := .str (appS c.2.1 (knownL.getD i ((("" : Str), 0))).1)) rfl rfl k1') rfl]
      rfl
    · exact if_pos k4
    · exact if_pos k5
  unfold st4
  refine sSet_ok (w := .str (textOf (knownL.getD i ((("" : Str), 0))).1 c.1 c.2.1 c.2.2)) ?_
  unfold xMeth1 xMeth
  show (noExc (R.ok (W.str "\n") [drawO ns k])).bind _ = _
  rw [noExc_ok, bind_ok]
  show mB1 "join" _ _ _ (W.str "\n") = _
  unfold mB1
  show guard' (isStrM "join") _ = _
  rw [show isStrM "join" = true from rfl, guard_true, a1 _ rfl, bind_ok]
  have bj : bmStr [drawO ns (k + 1)] "join" "\n" (.lst (((c.1.map W.str) ++ [.str (appS c.2.1 (knownL.getD i ((("" : Str), 0))).1)]) ++ c.2.2.map W.str)) = some (.str (textOf (knownL.getD i ((("" : Str), 0))).1 c.1 c.2.1 c.2.2)) := by
    show (match strsW (((c.1.map W.str) ++ [W.str (appS c.2.1 (knownL.getD i ((("" : Str), 0))).1)]) ++ c.2.2.map W.str) with
      | some ys => if (ys.map fun y : Str => y.length).sum + ys.length * ("\n" : Str).length ≤ 16777216 then some (W.str (joinF "\n" ys)) else none
      | none => none) = _
    rw [k2]
    exact if_pos (of_decide_eq_true k3)
  rw [bj]
  rfl
theorem combos_mem {a : List Str} {b : Str} {t : List Str} (ha : a ∈ aheadL) (hb : b ∈ blL) (ht : t ∈ tailL) : (a, b, t) ∈ combos := by
  unfold combos
  rw [List.mem_flatMap]
  refine ⟨a, ha, ?_⟩
  rw [List.mem_flatMap]
  refine ⟨b, hb, ?_⟩
  rw [List.mem_map]
  exact ⟨t, ht, rfl⟩
theorem turn_ok (ns : List Int) (hs : ns.length ≤ 63) (k : Int) (hk : 0 ≤ k) (e2 e3 e4 e5 e6 e7 : Option W) : ∃ f3 f4 f5 f6 f7,
    seqC [st1, st2, st3, st4, st5] [some (.frl (ns.map W.int)), some (.ref 0), e2, e3, e4, e5, e6, e7, none, none, none] [drawO ns k] = .ok (.next [some (.frl (ns.map W.int)), some (.ref 0), e2, f3, f4, f5, f6, f7, none, none, none]) [drawO ns (k + 1 + 1 + 1 + 1)] := by
  obtain ⟨i, hi, s1⟩ := step1 ns hs k hk e2 e3 e4 e5 e6 e7
  rw [seqC_next s1]
  obtain ⟨a, ha, s2⟩ := step2 ns hs (k + 1) (by omega) e2 (some (.str (knownL.getD i ((("" : Str), 0))).1)) (some (.int (knownL.getD i ((("" : Str), 0))).2)) e5 e6 e7
  rw [seqC_next s2]
  obtain ⟨b, hb, s3⟩ := step3 ns hs (k + 1 + 1) (by omega) e2 (some (.str (knownL.getD i ((("" : Str), 0))).1)) (some (.int (knownL.getD i ((("" : Str), 0))).2)) (some (.lst (a.map W.str))) e6 e7
  rw [seqC_next s3]
  obtain ⟨j, hj, e⟩ := pick_ok draws 8 [drawO ns (k + 1 + 1 + 1)] 0 ns (k + 1 + 1 + 1) (tailL.map tailW) hs (by omega) (by decide) rfl
  have hj' : j < tailL.length := by simpa using hj
  rw [List.getElem_map] at e
  have hm := combos_mem ha hb (List.getElem_mem hj')
  rw [seqC_next (text_all ns (k + 1 + 1 + 1) e2 i hi _ hm e e7)]
  rw [seqC_next (turn_all ns (k + 1 + 1 + 1 + 1) e2 i hi _ hm)]
  exact ⟨_, _, _, _, _, rfl⟩
theorem loop_ok (ns : List Int) (hs : ns.length ≤ 63) : ∀ (items : List W) (k : Int), 0 ≤ k → ∀ (e2 e3 e4 e5 e6 e7 : Option W), ∃ (k' : Int) (f2 f3 f4 f5 f6 f7 : Option W),
    forR (fun env S => seqC [st1, st2, st3, st4, st5] env S) (bN 2) (fun _ => true) items [some (.frl (ns.map W.int)), some (.ref 0), e2, e3, e4, e5, e6, e7, none, none, none] [drawO ns k] = .ok (.next [some (.frl (ns.map W.int)), some (.ref 0), f2, f3, f4, f5, f6, f7, none, none, none]) [drawO ns k']
  | [], k, _, e2, e3, e4, e5, e6, e7 => ⟨k, e2, e3, e4, e5, e6, e7, rfl⟩
  | w :: ws, k, hk, e2, e3, e4, e5, e6, e7 => by
    obtain ⟨f3, f4, f5, f6, f7, h⟩ := turn_ok ns hs k hk (some w) e3 e4 e5 e6 e7
    obtain ⟨k', g2, g3, g4, g5, g6, g7, h2⟩ := loop_ok ns hs ws (k + 1 + 1 + 1 + 1) (by omega) (some w) f3 f4 f5 f6 f7
    refine ⟨k', g2, g3, g4, g5, g6, g7, ?_⟩
    rw [← h2]
    show guard' true ((seqC [st1, st2, st3, st4, st5] [some (.frl (ns.map W.int)), some (.ref 0), some w, e3, e4, e5, e6, e7, none, none, none] [drawO ns k]).bind _) = _
    rw [guard_true, h]
    rfl
theorem law_true (ns : List Int) (hs : ns.length ≤ 63) : callD pg fns 12 "law" [.frl (ns.map W.int)] [] = .ok (.bl true) [] := by
  rw [callD_eq]
  have e : cdC mir 12 "law" [.frl (ns.map W.int)] [] = exitR 0 (seqC (c_law C11) [some (.frl (ns.map W.int)), none, none, none, none, none, none, none, none, none, none] []) := cdC_of (mir := mir) (d := 11) (f := "law") rfl rfl rfl
  rw [e]
  have s : c_law C11 = sSet 1 (xCell [(xV 0), (xC (.int 0))]) :: sFor (bN 2) (iRng1 (xC (.int 6))) [st1, st2, st3, st4, st5] :: (c_law C11).drop 2 := rfl
  rw [s, seqC_next (env' := [some (.frl (ns.map W.int)), some (.ref 0), none, none, none, none, none, none, none, none, none]) (S' := [drawO ns 0]) (by kernel_rfl)]
  obtain ⟨k', f2, f3, f4, f5, f6, f7, h⟩ := loop_ok ns hs ((List.range 6).map fun i : Nat => W.int ((0 : Int) + (i : Int))) 0 (by decide) none none none none none none
  have hf : sFor (bN 2) (iRng1 (xC (.int 6))) [st1, st2, st3, st4, st5] [some (.frl (ns.map W.int)), some (.ref 0), none, none, none, none, none, none, none, none, none] [drawO ns 0] = .ok (.next [some (.frl (ns.map W.int)), some (.ref 0), f2, f3, f4, f5, f6, f7, none, none, none]) [drawO ns k'] := by
    refine sFor_ok (items := still ((List.range 6).map fun i : Nat => W.int ((0 : Int) + (i : Int)))) (S1 := [drawO ns 0]) rfl h
  rw [seqC_next hf]
  exact rest_ok ns k' f2 f3 f4 f5 f6 f7

/-! ### the head -/
abbrev s_BadPart___init__ : Stmt := inClass (top 3) 0
abbrev s_BadText___init__ : Stmt := inClass (top 4) 0
def d_is_whole : He.DefD := ⟨("is_whole", none), "is_whole", "is_whole", defArgs s_is_whole, defBody s_is_whole, defScope s_is_whole, [], []⟩
def d_is_name : He.DefD := ⟨("is_name", none), "is_name", "is_name", defArgs s_is_name, defBody s_is_name, defScope s_is_name, [], []⟩
def d_are_names : He.DefD := ⟨("are_names", none), "are_names", "are_names", defArgs s_are_names, defBody s_are_names, defScope s_are_names, [], []⟩
def d_is_type : He.DefD := ⟨("is_type", none), "is_type", "is_type", defArgs s_is_type, defBody s_is_type, defScope s_is_type, [], []⟩
def d_is_number_word : He.DefD := ⟨("is_number_word", none), "is_number_word", "is_number_word", defArgs s_is_number_word, defBody s_is_number_word, defScope s_is_number_word, [], []⟩
def d_is_bound : He.DefD := ⟨("is_bound", none), "is_bound", "is_bound", defArgs s_is_bound, defBody s_is_bound, defScope s_is_bound, [], []⟩
def d_is_takes : He.DefD := ⟨("is_takes", none), "is_takes", "is_takes", defArgs s_is_takes, defBody s_is_takes, defScope s_is_takes, [], []⟩
def d_Option___init__ : He.DefD := ⟨("Option", some "__init__"), "__init__", "Option.__init__", defArgs s_Option___init__, defBody s_Option___init__, defScope s_Option___init__, [.int (0), .non], []⟩
def d_Operand___init__ : He.DefD := ⟨("Operand", some "__init__"), "__init__", "Operand.__init__", defArgs s_Operand___init__, defBody s_Operand___init__, defScope s_Operand___init__, [.int (1), .int (1)], []⟩
def d_are_options : He.DefD := ⟨("are_options", none), "are_options", "are_options", defArgs s_are_options, defBody s_are_options, defScope s_are_options, [], []⟩
def d_are_operands : He.DefD := ⟨("are_operands", none), "are_operands", "are_operands", defArgs s_are_operands, defBody s_are_operands, defScope s_are_operands, [], []⟩
def d_are_commands : He.DefD := ⟨("are_commands", none), "are_commands", "are_commands", defArgs s_are_commands, defBody s_are_commands, defScope s_are_commands, [], []⟩
def d_are_traits : He.DefD := ⟨("are_traits", none), "are_traits", "are_traits", defArgs s_are_traits, defBody s_are_traits, defScope s_are_traits, [], []⟩
def d_is_condition : He.DefD := ⟨("is_condition", none), "is_condition", "is_condition", defArgs s_is_condition, defBody s_is_condition, defScope s_is_condition, [], []⟩
def d_Table___init__ : He.DefD := ⟨("Table", some "__init__"), "__init__", "Table.__init__", defArgs s_Table___init__, defBody s_Table___init__, defScope s_Table___init__, [.adr (He.dflAt ("Table", some "__init__") 0), .non, .adr (He.dflAt ("Table", some "__init__") 2), .adr (He.dflAt ("Table", some "__init__") 3)], []⟩
def d_Table_is_inner : He.DefD := ⟨("Table", some "is_inner"), "is_inner", "Table.is_inner", defArgs s_Table_is_inner, defBody s_Table_is_inner, defScope s_Table_is_inner, [], []⟩
def d_Table_names : He.DefD := ⟨("Table", some "names"), "names", "Table.names", defArgs s_Table_names, defBody s_Table_names, defScope s_Table_names, [], []⟩
def d_Table_letter_rows : He.DefD := ⟨("Table", some "letter_rows"), "letter_rows", "Table.letter_rows", defArgs s_Table_letter_rows, defBody s_Table_letter_rows, defScope s_Table_letter_rows, [], []⟩
def d_has_twins : He.DefD := ⟨("has_twins", none), "has_twins", "has_twins", defArgs s_has_twins, defBody s_has_twins, defScope s_has_twins, [], []⟩
def d_Line___init__ : He.DefD := ⟨("Line", some "__init__"), "__init__", "Line.__init__", defArgs s_Line___init__, defBody s_Line___init__, defScope s_Line___init__, [], []⟩
def d_Line__put : He.DefD := ⟨("Line", some "_put"), "_put", "Line._put", defArgs s_Line__put, defBody s_Line__put, defScope s_Line__put, [], []⟩
def d_Line_peek : He.DefD := ⟨("Line", some "peek"), "peek", "Line.peek", defArgs s_Line_peek, defBody s_Line_peek, defScope s_Line_peek, [], []⟩
def d_Line_refuse : He.DefD := ⟨("Line", some "refuse"), "refuse", "Line.refuse", defArgs s_Line_refuse, defBody s_Line_refuse, defScope s_Line_refuse, [], []⟩
def d_Line_take : He.DefD := ⟨("Line", some "take"), "take", "Line.take", defArgs s_Line_take, defBody s_Line_take, defScope s_Line_take, [], []⟩
def d_Line_end : He.DefD := ⟨("Line", some "end"), "end", "Line.end", defArgs s_Line_end, defBody s_Line_end, defScope s_Line_end, [], []⟩
def d_span_of : He.DefD := ⟨("span_of", none), "span_of", "span_of", defArgs s_span_of, defBody s_span_of, defScope s_span_of, [], []⟩
def d_limits_of : He.DefD := ⟨("limits_of", none), "limits_of", "limits_of", defArgs s_limits_of, defBody s_limits_of, defScope s_limits_of, [], []⟩
def d_number_of : He.DefD := ⟨("number_of", none), "number_of", "number_of", defArgs s_number_of, defBody s_number_of, defScope s_number_of, [], []⟩
def d_read_span : He.DefD := ⟨("read_span", none), "read_span", "read_span", defArgs s_read_span, defBody s_read_span, defScope s_read_span, [], []⟩
def d_read_kind : He.DefD := ⟨("read_kind", none), "read_kind", "read_kind", defArgs s_read_kind, defBody s_read_kind, defScope s_read_kind, [], []⟩
def d_read_takes : He.DefD := ⟨("read_takes", none), "read_takes", "read_takes", defArgs s_read_takes, defBody s_read_takes, defScope s_read_takes, [], []⟩
def d_read_option : He.DefD := ⟨("read_option", none), "read_option", "read_option", defArgs s_read_option, defBody s_read_option, defScope s_read_option, [], []⟩
def d_read_operand : He.DefD := ⟨("read_operand", none), "read_operand", "read_operand", defArgs s_read_operand, defBody s_read_operand, defScope s_read_operand, [], []⟩
def d_read_condition : He.DefD := ⟨("read_condition", none), "read_condition", "read_condition", defArgs s_read_condition, defBody s_read_condition, defScope s_read_condition, [], []⟩
def d_Parts___init__ : He.DefD := ⟨("Parts", some "__init__"), "__init__", "Parts.__init__", defArgs s_Parts___init__, defBody s_Parts___init__, defScope s_Parts___init__, [], []⟩
def d_Parts_put : He.DefD := ⟨("Parts", some "put"), "put", "Parts.put", defArgs s_Parts_put, defBody s_Parts_put, defScope s_Parts_put, [], []⟩
def d_read_table : He.DefD := ⟨("read_table", none), "read_table", "read_table", defArgs s_read_table, defBody s_read_table, defScope s_read_table, [], []⟩
def d__law_number : He.DefD := ⟨("_law_number", none), "_law_number", "_law_number", defArgs s__law_number, defBody s__law_number, defScope s__law_number, [], []⟩
def d__law_take : He.DefD := ⟨("_law_take", none), "_law_take", "_law_take", defArgs s__law_take, defBody s__law_take, defScope s__law_take, [], []⟩
def d__law_pick : He.DefD := ⟨("_law_pick", none), "_law_pick", "_law_pick", defArgs s__law_pick, defBody s__law_pick, defScope s__law_pick, [], []⟩
def d__law_refused : He.DefD := ⟨("_law_refused", none), "_law_refused", "_law_refused", defArgs s__law_refused, defBody s__law_refused, defScope s__law_refused, [], []⟩
def d__law_known : He.DefD := ⟨("_law_known", none), "_law_known", "_law_known", defArgs s__law_known, defBody s__law_known, defScope s__law_known, [], []⟩
def d__law_place : He.DefD := ⟨("_law_place", none), "_law_place", "_law_place", defArgs s__law_place, defBody s__law_place, defScope s__law_place, [], []⟩
def d_law : He.DefD := ⟨("law", none), "law", "law", defArgs s_law, defBody s_law, defScope s_law, [], []⟩
def d_BadPart___init__ : He.DefD := ⟨("BadPart", some "__init__"), "__init__", "BadPart.__init__", defArgs s_BadPart___init__, defBody s_BadPart___init__, defScope s_BadPart___init__, [], []⟩
def d_BadText___init__ : He.DefD := ⟨("BadText", some "__init__"), "__init__", "BadText.__init__", defArgs s_BadText___init__, defBody s_BadText___init__, defScope s_BadText___init__, [], []⟩
def hfn : List He.DefD := ([d_is_whole, d_is_name, d_are_names, d_is_type, d_is_number_word, d_is_bound, d_is_takes, d_Option___init__, d_Operand___init__, d_are_options, d_are_operands, d_are_commands, d_are_traits, d_is_condition, d_Table___init__, d_Table_is_inner, d_Table_names, d_Table_letter_rows, d_has_twins, d_Line___init__] : List He.DefD) ++ ([d_Line__put, d_Line_peek, d_Line_refuse, d_Line_take, d_Line_end, d_span_of, d_limits_of, d_number_of, d_read_span, d_read_kind, d_read_takes, d_read_option, d_read_operand, d_read_condition, d_Parts___init__, d_Parts_put, d_read_table, d__law_number, d__law_take, d__law_pick] : List He.DefD) ++ ([d__law_refused, d__law_known, d__law_place, d_law, d_BadPart___init__, d_BadText___init__] : List He.DefD)
def hfa : List He.Fa := [.glo "law"]
def hex (K : PySem.W.Frag) : Bool := tx.ok K
abbrev RR : PySem.W.OpenRow := PySem.W.OpenLaw.row PySem.Challenge.rw_switchyard_k08_refused_texts
abbrev hk : PySem.W.Hook := He.hookX 6 hfa hfn [] [] hex
def ob (s : PySem.W.SharedT) : He.AlX := He.obsX 6 hfa hfn [] [] hex (HandSHeadRun.getT s)
theorem ob_eq (s : PySem.W.SharedT) : ob s = hk.obs s.abs := He.obsX_eq (HandSHeadRun.getT_eq s)
def loose : List PySem.Str := (["_wall", "SwitchError", "BadPart", "BadText", "SMALL", "FIGURES", "MOST_CHOSEN", "FAR", "is_whole", "is_name", "are_names", "is_type", "is_number_word", "MOST_OPTIONS", "MOST_INNER", "MOST_OPERANDS", "MOST_COMMANDS", "MOST_TIMES", "MOST_CONDITIONS", "TRAITS"] : List PySem.Str) ++ (["OUTER_TRAITS", "is_bound", "is_takes", "Option", "Operand", "are_options", "are_operands", "are_commands", "are_traits", "is_condition", "Table", "has_twins", "Line", "span_of", "limits_of", "number_of", "read_span", "read_kind", "read_takes", "read_option"] : List PySem.Str) ++ (["read_operand", "read_condition", "Parts", "read_table", "_law_number", "_law_take", "_law_pick", "_law_refused", "_law_known", "_law_place"] : List PySem.Str)
theorem run (w : World) : HandSHeadRun.RunEq RR (PySem.W.view RR.prog [55]) hk ob 6000 loose w := by
  intro os
  kernel_rfl
theorem bx_BadPart___init__ : defBody s_BadPart___init__ = [keepSt "self" "part" "part" ⟨10, 8, 10, 12⟩ ⟨10, 8, 10, 17⟩ ⟨10, 20, 10, 24⟩ ⟨10, 8, 10, 24⟩] := by kernel_rfl
theorem bx_BadText___init__ : defBody s_BadText___init__ = [keepSt "self" "line" "line" ⟨14, 8, 14, 12⟩ ⟨14, 8, 14, 17⟩ ⟨14, 20, 14, 24⟩ ⟨14, 8, 14, 24⟩, keepSt "self" "column" "column" ⟨15, 8, 15, 12⟩ ⟨15, 8, 15, 19⟩ ⟨15, 22, 15, 28⟩ ⟨15, 8, 15, 28⟩] := by kernel_rfl
theorem txt {K : PySem.W.Frag} {h : Heap} {mg : Str → Option Value} (X : K.In h) (G : h.Ns mainGlobals mg) (c : He.SaysD hfa hfn K) (hk : tx.ok K = true) : letI := tx.gam K; Txt K mg pg fns := by
  letI := tx.gam K
  have q0 : Def K "is_whole" F_is_whole := by
    obtain ⟨fd, F⟩ := c.def_ 0 (d := d_is_whole) rfl
    exact ⟨⟨fd, _, _, _, _, F, FunD.bindsN F (ps := ["value", "low", "high"]) fun _ _ _ _ _ _ us hl => match us, hl with | [_, _, _], _ => rfl⟩, ⟨rfl, rfl, rfl, by decide +kernel, rfl, by decide +kernel, by decide +kernel⟩, rfl⟩
  have q1 : Def K "is_name" F_is_name := by
    obtain ⟨fd, F⟩ := c.def_ 1 (d := d_is_name) rfl
    exact ⟨⟨fd, _, _, _, _, F, FunD.bindsN F (ps := ["value"]) fun _ _ _ _ _ _ us hl => match us, hl with | [_], _ => rfl⟩, ⟨rfl, rfl, rfl, by decide +kernel, rfl, by decide +kernel, by decide +kernel⟩, rfl⟩
  have q2 : Def K "are_names" F_are_names := by
    obtain ⟨fd, F⟩ := c.def_ 2 (d := d_are_names) rfl
    exact ⟨⟨fd, _, _, _, _, F, FunD.bindsN F (ps := ["value", "least", "most"]) fun _ _ _ _ _ _ us hl => match us, hl with | [_, _, _], _ => rfl⟩, ⟨rfl, rfl, rfl, by decide +kernel, rfl, by decide +kernel, by decide +kernel⟩, rfl⟩
  have q3 : Def K "is_type" F_is_type := by
    obtain ⟨fd, F⟩ := c.def_ 3 (d := d_is_type) rfl
    exact ⟨⟨fd, _, _, _, _, F, FunD.bindsN F (ps := ["value"]) fun _ _ _ _ _ _ us hl => match us, hl with | [_], _ => rfl⟩, ⟨rfl, rfl, rfl, by decide +kernel, rfl, by decide +kernel, by decide +kernel⟩, rfl⟩
  have q4 : Def K "is_number_word" F_is_number_word := by
    obtain ⟨fd, F⟩ := c.def_ 4 (d := d_is_number_word) rfl
    exact ⟨⟨fd, _, _, _, _, F, FunD.bindsN F (ps := ["word", "low", "high"]) fun _ _ _ _ _ _ us hl => match us, hl with | [_, _, _], _ => rfl⟩, ⟨rfl, rfl, rfl, by decide +kernel, rfl, by decide +kernel, by decide +kernel⟩, rfl⟩
  have q5 : Def K "is_bound" F_is_bound := by
    obtain ⟨fd, F⟩ := c.def_ 5 (d := d_is_bound) rfl
    exact ⟨⟨fd, _, _, _, _, F, FunD.bindsN F (ps := ["high", "low"]) fun _ _ _ _ _ _ us hl => match us, hl with | [_, _], _ => rfl⟩, ⟨rfl, rfl, rfl, by decide +kernel, rfl, by decide +kernel, by decide +kernel⟩, rfl⟩
  have q6 : Def K "is_takes" F_is_takes := by
    obtain ⟨fd, F⟩ := c.def_ 6 (d := d_is_takes) rfl
    exact ⟨⟨fd, _, _, _, _, F, FunD.bindsN F (ps := ["value"]) fun _ _ _ _ _ _ us hl => match us, hl with | [_], _ => rfl⟩, ⟨rfl, rfl, rfl, by decide +kernel, rfl, by decide +kernel, by decide +kernel⟩, rfl⟩
  have q7 : Def K "Option.__init__" F_Option___init__ := by
    obtain ⟨fd, F⟩ := c.def_ 7 (d := d_Option___init__) rfl
    exact ⟨⟨fd, _, _, _, _, F, (by
      obtain ⟨ds, hv, hb⟩ := FunD.binds1 F (ps := ["self", "name", "letter", "takes", "low", "high"]) 6 2 (fun z => by cases z) rfl (fun T kV doc pm an cdv ct us its hu hi => match us, its, hu, hi with | [_, _, _, _, _, _], [_, _], _, _ => ⟨_, rfl, rfl⟩)
      have hv' : Vals [] ds := hv
      cases hv'
      exact hb)⟩, ⟨rfl, rfl, rfl, by decide +kernel, rfl, by decide +kernel, by decide +kernel⟩, rfl⟩
  have q8 : Def K "Operand.__init__" F_Operand___init__ := by
    obtain ⟨fd, F⟩ := c.def_ 8 (d := d_Operand___init__) rfl
    exact ⟨⟨fd, _, _, _, _, F, (by
      obtain ⟨ds, hv, hb⟩ := FunD.binds1 F (ps := ["self", "name", "kind", "few", "many"]) 5 2 (fun z => by cases z) rfl (fun T kV doc pm an cdv ct us its hu hi => match us, its, hu, hi with | [_, _, _, _, _], [_, _], _, _ => ⟨_, rfl, rfl⟩)
      have hv' : Vals [] ds := hv
      cases hv'
      exact hb)⟩, ⟨rfl, rfl, rfl, by decide +kernel, rfl, by decide +kernel, by decide +kernel⟩, rfl⟩
  have q9 : Def K "are_options" F_are_options := by
    obtain ⟨fd, F⟩ := c.def_ 9 (d := d_are_options) rfl
    exact ⟨⟨fd, _, _, _, _, F, FunD.bindsN F (ps := ["value"]) fun _ _ _ _ _ _ us hl => match us, hl with | [_], _ => rfl⟩, ⟨rfl, rfl, rfl, by decide +kernel, rfl, by decide +kernel, by decide +kernel⟩, rfl⟩
  have q10 : Def K "are_operands" F_are_operands := by
    obtain ⟨fd, F⟩ := c.def_ 10 (d := d_are_operands) rfl
    exact ⟨⟨fd, _, _, _, _, F, FunD.bindsN F (ps := ["value"]) fun _ _ _ _ _ _ us hl => match us, hl with | [_], _ => rfl⟩, ⟨rfl, rfl, rfl, by decide +kernel, rfl, by decide +kernel, by decide +kernel⟩, rfl⟩
  have q11 : Def K "are_commands" F_are_commands := by
    obtain ⟨fd, F⟩ := c.def_ 11 (d := d_are_commands) rfl
    exact ⟨⟨fd, _, _, _, _, F, FunD.bindsN F (ps := ["value"]) fun _ _ _ _ _ _ us hl => match us, hl with | [_], _ => rfl⟩, ⟨rfl, rfl, rfl, by decide +kernel, rfl, by decide +kernel, by decide +kernel⟩, rfl⟩
  have q12 : Def K "are_traits" F_are_traits := by
    obtain ⟨fd, F⟩ := c.def_ 12 (d := d_are_traits) rfl
    exact ⟨⟨fd, _, _, _, _, F, FunD.bindsN F (ps := ["value", "commands"]) fun _ _ _ _ _ _ us hl => match us, hl with | [_, _], _ => rfl⟩, ⟨rfl, rfl, rfl, by decide +kernel, rfl, by decide +kernel, by decide +kernel⟩, rfl⟩
  have q13 : Def K "is_condition" F_is_condition := by
    obtain ⟨fd, F⟩ := c.def_ 13 (d := d_is_condition) rfl
    exact ⟨⟨fd, _, _, _, _, F, FunD.bindsN F (ps := ["value", "names"]) fun _ _ _ _ _ _ us hl => match us, hl with | [_, _], _ => rfl⟩, ⟨rfl, rfl, rfl, by decide +kernel, rfl, by decide +kernel, by decide +kernel⟩, rfl⟩
  have q14 : Def K "Table.__init__" F_Table___init__ := by
    obtain ⟨fd, F⟩ := c.def_ 14 (d := d_Table___init__) rfl
    exact ⟨⟨fd, _, _, _, _, F, (by
      obtain ⟨ds, hv, hb⟩ := FunD.binds1 F (ps := ["self", "options", "operands", "commands", "traits", "conditions"]) 6 4 (fun z => by cases z) rfl (fun T kV doc pm an cdv ct us its hu hi => match us, its, hu, hi with | [_, _, _, _, _, _], [_, _, _, _], _, _ => ⟨_, rfl, rfl⟩)
      have hv' : Vals [] ds := hv
      cases hv'
      exact hb)⟩, ⟨rfl, rfl, rfl, by decide +kernel, rfl, by decide +kernel, by decide +kernel⟩, rfl⟩
  have q15 : Def K "Table.is_inner" F_Table_is_inner := by
    obtain ⟨fd, F⟩ := c.def_ 15 (d := d_Table_is_inner) rfl
    exact ⟨⟨fd, _, _, _, _, F, FunD.bindsN F (ps := ["self"]) fun _ _ _ _ _ _ us hl => match us, hl with | [_], _ => rfl⟩, ⟨rfl, rfl, rfl, by decide +kernel, rfl, by decide +kernel, by decide +kernel⟩, rfl⟩
  have q16 : Def K "Table.names" F_Table_names := by
    obtain ⟨fd, F⟩ := c.def_ 16 (d := d_Table_names) rfl
    exact ⟨⟨fd, _, _, _, _, F, FunD.bindsN F (ps := ["self"]) fun _ _ _ _ _ _ us hl => match us, hl with | [_], _ => rfl⟩, ⟨rfl, rfl, rfl, by decide +kernel, rfl, by decide +kernel, by decide +kernel⟩, rfl⟩
  have q17 : Def K "Table.letter_rows" F_Table_letter_rows := by
    obtain ⟨fd, F⟩ := c.def_ 17 (d := d_Table_letter_rows) rfl
    exact ⟨⟨fd, _, _, _, _, F, FunD.bindsN F (ps := ["self"]) fun _ _ _ _ _ _ us hl => match us, hl with | [_], _ => rfl⟩, ⟨rfl, rfl, rfl, by decide +kernel, rfl, by decide +kernel, by decide +kernel⟩, rfl⟩
  have q18 : Def K "has_twins" F_has_twins := by
    obtain ⟨fd, F⟩ := c.def_ 18 (d := d_has_twins) rfl
    exact ⟨⟨fd, _, _, _, _, F, FunD.bindsN F (ps := ["row"]) fun _ _ _ _ _ _ us hl => match us, hl with | [_], _ => rfl⟩, ⟨rfl, rfl, rfl, by decide +kernel, rfl, by decide +kernel, by decide +kernel⟩, rfl⟩
  have q19 : Def K "Line.__init__" F_Line___init__ := by
    obtain ⟨fd, F⟩ := c.def_ 19 (d := d_Line___init__) rfl
    exact ⟨⟨fd, _, _, _, _, F, FunD.bindsN F (ps := ["self", "number", "row"]) fun _ _ _ _ _ _ us hl => match us, hl with | [_, _, _], _ => rfl⟩, ⟨rfl, rfl, rfl, by decide +kernel, rfl, by decide +kernel, by decide +kernel⟩, rfl⟩
  have q20 : Def K "Line._put" F_Line__put := by
    obtain ⟨fd, F⟩ := c.def_ 20 (d := d_Line__put) rfl
    exact ⟨⟨fd, _, _, _, _, F, FunD.bindsN F (ps := ["self", "at", "sign", "row"]) fun _ _ _ _ _ _ us hl => match us, hl with | [_, _, _, _], _ => rfl⟩, ⟨rfl, rfl, rfl, by decide +kernel, rfl, by decide +kernel, by decide +kernel⟩, rfl⟩
  have q21 : Def K "Line.peek" F_Line_peek := by
    obtain ⟨fd, F⟩ := c.def_ 21 (d := d_Line_peek) rfl
    exact ⟨⟨fd, _, _, _, _, F, FunD.bindsN F (ps := ["self"]) fun _ _ _ _ _ _ us hl => match us, hl with | [_], _ => rfl⟩, ⟨rfl, rfl, rfl, by decide +kernel, rfl, by decide +kernel, by decide +kernel⟩, rfl⟩
  have q22 : Def K "Line.refuse" F_Line_refuse := by
    obtain ⟨fd, F⟩ := c.def_ 22 (d := d_Line_refuse) rfl
    exact ⟨⟨fd, _, _, _, _, F, FunD.bindsN F (ps := ["self"]) fun _ _ _ _ _ _ us hl => match us, hl with | [_], _ => rfl⟩, ⟨rfl, rfl, rfl, by decide +kernel, rfl, by decide +kernel, by decide +kernel⟩, rfl⟩
  have q23 : Def K "Line.take" F_Line_take := by
    obtain ⟨fd, F⟩ := c.def_ 23 (d := d_Line_take) rfl
    exact ⟨⟨fd, _, _, _, _, F, FunD.bindsN F (ps := ["self", "is_right"]) fun _ _ _ _ _ _ us hl => match us, hl with | [_, _], _ => rfl⟩, ⟨rfl, rfl, rfl, by decide +kernel, rfl, by decide +kernel, by decide +kernel⟩, rfl⟩
  have q24 : Def K "Line.end" F_Line_end := by
    obtain ⟨fd, F⟩ := c.def_ 24 (d := d_Line_end) rfl
    exact ⟨⟨fd, _, _, _, _, F, FunD.bindsN F (ps := ["self"]) fun _ _ _ _ _ _ us hl => match us, hl with | [_], _ => rfl⟩, ⟨rfl, rfl, rfl, by decide +kernel, rfl, by decide +kernel, by decide +kernel⟩, rfl⟩
  have q25 : Def K "span_of" F_span_of := by
    obtain ⟨fd, F⟩ := c.def_ 25 (d := d_span_of) rfl
    exact ⟨⟨fd, _, _, _, _, F, FunD.bindsN F (ps := ["word"]) fun _ _ _ _ _ _ us hl => match us, hl with | [_], _ => rfl⟩, ⟨rfl, rfl, rfl, by decide +kernel, rfl, by decide +kernel, by decide +kernel⟩, rfl⟩
  have q26 : Def K "limits_of" F_limits_of := by
    obtain ⟨fd, F⟩ := c.def_ 26 (d := d_limits_of) rfl
    exact ⟨⟨fd, _, _, _, _, F, FunD.bindsN F (ps := ["word"]) fun _ _ _ _ _ _ us hl => match us, hl with | [_], _ => rfl⟩, ⟨rfl, rfl, rfl, by decide +kernel, rfl, by decide +kernel, by decide +kernel⟩, rfl⟩
  have q27 : Def K "number_of" F_number_of := by
    obtain ⟨fd, F⟩ := c.def_ 27 (d := d_number_of) rfl
    exact ⟨⟨fd, _, _, _, _, F, FunD.bindsN F (ps := ["word"]) fun _ _ _ _ _ _ us hl => match us, hl with | [_], _ => rfl⟩, ⟨rfl, rfl, rfl, by decide +kernel, rfl, by decide +kernel, by decide +kernel⟩, rfl⟩
  have q28 : Def K "read_span" F_read_span := by
    obtain ⟨fd, F⟩ := c.def_ 28 (d := d_read_span) rfl
    exact ⟨⟨fd, _, _, _, _, F, FunD.bindsN F (ps := ["line"]) fun _ _ _ _ _ _ us hl => match us, hl with | [_], _ => rfl⟩, ⟨rfl, rfl, rfl, by decide +kernel, rfl, by decide +kernel, by decide +kernel⟩, rfl⟩
  have q29 : Def K "read_kind" F_read_kind := by
    obtain ⟨fd, F⟩ := c.def_ 29 (d := d_read_kind) rfl
    exact ⟨⟨fd, _, _, _, _, F, FunD.bindsN F (ps := ["line"]) fun _ _ _ _ _ _ us hl => match us, hl with | [_], _ => rfl⟩, ⟨rfl, rfl, rfl, by decide +kernel, rfl, by decide +kernel, by decide +kernel⟩, rfl⟩
  have q30 : Def K "read_takes" F_read_takes := by
    obtain ⟨fd, F⟩ := c.def_ 30 (d := d_read_takes) rfl
    exact ⟨⟨fd, _, _, _, _, F, FunD.bindsN F (ps := ["line"]) fun _ _ _ _ _ _ us hl => match us, hl with | [_], _ => rfl⟩, ⟨rfl, rfl, rfl, by decide +kernel, rfl, by decide +kernel, by decide +kernel⟩, rfl⟩
  have q31 : Def K "read_option" F_read_option := by
    obtain ⟨fd, F⟩ := c.def_ 31 (d := d_read_option) rfl
    exact ⟨⟨fd, _, _, _, _, F, FunD.bindsN F (ps := ["line"]) fun _ _ _ _ _ _ us hl => match us, hl with | [_], _ => rfl⟩, ⟨rfl, rfl, rfl, by decide +kernel, rfl, by decide +kernel, by decide +kernel⟩, rfl⟩
  have q32 : Def K "read_operand" F_read_operand := by
    obtain ⟨fd, F⟩ := c.def_ 32 (d := d_read_operand) rfl
    exact ⟨⟨fd, _, _, _, _, F, FunD.bindsN F (ps := ["line"]) fun _ _ _ _ _ _ us hl => match us, hl with | [_], _ => rfl⟩, ⟨rfl, rfl, rfl, by decide +kernel, rfl, by decide +kernel, by decide +kernel⟩, rfl⟩
  have q33 : Def K "read_condition" F_read_condition := by
    obtain ⟨fd, F⟩ := c.def_ 33 (d := d_read_condition) rfl
    exact ⟨⟨fd, _, _, _, _, F, FunD.bindsN F (ps := ["line", "word"]) fun _ _ _ _ _ _ us hl => match us, hl with | [_, _], _ => rfl⟩, ⟨rfl, rfl, rfl, by decide +kernel, rfl, by decide +kernel, by decide +kernel⟩, rfl⟩
  have q34 : Def K "Parts.__init__" F_Parts___init__ := by
    obtain ⟨fd, F⟩ := c.def_ 34 (d := d_Parts___init__) rfl
    exact ⟨⟨fd, _, _, _, _, F, FunD.bindsN F (ps := ["self"]) fun _ _ _ _ _ _ us hl => match us, hl with | [_], _ => rfl⟩, ⟨rfl, rfl, rfl, by decide +kernel, rfl, by decide +kernel, by decide +kernel⟩, rfl⟩
  have q35 : Def K "Parts.put" F_Parts_put := by
    obtain ⟨fd, F⟩ := c.def_ 35 (d := d_Parts_put) rfl
    exact ⟨⟨fd, _, _, _, _, F, FunD.bindsN F (ps := ["self", "line"]) fun _ _ _ _ _ _ us hl => match us, hl with | [_, _], _ => rfl⟩, ⟨rfl, rfl, rfl, by decide +kernel, rfl, by decide +kernel, by decide +kernel⟩, rfl⟩
  have q36 : Def K "read_table" F_read_table := by
    obtain ⟨fd, F⟩ := c.def_ 36 (d := d_read_table) rfl
    exact ⟨⟨fd, _, _, _, _, F, FunD.bindsN F (ps := ["text"]) fun _ _ _ _ _ _ us hl => match us, hl with | [_], _ => rfl⟩, ⟨rfl, rfl, rfl, by decide +kernel, rfl, by decide +kernel, by decide +kernel⟩, rfl⟩
  have q37 : Def K "_law_number" F__law_number := by
    obtain ⟨fd, F⟩ := c.def_ 37 (d := d__law_number) rfl
    exact ⟨⟨fd, _, _, _, _, F, FunD.bindsN F (ps := ["script", "index"]) fun _ _ _ _ _ _ us hl => match us, hl with | [_, _], _ => rfl⟩, ⟨rfl, rfl, rfl, by decide +kernel, rfl, by decide +kernel, by decide +kernel⟩, rfl⟩
  have q38 : Def K "_law_take" F__law_take := by
    obtain ⟨fd, F⟩ := c.def_ 38 (d := d__law_take) rfl
    exact ⟨⟨fd, _, _, _, _, F, FunD.bindsN F (ps := ["draw", "many"]) fun _ _ _ _ _ _ us hl => match us, hl with | [_, _], _ => rfl⟩, ⟨rfl, rfl, rfl, by decide +kernel, rfl, by decide +kernel, by decide +kernel⟩, rfl⟩
  have q39 : Def K "_law_pick" F__law_pick := by
    obtain ⟨fd, F⟩ := c.def_ 39 (d := d__law_pick) rfl
    exact ⟨⟨fd, _, _, _, _, F, FunD.bindsN F (ps := ["draw", "items"]) fun _ _ _ _ _ _ us hl => match us, hl with | [_, _], _ => rfl⟩, ⟨rfl, rfl, rfl, by decide +kernel, rfl, by decide +kernel, by decide +kernel⟩, rfl⟩
  have q40 : Def K "_law_refused" F__law_refused := by
    obtain ⟨fd, F⟩ := c.def_ 40 (d := d__law_refused) rfl
    exact ⟨⟨fd, _, _, _, _, F, FunD.bindsN F (ps := ["text"]) fun _ _ _ _ _ _ us hl => match us, hl with | [_], _ => rfl⟩, ⟨rfl, rfl, rfl, by decide +kernel, rfl, by decide +kernel, by decide +kernel⟩, rfl⟩
  have q41 : Def K "_law_known" F__law_known := by
    obtain ⟨fd, F⟩ := c.def_ 41 (d := d__law_known) rfl
    exact ⟨⟨fd, _, _, _, _, F, FunD.bindsN F (ps := []) fun _ _ _ _ _ _ us hl => match us, hl with | [], _ => rfl⟩, ⟨rfl, rfl, rfl, by decide +kernel, rfl, by decide +kernel, by decide +kernel⟩, rfl⟩
  have q42 : Def K "_law_place" F__law_place := by
    obtain ⟨fd, F⟩ := c.def_ 42 (d := d__law_place) rfl
    exact ⟨⟨fd, _, _, _, _, F, FunD.bindsN F (ps := ["line", "number"]) fun _ _ _ _ _ _ us hl => match us, hl with | [_, _], _ => rfl⟩, ⟨rfl, rfl, rfl, by decide +kernel, rfl, by decide +kernel, by decide +kernel⟩, rfl⟩
  have q43 : Def K "law" F_law := by
    obtain ⟨fd, F⟩ := c.def_ 43 (d := d_law) rfl
    exact ⟨⟨fd, _, _, _, _, F, FunD.bindsN F (ps := ["script"]) fun _ _ _ _ _ _ us hl => match us, hl with | [_], _ => rfl⟩, ⟨rfl, rfl, rfl, by decide +kernel, rfl, by decide +kernel, by decide +kernel⟩, rfl⟩
  have x0 : XcOk K mg "BadPart" ["part"] := by
    obtain ⟨fd, F⟩ := c.def_ 44 (d := d_BadPart___init__) rfl
    have F' := F
    rw [show (d_BadPart___init__).body = _ from bx_BadPart___init__] at F'
    exact ⟨fd, ["self", "part"], fun P w base => spI_one F' ⟨rfl, rfl, rfl, by decide +kernel, rfl, by decide +kernel, by decide +kernel⟩ (by decide +kernel) (by decide +kernel), FunD.bindsN F (ps := ["self", "part"]) fun _ _ _ _ _ _ us hl => match us, hl with | [_, _], _ => rfl⟩
  have x1 : XcOk K mg "BadText" ["line", "column"] := by
    obtain ⟨fd, F⟩ := c.def_ 45 (d := d_BadText___init__) rfl
    have F' := F
    rw [show (d_BadText___init__).body = _ from bx_BadText___init__] at F'
    exact ⟨fd, ["self", "line", "column"], fun P w base => spI_two F' ⟨rfl, rfl, rfl, by decide +kernel, rfl, by decide +kernel, by decide +kernel⟩ (by decide +kernel) (by decide +kernel) (by decide +kernel), FunD.bindsN F (ps := ["self", "line", "column"]) fun _ _ _ _ _ _ us hl => match us, hl with | [_, _, _], _ => rfl⟩
  exact txt_of (T := tx) X G hk (by decide +kernel) (show ∀ p ∈ fnl, Def K p.1 p.2 from all_consW q0 ( all_consW q1 ( all_consW q2 ( all_consW q3 ( all_consW q4 ( all_consW q5 ( all_consW q6 ( all_consW q7 ( all_consW q8 ( all_consW q9 ( all_consW q10 ( all_consW q11 ( all_consW q12 ( all_consW q13 ( all_consW q14 ( all_consW q15 ( all_consW q16 ( all_consW q17 ( all_consW q18 ( all_consW q19 ( all_consW q20 ( all_consW q21 ( all_consW q22 ( all_consW q23 ( all_consW q24 ( all_consW q25 ( all_consW q26 ( all_consW q27 ( all_consW q28 ( all_consW q29 ( all_consW q30 ( all_consW q31 ( all_consW q32 ( all_consW q33 ( all_consW q34 ( all_consW q35 ( all_consW q36 ( all_consW q37 ( all_consW q38 ( all_consW q39 ( all_consW q40 ( all_consW q41 ( all_consW q42 ( all_consW q43 ( all_nilW))))))))))))))))))))))))))))))))))))))))))))) (show ∀ p ∈ xcl, XcOk K mg p.1 p.2 from all_consW x0 ( all_consW x1 ( all_nilW)))
end K08
open PySem PySem.W PySem.Calls PyProof.Rows
theorem PySem.Challenge.cw_switchyard_k08_refused_texts_holds : PySem.Challenge.rw_switchyard_k08_refused_texts.Holds := by
  w_on; o_law
  refine HandSHeadRun.head_any (r := OpenLaw.row PySem.Challenge.rw_switchyard_k08_refused_texts) (q := view (OpenLaw.row PySem.Challenge.rw_switchyard_k08_refused_texts).prog [55]) (H := K08.hk) (ob := K08.ob) (M := 6000) (loose := K08.loose) (d := HandSHeadRun.topDef (OpenLaw.row PySem.Challenge.rw_switchyard_k08_refused_texts).prog 55) (kwd := []) K08.ob_eq
    (by kernel_rfl) (fun s => by kernel_rfl) K08.run (by kernel_rfl) (by kernel_rfl) (by kernel_rfl) (by rfl) (by first | assumption | decide +kernel) (by decide +kernel) ⟨rfl, rfl, rfl, rfl, rfl, by decide +kernel⟩ ?hw ?hc
  case hw => w_witness2
  case hc =>
    refine L2.walk_ofE (l := PySem.Challenge.rw_switchyard_k08_refused_texts) (n := 63) (k := 2 * 12 + 2) (x := "script") (CX := L2.CX0) rfl (by decide) (by kernel_rfl) ⟨rfl, by decide, by decide⟩ ?F (fun _ _ _ _ z => z)
    intro w mg fa h Y G hmg0
    obtain ⟨K, KX, cx⟩ := Y
    have c := cx.t.d
    have hmg : mg ("law" : PySem.Str) = some (.ref fa) := by
      have e : (HandSHeadRun.topDef (OpenLaw.row PySem.Challenge.rw_switchyard_k08_refused_texts).prog 55).name = ("law" : PySem.Str) := by kernel_rfl
      rw [← e]
      exact hmg0
    letI := K08.tx.gam K
    have T := K08.txt KX G c cx.more
    obtain ⟨fd0, F0⟩ := c.def_ 43 (d := K08.d_law) rfl
    have e := hmg.symm.trans (He.glo_ok KX G (c.fact 0 (f := .glo "law") rfl))
    cases e
    refine ⟨K, fd0, fun vs H Q _ => Mi.SpF K mg (Mi.callD K08.pg K08.fns 12) "law" 1 vs H Q L2.E0, KX, fun s u => ?_, fun H a ns hl _ hS => Mi.law_sp hS (K08.law_true ns hl), fun base KB GB => ?_⟩
    · exact L2.FunD.bindsA F0 (ps := ["script"]) (fun _ _ _ _ _ _ us hl => match us, hl with | [_], _ => rfl) s [u] rfl
    · exact Mi.fn_plain (Mi.fn_step (f := "law") (d := 12 - 1) (F := K08.F_law) T rfl F0 (Mi.fn_ok T (12 - 1)))
