import PyProof.Rows.All
import Wide.All
import OpenK.AllK
import Wide.FinOn
import KE.KStateDown
import HandS.ForMost
import HandS.Walk
import HandS.More
import HandS.Deep
import HandS.TupAny
import HandS.Exc
import HandS.TryOnly
import HandS.ExcOwn
import HandS.WordsExc
import HandS.CallSlots
import HandS.Defaults
import HandS.Flow
import HandS.Head0
import HandS.Head1
import HandS.Head2
import HandS.HeadEnd
import HandS.HeadHook1
import HandS.HeadHook2
import HandS.TryMany
import HandS.ExcInit
import HandS.ExcField
import HandS.ExcIs
import KE.KExcIs
import HandS.IsInst
import PyProof.EnumFor
import PyProof.Draws
import PyProof.EnumMake
import HandS.Style
import HandS.Star
import HandS.DictComp
import HandS.WordsDict
import HandS.Iter
import HandS.Small
import HandS.Codes
import PyProof.Rows.StrFirst
import PyProof.WalkInts
import KE.KDictSum
import KE.GoesMore
import PyProof.TupleIter
import PyProof.DictUpdate
import PyProof.DictDisplay
import HandS.ListItems
import HandS.Conv
import HandS.Lambda
import KE.KDictKeyed
import KE.SortData
import KE.DataMinKey
import KE.KDictCopyH
import KE.SortUse
import HandS.OwnEq
import HandS.DictEq
import PyProof.Rows.FactsTup
import PyProof.MeetsIn
import HandS.ReplaceLit
import HandS.StrMore
import PyProof.Rows.CallKwBuiltin
import PyProof.Rows.SeqCalls
import HandS.HeadHook3
import HandS.HeadHook4
import HandS.HeadWalk
import HandS.NestedK
import PySem.Challenge.RW_switchyard_k12_known_lists
set_option Elab.async false
set_option linter.all false
set_option maxRecDepth 100000
set_option maxHeartbeats 4000000
/-! Ma0: further rules over the hand layer: calls of methods and of classes that may let an exception out; several clauses that name what they catch. -/
noncomputable section
namespace Mi
open PySem PySem.Spec PyProof.Rows L2
section
variable {X : Cx} {CX : CXT} {k : Nat} {f C : Addr} {fd : FuncData} {ps : List Str} {sp : Sp} {dvs : List V} {ds : List Value} {E : L2.St → XK} {x m : Str} {p pos apos : Pos} {e o : Expr} {es : List Expr} {ta : TE} {t : TA}
/-- a method's call, by what the method promises at the slots' state -/
def tMethD (C : Addr) (m : Str) (sp : Sp) (dvs : List V) (E : L2.St → XK) (ta : TE) (t : TA) : TE := fun σ H Q =>
  ta σ H fun v H1 => ∃ a dx fs, v = .ref a ∧ H1 a = some (.ins C dx fs) ∧ fs.lookup m = none ∧ t σ H1 fun vs H2 => sp (v :: (vs ++ dvs)) H2 Q (E σ)
theorem pe_methD {pl : Sem Bool} (ho : PE X o ta) (hc : Cls X.K C) (hm : Meth X.K C m f) (F : FnOk X.prog X.w X.K X.mg X.base CX k f fd ps sp) (hr : Room k X.A) (hb : Binds X.K fd ps ds) (hd : Vals dvs ds)
    (hx : ∀ σ, PassesAt CX X σ (E σ)) (ha : PA X (e :: es) t) (h1 : starEach (e :: es) X.env = (false, eval e X.env) :: starEach es X.env) (h2 : (backTo pos (starEach es X.env)).any (·.1) = false)
    (h3 : eval (.Call (.Attribute o m apos) (e :: es) [] pos) X.env = (do
      let recv ← eval o X.env
      standAt apos.atName
      let (g, own) ← holding [recv] (getMethod recv m pl)
      callWith pos g own (backTo pos (starEach (e :: es) X.env)) (backToKw pos (keywordEach [] X.env)))) : PE X (.Call (.Attribute o m apos) (e :: es) [] pos) (tMethD C m sp dvs E ta t) :=
  ⟨fun pins s σ H Q I h => PySem.W.methodCall_KW (pl := pl) (thn (ho.run pins s σ H _ I h) fun u s1 z => by
    obtain ⟨v, H1, J, rv, a, dx, fs, rfl, hi, hl, q⟩ := z
    cases (show u = Value.ref a from rv)
    exact getmeth_ok J hi hc hm hl (PySem.W.callWith_K (first := [.ref a]) (h₀ := X.base) J.ok.mod.kin hm.kp
      (thn (ha.run pos pins s1 σ H1 _ J q) fun us s2 ⟨vs, H2, J2, rs, q2⟩ => ⟨J2.kIn, run_fnSD (us := .ref a :: us) (vs := .ref a :: vs) F hr hb hd (hx σ) J2 (.cons rfl rs) q2⟩) h1 h2)) h3⟩
theorem pe_methD0 {pl : Sem Bool} (ho : PE X o ta) (hc : Cls X.K C) (hm : Meth X.K C m f) (F : FnOk X.prog X.w X.K X.mg X.base CX k f fd ps sp) (hr : Room k X.A) (hb : Binds X.K fd ps ds) (hd : Vals dvs ds)
    (hx : ∀ σ, PassesAt CX X σ (E σ))
    (h3 : eval (.Call (.Attribute o m apos) [] [] pos) X.env = (do
      let recv ← eval o X.env
      standAt apos.atName
      let (g, own) ← holding [recv] (getMethod recv m pl)
      callWith pos g own (backTo pos (starEach [] X.env)) (backToKw pos (keywordEach [] X.env)))) : PE X (.Call (.Attribute o m apos) [] [] pos) (tMethD C m sp dvs E ta tNil) :=
  ⟨fun pins s σ H Q I h => PySem.W.methodCall_KW (pl := pl) (thn (ho.run pins s σ H _ I h) fun u s1 z => by
    obtain ⟨v, H1, J, rv, a, dx, fs, rfl, hi, hl, q⟩ := z
    cases (show u = Value.ref a from rv)
    exact getmeth_ok J hi hc hm hl (PySem.W.callWith_K0 (first := [.ref a]) J.kIn hm.kp (run_fnSD (us := [.ref a]) (vs := [.ref a]) F hr hb hd (hx σ) J (.cons rfl .nil) q))) h3⟩
/-- a class is called: what its __init__ promises -/
def tMakeD (C : Addr) (sp : Sp) (dvs : List V) (E : L2.St → XK) (t : TA) : TE := fun σ H Q => t σ H fun vs H1 => ∀ a dx, H1 a = none → H1 dx = none → dx ≠ a →
  sp (.ref a :: (vs ++ dvs)) (upd (upd H1 dx (.own a)) a (.ins C dx [])) (fun v H2 => v = .non ∧ Q (.ref a) H2) (E σ)
theorem run_makeD {pins : List (Addr × Obj)} {σ : L2.St} {H : Hp} {s : Shared} {Q : VK} {us : List Value} {vs : List V} (M : Mk X.K C f) (F : FnOk X.prog X.w X.K X.mg X.base CX k f fd ps sp) (hr : Room (k + 1) X.A) (hb : Binds X.K fd ps ds) (hd : Vals dvs ds)
    (hx : PassesAt CX X σ (E σ)) (I : Inv X pins σ H s) (r : Vals vs us)
    (h : ∀ a dx, H a = none → H dx = none → dx ≠ a → sp (.ref a :: (vs ++ dvs)) (upd (upd H dx (.own a)) a (.ins C dx [])) (fun v H2 => v = .non ∧ Q (.ref a) H2) (E σ)) :
    wpAny (model X.prog X.w) X.A (call (.ref C) us) (EP X pins σ Q) X.xe s := by
  have fr1 : H (s.heap.objs.size + 1) = none := I.hok.fresh (Nat.le_succ _)
  have fr2 : H s.heap.objs.size = none := I.hok.fresh (Nat.le_refl _)
  have asked := h _ _ fr1 fr2 (Nat.ne_of_lt (Nat.lt_succ_self _))
  have J := Inv.made (C := C) I
  have rs : Vals (V.ref (s.heap.objs.size + 1) :: (vs ++ dvs)) (Value.ref (s.heap.objs.size + 1) :: (us ++ ds)) := .cons rfl (r.append hd)
  have len : (Value.ref (s.heap.objs.size + 1) :: us ++ ds).length = ps.length := (rs.length.symm.trans (F.len _ _ _ _ asked))
  have ran := F.run _ X.stack _ _ ⟨Value.ref (s.heap.objs.size + 1) :: us, []⟩ (Value.ref (s.heap.objs.size + 1) :: (us ++ ds)) _ _ (E σ) (hr.make C us []) (J.env0.make C us []) (hb _ (Value.ref (s.heap.objs.size + 1) :: us) J.kIn len) rs asked
  refine wpAny_call (make_map (f := f) I.kIn M.makes M.init (beq_iff_eq.mp M.fn) (codeAny_mono ran fun r s' z => ?_))
  match r, z with
  | .error e, z => exact hx pins _ _ e s' J z
  | .ok (.ret u), z =>
    obtain ⟨v, H', J3, rv, ev, q3⟩ := J.after z
    subst ev
    exact ⟨rv, ⟨V.ref (s.heap.objs.size + 1), H', J3, rfl, q3⟩⟩
  | .ok .next, z => exact z.elim
  | .ok .brk, z => exact z.elim
  | .ok .cont, z => exact z.elim
theorem pe_makeD (M : Mk X.K C f) (F : FnOk X.prog X.w X.K X.mg X.base CX k f fd ps sp) (hr : Room (k + 1) X.A) (hg : Gl X x) (hm : X.mg x = some (.ref C)) (hb : Binds X.K fd ps ds) (hd : Vals dvs ds) (hx : ∀ σ, PassesAt CX X σ (E σ)) (ha : PA X (e :: es) t)
    (h0 : (x == ("__debug__" : Str)) = false) (h1 : starEach (e :: es) X.env = (false, eval e X.env) :: starEach es X.env) (h2 : (backTo pos (starEach es X.env)).any (·.1) = false) : PE X (.Call (.Name x p) (e :: es) [] pos) (tMakeD C sp dvs E t) :=
  ⟨fun pins s σ H Q I h => wpAny_Call_Name_kw (ld_glob I hg hm (PySem.W.callWith_K (h₀ := X.base) I.ok.mod.kin M.kp (thn (ha.run pos pins s σ H _ I h) fun us s1 ⟨vs, H1, J, rs, q⟩ => ⟨J.kIn, run_makeD M F hr hb hd (hx σ) J rs q⟩) h1 h2) h0)⟩
theorem pe_makeD0 (M : Mk X.K C f) (F : FnOk X.prog X.w X.K X.mg X.base CX k f fd ps sp) (hr : Room (k + 1) X.A) (hg : Gl X x) (hm : X.mg x = some (.ref C)) (hb : Binds X.K fd ps ds) (hd : Vals dvs ds) (hx : ∀ σ, PassesAt CX X σ (E σ))
    (h0 : (x == ("__debug__" : Str)) = false) : PE X (.Call (.Name x p) [] [] pos) (tMakeD C sp dvs E tNil) :=
  ⟨fun pins s σ H Q I h => wpAny_Call_Name_kw (ld_glob I hg hm (PySem.W.callWith_K0 I.kIn M.kp (run_makeD (us := []) M F hr hb hd (hx σ) I .nil h)) h0)⟩
theorem pe_callD0 (F : FnOk X.prog X.w X.K X.mg X.base CX k f fd ps sp) (hr : Room k X.A) (hg : Gl X x) (hm : X.mg x = some (.ref f)) (hk : PySem.W.keepIn X.K (.ref f) = true) (hb : Binds X.K fd ps ds) (hd : Vals dvs ds) (hx : ∀ σ, PassesAt CX X σ (E σ))
    (h0 : (x == ("__debug__" : Str)) = false) : PE X (.Call (.Name x p) [] [] pos) (tCallSD sp dvs E tNil) :=
  ⟨fun pins s σ H Q I h => wpAny_Call_Name_kw (ld_glob I hg hm (PySem.W.callWith_K0 I.kIn hk (run_fnSD (us := []) F hr hb hd (hx σ) I .nil h)) h0)⟩
end
/-! ### clauses that name what they catch -/
abbrev Hand := Value × Nat × (Addr → Value → Option Addr → TS)
/-- behind a clause the name is gone -/
def offName (D : Ends) (i : Nat) : Ends := { nx := fun σ H => D.nx (σ.set i none) H, rt := D.rt, bk := fun σ H => D.bk (σ.set i none) H, ct := fun σ H => D.ct (σ.set i none) H }
def wHands (K : PySem.W.Frag) (Wout : WX) (D : Ends) : List Hand → WX
  | [] => Wout
  | (c, i, ts) :: r => fun cls d σ H => ∃ yes, PySem.W.exmOne K cls c = some yes ∧
    (yes = true → ∀ a, H a = none → ts a cls d (offName D i) (σ.set i (some (.ref a))) H) ∧ (yes = false → wHands K Wout D r cls d σ H)
inductive Hands (X : Cx) : List ExceptHandler → List Hand → Prop
  | nil : Hands X [] []
  | cons {x n : Str} {c : Value} {i : Nat} {ts : Addr → Value → Option Addr → TS} {b0 : Stmt} {bs : List Stmt} {p1 p2 : Pos} {hds : List ExceptHandler} {l : List Hand} : Names X x c → X.N[i]? = some n → X.env.kindOf n = some .local →
      (∀ (a : Addr) (oe : Obj) (cls : Value) (d : Option Addr) (pn : List (Addr × Obj)), Zc cls d oe → (∃ vs, oe.data = .fields vs) → PSs (X.suite a ((a, oe) :: pn)) (b0 :: bs) (ts a cls d)) → Hands X hds l →
      Hands X (.ExceptHandler (some (.Name x p1)) (some n) (b0 :: bs) p2 :: hds) ((c, i, ts) :: l)
section
variable {X : Cx} {body : List Stmt} {h0 : ExceptHandler} {hds : List ExceptHandler} {l : List Hand} {pos : Pos} {tb : WX → TS} {Wout : WX}
theorem ps_try_hands (st : X.stack = X.env :: X.outer) (fm : X.env.frame = some X.env.locals) (nd : X.N.Nodup) (tk : Takes X Wout)
    (hb : ∀ (W : WX) (pn : List (Addr × Obj)) (xe : Value → Shared → Prop), Takes (X.tr pn xe) W → PassesOwn (model X.prog X.w) X.A X.env xe → PSs (X.tr pn xe) body (tb W))
    (hh : Hands X (h0 :: hds) l) : PS X (.Try body (h0 :: hds) [] [] pos) (fun D σ H => tb (wHands X.K Wout D l) D σ H) := by
  refine ⟨fun pins s σ H D I asked => wpAny_Try_except ?_⟩
  have ok := I.ok
  have frm : X.A.frames = some (X.env :: X.outer) := ok.frames.trans (by rw [st])
  let M := model X.prog X.w
  let caught : Value → Shared → Prop := fun e s1 => wpAny M X.A (noteFrame e X.env) (fun _ s2 => wpAny M X.A (setFlight e none) (fun _ s3 => wpAny M X.A (handleBy e X.env (h0 :: hds)) (SP X pins D) X.xe s3) X.xe s2) X.xe s1
  have tkc : Takes (X.tr (X.pn ++ pins) caught) (wHands X.K Wout D l) := fun u s' z => by
    obtain ⟨a, B, sI, _, σ1, H1, cls, d, rfl, J', nb, up, sky, na, os, ag, w⟩ := z
    have J : Inv X pins σ1 H1 sI := J'.ofTry ok
    show wpAny M X.A (noteFrame (.ref a) X.env) _ _ _
    refine Sky.land Zc.steady frm fm (show Sky B (X.env :: X.outer) a (Zc cls d) X.env.locals s'.heap from st ▸ sky) fun hp lands up2 => ?_
    have upA := up.trans up2
    have K3 : Inv X pins σ1 H1 { s' with heap := hp } := J.landed nb lands.1 upA os ag
    obtain ⟨oe, vs, there, hz, fields⟩ := lands.there
    have off : a ∉ frs (X.env :: X.outer) := fun hm => by
      obtain ⟨_, o', e', bad⟩ := lands.2.2.1.mem hm
      cases there.symm.trans e'
      exact bad _ fields
    have offL : a ≠ X.env.locals := fun z => off (List.mem_filterMap.mpr ⟨X.env, List.mem_cons_self, fm.trans (congrArg some z.symm)⟩)
    have offF : a ∉ X.fs := fun hm => by
      obtain ⟨e, he, q⟩ := List.mem_filterMap.mp hm
      exact off (List.mem_filterMap.mpr ⟨e, List.mem_cons_of_mem _ he, q⟩)
    have S3 := K3.suite there fields na offL offF
    suffices each : ∀ (hs : List ExceptHandler) (ls : List Hand), Hands X hs ls → wHands X.K Wout D ls cls d σ1 H1 → wpAny M X.A (handleBy (.ref a) X.env hs) (SP X pins D) X.xe { s' with heap := hp } from each _ _ hh w
    intro hs ls hk
    induction hk with
    | nil =>
      intro w
      obtain ⟨_, _, _, o2, vs2, T, oT, ts2, at2, z2, d2, one2, r2⟩ := id lands
      have gone : wpAny M X.A (setFlight (.ref a) X.env.frame) (fun _ s4 => wpAny M X.A (throw (.ref a) : Sem Flow) (SP X pins D) X.xe s4) X.xe { s' with heap := hp } := by
        rw [fm]
        exact HandSPX.setFlight_upZ lands fun _ hot up4 => wpAny_throw (tk _ _ ⟨a, B, sI, pins, σ1, H1, cls, d, rfl, J, nb, upA.trans up4, .inr (.inr (st.symm ▸ hot)), na, os, ag, w⟩)
      refine wpAny_handleBy_nil ?_
      unfold PySem.passOn
      refine wpAny_bind (wpAny_field at2 d2 one2 ?_)
      have nn : ¬ ((Value.ref T == Value.none) = true) := by simp
      rw [if_neg nn]
      first
        | exact wpAny_bind gone
        | exact wpAny_bind (wpAny_pure (wpAny_bind gone))
    | @cons x n c i ts b0 bs p1 p2 rest lrest nm hi hln hsu _ ih =>
      rintro ⟨yes, same, hyes, hno⟩
      have ty : PySem.W.Looks M hp (typeOf (.ref a)) cls := fun A Q E s k q => wpAny_typeOf_ref (k _ _ there) (hz.1.symm ▸ q)
      have asks := PySem.W.exm_one (M := M) K3.kIn ty same
      have named : ∀ {Q E : Value → Shared → Prop}, Q c { s' with heap := hp } → wpAny M (X.A.mark (some (.ref a))) (eval (.Name x p1) X.env) Q E { s' with heap := hp } := by
        intro Q E q
        rcases nm with ⟨g1, g2, g3 | ⟨g3, g4, g5⟩⟩
        · exact ld_glob (X := X.suite a ((a, oe) :: (X.pn ++ pins))) S3 g1 g3 q g2
        · exact ld_blt (X := X.suite a ((a, oe) :: (X.pn ++ pins))) S3 g1 g3 g4 q g5 g2
      refine wpAny_handleBy_cons (codeAny_handlers_test (named (asks.here ?_))) (by intro q; cases q)
      cases yes with
      | false => exact ih (hno rfl)
      | true =>
        refine codeAny_handlers_suite_as (HandSPX.lands_againZ lands fun hp4 lands4 up4 => ?_)
        have K4 : Inv X pins σ1 H1 { s' with heap := hp4 } := J.landed nb lands4.1 (upA.trans up4) os ag
        obtain ⟨oe4, vs4, there4, hz4, fields4⟩ := lands4.there
        have S4 := K4.suite there4 fields4 na offL offF
        refine store_ok (X := X.suite a ((a, oe4) :: (X.pn ++ pins))) (v := .ref a) S4 nd hi (.inl hln) rfl (fun s5 S5 => ?_) (.inr hln)
        have away : ∀ {s6 : Shared} {σ6 : L2.St} {H6 : Hp} {Q : Shared → Prop}, Inv (X.suite a ((a, oe4) :: (X.pn ++ pins))) [] σ6 H6 s6 → (∀ s7, Inv X pins (σ6.set i none) H6 s7 → Q s7) →
            wpAny M X.A (do bindName X.env n .none; unbindBehindTheSuite X.env n p2) (fun _ s7 => Q s7) X.xe s6 := fun S6 hq => gone_ok (S6.unsuite ok) nd hi hln hq
        refine wpAny_mono ((hsu a oe4 cls d (X.pn ++ pins) hz4 ⟨_, fields4⟩).run [] s5 _ H1 _ S5 (hyes rfl a na)) (fun f s6 z => ?_) (fun _ _ z => z.elim)
        match f, z with
        | .next, ⟨_, _, S6, q6⟩ => exact away S6 fun s7 J7 => ⟨_, _, J7, q6⟩
        | .brk, ⟨_, _, S6, q6⟩ => exact away S6 fun s7 J7 => ⟨_, _, J7, q6⟩
        | .cont, ⟨_, _, S6, q6⟩ => exact away S6 fun s7 J7 => ⟨_, _, J7, q6⟩
        | .ret u, ⟨_, _, _, S6, r6, q6⟩ => exact away S6 fun s7 J7 => ⟨_, _, _, J7, r6, q6⟩
  have ran := (hb (wHands X.K Wout D l) (X.pn ++ pins) caught tkc PassesOwn.looking).run [] s σ H D (I.toTry _) asked
  refine wpAny_mono ran (fun f s1 z => ?_) (fun _ _ z => z)
  match f, z with
  | .next, ⟨_, _, J, q⟩ => exact wpAny_execs_nil ⟨_, _, J.ofTry ok, q⟩
  | .brk, ⟨_, _, J, q⟩ => exact ⟨_, _, J.ofTry ok, q⟩
  | .cont, ⟨_, _, J, q⟩ => exact ⟨_, _, J.ofTry ok, q⟩
  | .ret u, ⟨_, _, _, J, r, q⟩ => exact ⟨_, _, _, J.ofTry ok, r, q⟩
end
/-! ### isinstance of what was caught, its attributes standing in a dict -/
/-- isinstance(e, c), the exception's dict at dd -/
def rIsX (K : PySem.W.Frag) (D a dd : Addr) : List V → Hp → VK → Prop := fun xs H Q => ∃ (c : V) (cv : Value) (b : Bool) (fs : List (Str × V)), xs = [.ref a, c] ∧ (∀ u, RelV c u → u = cv) ∧ H dd = some (.xd fs) ∧ PySem.W.kitOne K (.ref D) cv = some b ∧ Q (.bl b) H
theorem call_isX {X : Cx} {a D dd : Addr} {oe : Obj} {pn : List (Addr × Obj)} (C : ExcC X.K D) (hz : Zc (.ref D) (some dd) oe) (hf : ∃ vs, oe.data = .fields vs) : CallR (X.suite a ((a, oe) :: pn)) (.builtin "isinstance") (rIsX X.K D a dd) := by
  intro pins s σ H xs us Q I rs asked
  obtain ⟨c, cv, b, fs, rfl, one, hd, says, q⟩ := asked
  match us, rs with
  | [u1, u2], .cons rx (.cons rc .nil) =>
    cases (show u1 = Value.ref a from rx)
    cases one _ rc
    obtain ⟨there, _⟩ := I.pin (a, oe) (List.mem_append_left _ List.mem_cons_self)
    obtain ⟨vs, fields⟩ := hf
    have own : ObjOk X.prog X.w H s.heap dd (.xd fs) := I.hok dd _ hd
    obtain ⟨mA, ns, _⟩ := own
    obtain ⟨od, at_, _⟩ := lookIn_ns ns
    have J : PySem.W.InstAt s.heap a oe D (some od) := by
      obtain ⟨oc, odi, oda, osl⟩ := oe
      obtain ⟨z1, z2⟩ := hz
      dsimp only at z1 z2 fields
      subst z1 z2 fields
      exact ⟨there, rfl, rfl, at_⟩
    have hc : (PySem.W.clsIn X.K D).isSome = true := by
      obtain ⟨cd, e, _⟩ := PySem.W.any_some C.hd
      rw [e]
      rfl
    exact PySem.W.kia_one (PySem.W.kitx_exc hc C.hg C.hk C.hs C.ha C.hn C.ht C.hm) I.kIn J says (fun z => nomatch z) fun tk => ⟨.bl b, H, I.kept (t' := tk) fun _ _ z => z, rfl, q⟩
/-! ### dicts, by values -/
section
variable {X : Cx}
theorem ix_dictD (hu : X.A.units + 1 < cLine) : IxR X (fun x y H Q => ∃ a z, x = .ref a ∧ DGet H a y (some z) ∧ Q z H) := by
  intro value slice pins s σ H x y v u Q I rx ry asked hs
  obtain ⟨a, z, rfl, g, q⟩ := asked
  cases (show v = Value.ref a from rx)
  exact tail_any (dict_typeIs I g) PySem.F.slot_dict_getitem.lookup (d_getItem hu I g ry fun w' s' I' r' => ⟨z, H, I', r', q⟩) hs
theorem op_inDict (hu : X.A.units + 1 < cLine) : OpR X (compareOp .In) (fun x y H Q => ∃ a o, y = .ref a ∧ DGet H a x o ∧ Q (.bl o.isSome) H) := by
  intro pins s σ H x y v u Q I rx ry asked
  obtain ⟨a, o, rfl, g, q⟩ := asked
  cases (show u = Value.ref a from ry)
  exact d_in hu I g rx fun s' I' => ⟨.bl o.isSome, H, I', rfl, q⟩
theorem op_notInDict (hu : X.A.units + 1 < cLine) : OpR X (compareOp .NotIn) (fun x y H Q => ∃ a o, y = .ref a ∧ DGet H a x o ∧ Q (.bl (!o.isSome)) H) := by
  intro pins s σ H x y v u Q I rx ry asked
  obtain ⟨a, o, rfl, g, q⟩ := asked
  cases (show u = Value.ref a from ry)
  exact d_notIn hu I g rx fun s' I' => ⟨.bl (!o.isSome), H, I', rfl, q⟩
/-- two dicts, not alike long -/
theorem op_eqDictL (hu : X.A.units < cLine) : OpR X (compareOp .Eq) (fun x y H Q => ∃ a b ks ls, x = .ref a ∧ y = .ref b ∧ Rd H a (.dK ks) ∧ Rd H b (.dK ls) ∧ ks.length ≠ ls.length ∧ Q (.bl false) H) := by
  intro pins s σ H x y v u Q I rx ry asked
  obtain ⟨a, b, ks, ls, rfl, rfl, e1, e2, ne, q⟩ := asked
  cases (show v = Value.ref a from rx)
  cases (show u = Value.ref b from ry)
  obtain ⟨_, n1, va, r1, d1⟩ := dk_rd I.hok e1
  obtain ⟨_, n2, vb, r2, d2⟩ := dk_rd I.hok e2
  have ln : va.length ≠ vb.length := by rw [← r1.length, ← r2.length]; exact ne
  exact PySem.W.keq_eq (knd := mixKind X.prog X.w) (r := true) n1 n2 d1 d2 hu (fun z => absurd z ln) (fin_bl I q (by simp [ln]))
theorem op_neDictL (hu : X.A.units < cLine) : OpR X (compareOp .NotEq) (fun x y H Q => ∃ a b ks ls, x = .ref a ∧ y = .ref b ∧ Rd H a (.dK ks) ∧ Rd H b (.dK ls) ∧ ks.length ≠ ls.length ∧ Q (.bl true) H) := by
  intro pins s σ H x y v u Q I rx ry asked
  obtain ⟨a, b, ks, ls, rfl, rfl, e1, e2, ne, q⟩ := asked
  cases (show v = Value.ref a from rx)
  cases (show u = Value.ref b from ry)
  obtain ⟨_, n1, va, r1, d1⟩ := dk_rd I.hok e1
  obtain ⟨_, n2, vb, r2, d2⟩ := dk_rd I.hok e2
  have ln : va.length ≠ vb.length := by rw [← r1.length, ← r2.length]; exact ne
  exact PySem.W.keq_ne (knd := mixKind X.prog X.w) (r := true) n1 n2 d1 d2 hu (fun z => absurd z ln) (fin_bl I q (by simp [ln]))
/-- two empty dicts -/
theorem op_eqDict0 (hu : X.A.units < cLine) : OpR X (compareOp .Eq) (fun x y H Q => ∃ a b, x = .ref a ∧ y = .ref b ∧ Rd H a (.dK []) ∧ Rd H b (.dK []) ∧ Q (.bl true) H) := by
  intro pins s σ H x y v u Q I rx ry asked
  obtain ⟨a, b, rfl, rfl, e1, e2, q⟩ := asked
  cases (show v = Value.ref a from rx)
  cases (show u = Value.ref b from ry)
  obtain ⟨_, n1, va, r1, d1⟩ := dk_rd I.hok e1
  obtain ⟨_, n2, vb, r2, d2⟩ := dk_rd I.hok e2
  have l1 : va = [] := List.length_eq_zero_iff.mp (by rw [← r1.length]; rfl)
  have l2 : vb = [] := List.length_eq_zero_iff.mp (by rw [← r2.length]; rfl)
  subst l1 l2
  exact PySem.W.keq_eq (knd := mixKind X.prog X.w) (r := true) n1 n2 d1 d2 hu (fun _ => .nil) (fin_bl I q rfl)
theorem op_neDict0 (hu : X.A.units < cLine) : OpR X (compareOp .NotEq) (fun x y H Q => ∃ a b, x = .ref a ∧ y = .ref b ∧ Rd H a (.dK []) ∧ Rd H b (.dK []) ∧ Q (.bl false) H) := by
  intro pins s σ H x y v u Q I rx ry asked
  obtain ⟨a, b, rfl, rfl, e1, e2, q⟩ := asked
  cases (show v = Value.ref a from rx)
  cases (show u = Value.ref b from ry)
  obtain ⟨_, n1, va, r1, d1⟩ := dk_rd I.hok e1
  obtain ⟨_, n2, vb, r2, d2⟩ := dk_rd I.hok e2
  have l1 : va = [] := List.length_eq_zero_iff.mp (by rw [← r1.length]; rfl)
  have l2 : vb = [] := List.length_eq_zero_iff.mp (by rw [← r2.length]; rfl)
  subst l1 l2
  exact PySem.W.keq_ne (knd := mixKind X.prog X.w) (r := true) n1 n2 d1 d2 hu (fun _ => .nil) (fin_bl I q rfl)
/-- len of a dict that is read -/
theorem call_lenR : CallR X (.builtin "len") (fun xs H Q => ∃ a kvs, xs = [V.ref a] ∧ Rd H a (.dK kvs) ∧ Q (.int kvs.length) H) := by
  intro pins s σ H xs us Q I r asked
  obtain ⟨a, kvs, rfl, ha, q⟩ := asked
  match us, r with
  | [u], .cons ru .nil =>
    cases (show u = Value.ref a from ru)
    exact d_len I ha fun t s' I' => ⟨.int kvs.length, H, I', ⟨t, rfl⟩, q⟩
/-- o[i] = v: a list or a dict -/
def rSetB : TSet := fun o i v H Q => rSetL o i v H Q ∨ rSetD o i v H Q
theorem set_both (hu : X.A.units + 1 < cLine) : PSet X rSetB := fun pins s σ H o i v ov iv u Q I ro ri rv h => by
  rcases h with h | h
  · exact set_list pins s σ H o i v ov iv u Q I ro ri rv h
  · exact set_dict hu pins s σ H o i v ov iv u Q I ro ri rv h
end
/-! ### enumerate over a text -/
/-- the signs of a text, each in a new pair behind its place -/
def ItsE (x : Str) : It := ⟨fun i _ => i < x.cps.size, fun i H v H' => ∃ T c, v = .ref T ∧ H T = none ∧ H' = upd H T (.tup [.int (i : Nat), .str ⟨#[c]⟩]) ∧ x.cps[i]? = some c, fun i _ => i = x.cps.size⟩
theorem turn_enumS {P : Program} {w : World} {K : PySem.W.Frag} {elts : List Expr} {kk : Nat} {tpos : Pos} (x : Str) (t : Tok) (e it : Addr) :
    Turn P w K (.Tuple elts kk tpos) (ItsE x) [e, it] e (fun i h => (∃ old, IsEnum h e it ((i : Nat) : Int) old) ∧ h.IsStrIter it (strIterType x) x t i ∧ e ≠ it) where
  mem := by simp
  obj := fun i h st b hb => by
    obtain ⟨⟨old, he⟩, ⟨o, ho, hc, hd⟩, _⟩ := st
    have two : b = e ∨ b = it := by simpa using hb
    rcases two with z | z
    · rw [z]
      exact ⟨_, he, fun v q => nomatch q⟩
    · rw [z]
      exact ⟨o, ho, fun v q => by rw [hd] at q; cases q⟩
  keep := fun i h h' st k => by
    obtain ⟨⟨old, he⟩, ⟨o, ho, r⟩, hne⟩ := st
    exact ⟨⟨old, k e (by simp) _ he⟩, ⟨o, k it (by simp) o ho, r⟩, hne⟩
  item := by
    intro X hP hw hK hc i pins s σ H E I hf st hg
    subst hP hw hK
    obtain ⟨⟨old, he⟩, hit, hne⟩ := st
    have lt1 : e < s.heap.objs.size := Heap.lt_size he
    have lt2 : it < s.heap.objs.size := by
      obtain ⟨_, q, _⟩ := hit
      exact Heap.lt_size q
    have D : Draws X.prog X.w X.A.in1 it [it] x.cps.size (SignAt x) (fun i h => h.IsStrIter it (strIterType x) x t i) := by
      unfold strIterType
      split
      · exact Draws.strAscii (by simpa using I.ok.hd hc) it x t
      · exact Draws.strWide (by simpa using I.ok.hd hc) it x t
    refine wpAny_pyNext_enum_itemD D he hit hg hne (by simpa using hne) fun v h' tk hv ho hit' hT hsz hk => ?_
    obtain ⟨c, u, hcx, rfl⟩ := hv
    refine ⟨_, rfl, wpAny_letOwnedTupleGo_enum (s := { s with heap := h', toks := tk + 1 }) ho fun h2 he2 sb => ?_⟩
    have hT2 : h2.get? s.heap.objs.size = some { cls := .type "tuple", data := .seq #[.int i tk, .str ⟨#[c]⟩ u] } := (sb.2 _ (Nat.ne_of_gt lt1)).trans hT
    have new : ObjOk X.prog X.w (upd H s.heap.objs.size (.tup [.int (i : Nat), .str ⟨#[c]⟩])) h2 s.heap.objs.size (.tup [.int (i : Nat), .str ⟨#[c]⟩]) :=
      ⟨by show 2 ≤ sizeLine; decide, [.int i tk, .str ⟨#[c]⟩ u], .cons ⟨_, rfl⟩ (.cons ⟨_, rfl⟩ .nil), ⟨_, hT2, rfl, _, rfl⟩⟩
    have J : Inv X pins σ (upd H s.heap.objs.size (.tup [.int (i : Nat), .str ⟨#[c]⟩])) { s with heap := h2, toks := tk + 1 } :=
      I.turnedNew (ch := [e, it]) (fun b ob hb q => (sb.2 b (fun z => hb (by simp [z]))).trans (hk b ob (fun z => hb (by simp [z])) (fun z => hb (by simp [z])) q)) hf (Nat.le_refl _) new
    refine ⟨.ref s.heap.objs.size, _, J, rfl, ⟨_, c, rfl, I.hok.fresh (Nat.le_refl _), rfl, hcx⟩, ⟨⟨.str ⟨#[c]⟩ u, ?_⟩, ?_, hne⟩, fun b hb => ?_⟩
    · rw [show ((i + 1 : Nat) : Int) = (i : Int) + 1 by omega]
      exact he2
    · obtain ⟨o, ho2, r⟩ := hit'
      exact ⟨o, (sb.2 it (Ne.symm hne)).trans ho2, r⟩
    · have lt3 : b < s.heap.objs.size := by
        have two : b = e ∨ b = it := by simpa using hb
        rcases two with z | z
        · exact z ▸ lt1
        · exact z ▸ lt2
      rw [upd_ne (Nat.ne_of_lt lt3)]
      exact (hf b hb).1
  done := by
    intro X hP hw hK hc i pins s σ H E I hf st hg
    subst hP hw hK
    obtain ⟨⟨old, he⟩, hit, hne⟩ := st
    obtain ⟨f0, f1, f2, f3, f4, f5⟩ := hf it (by simp)
    have D : Draws X.prog X.w X.A.in1 it [it] x.cps.size (SignAt x) (fun i h => h.IsStrIter it (strIterType x) x t i) := by
      unfold strIterType
      split
      · exact Draws.strAscii (by simpa using I.ok.hd hc) it x t
      · exact Draws.strWide (by simpa using I.ok.hd hc) it x t
    have ei : i = x.cps.size := hg
    subst ei
    exact wpAny_pyNext_enum_endD D he hit fun h' eb => ⟨rfl, I.turned (t' := s.toks) (fun b o hb q => eb b o hb q) f0 f1 f3 f4 f5⟩
  self := fun A i s Q E st h => by
    obtain ⟨⟨_, he⟩, _⟩ := st
    exact wpAny_pyIter_enum he h
theorem walk_enumS {x : Str} : Walk (ItsE x) x.cps.size (fun _ => True) (fun i H v H' => ∃ T c, v = .ref T ∧ H T = none ∧ H' = upd H T (.tup [.int (i : Nat), .str ⟨#[c]⟩]) ∧ x.cps[i]? = some c) :=
  ⟨fun _ _ hi _ => hi, fun _ _ => rfl, fun _ _ _ _ _ _ y => y⟩
def iEnumS (ta : TA) : TI := fun σ H R => ta σ H fun vs H1 => ∃ x, vs = [.str x] ∧ R (ItsE x) H1
theorem pi_enumS {X : Cx} {e : Expr} {ta : TA} {p pos tpos : Pos} {elts : List Expr} {kk : Nat} (hg : Gl X "enumerate") (hm : X.mg "enumerate" = none) (ha : PA X [e] ta) (hs : starEach [e] X.env = [(false, eval e X.env)]) :
    PI X (.Tuple elts kk tpos) (.Call (.Name "enumerate" p) [e] [] pos) (iEnumS ta) :=
  ⟨fun pins s σ H R I h => Call_ (ld_blt I hg hm boot_enumerate (PyProof.Rows.callWith_type1 (thn (ha.run pos pins s σ H _ I h) fun us s1 z => by
    obtain ⟨vs, H1, I1, r1, x, rfl, q⟩ := z
    match us, r1 with
    | [u], .cons ru .nil =>
      obtain ⟨t, rfl⟩ := (show ∃ t, u = Value.str x t from ru)
      refine call_enumerate_str fun h' he hit hsz hk => wpAny_pyIter_enum he ?_
      have J : Inv X pins σ H1 { s1 with heap := h' } := I1.kept (t' := s1.toks) hk
      refine ⟨s1.heap.objs.size + 1, [s1.heap.objs.size + 1, s1.heap.objs.size], _, _, H1, rfl, J, turn_enumS x t (s1.heap.objs.size + 1) s1.heap.objs.size, ⟨⟨.none, he⟩, hit, Nat.succ_ne_self _⟩, fun b hb => ?_, q⟩
      have le : s1.heap.objs.size ≤ b := by
        have two : b = s1.heap.objs.size + 1 ∨ b = s1.heap.objs.size := by simpa using hb
        rcases two with z | z
        · rw [z]; exact Nat.le_add_right _ _
        · rw [z]; exact Nat.le_refl _
      exact I1.fpOk le (I1.hok.fresh le)) hs rfl))⟩
end Mi

set_option Elab.async false
set_option linter.all false
set_option maxRecDepth 100000
set_option maxHeartbeats 4000000
/-! Ma0b: len(set(xs)), xs a list or a tuple of texts; text * number. -/
noncomputable section
namespace Mi
open PySem PySem.Spec PyProof.Rows L2
/-- how many unlike texts are among the first i -/
def cntS (xs : List Str) : Nat → Nat
  | 0 => 0
  | i + 1 => if (xs.take i).any (· == xs.getD i Str.empty) = true then cntS xs i else cntS xs i + 1
theorem cntS_le (xs : List Str) : ∀ i, cntS xs i ≤ i
  | 0 => Nat.le_refl _
  | i + 1 => by
    have := cntS_le xs i
    unfold cntS
    split <;> omega
section
variable {prog : Program} {w : World} {A : Around} {R : Result → Shared → Prop} {I : Addr} {fp wr : List Addr} {G : Array GenState → Array GenState → Prop} {n : Nat} {P : Nat → Value → Prop} {St : Nat → Shared → Prop}
theorem setOf_at {h h' : Heap} {a : Addr} {S : Str → Bool} {n : Nat} (hS : h.SetOf (PySem.strKind prog w) a S n) (k : ∀ o, h.get? a = some o → h'.get? a = some o) : h'.SetOf (PySem.strKind prog w) a S n := by
  obtain ⟨o, es, ep, t, ho, rest⟩ := hS
  exact ⟨o, es, ep, t, k o ho, rest⟩
/-- the making of a set: all that is left to come -/
theorem set_loop (W : WalksS prog w A.in1 I fp wr G n P St) (S : Addr) (hSf : S ∉ fp) (xs : List Str) (hsz : xs.length = n) (hn : n < 64)
    (hval : ∀ i v, P i v → ∃ t, v = .str (xs.getD i Str.empty) t) :
    ∀ (k i : Nat) (s : Shared), n - i = k → i ≤ n → St i s → s.heap.SetOf (PySem.strKind prog w) S (fun y => (xs.take i).any (· == y)) (cntS xs i) →
      (∀ s', Moved (S :: wr) G s s' → s'.heap.SetOf (PySem.strKind prog w) S (fun y => (xs.take n).any (· == y)) (cntS xs n) → R (.ok (.ret .none)) s') →
      codeAny (model prog w) A (.builtin "set.update.loop" ⟨[.ref S, .ref I], []⟩) R s := by
  have hSw : S ∉ wr := fun h => hSf (W.sub _ h)
  intro k
  induction k with
  | zero =>
    intro i s hk hi hst hS hR
    obtain rfl : i = n := by omega
    refine codeAny_builtin PyProof.Rows.F.entry_set_update_loop ?_
    rw [Around.under_plainId PyProof.Rows.F.plain_set_update_loop _]
    show wpAny _ A.in1 (pyNext (.ref I) >>= _) _ _ s
    refine wpAny_bind (W.done s _ _ hst fun s' hm => ?_)
    show wpAny _ A.in1 (ret Value.none) _ _ s'
    exact wpAny_pure (hR s' (hm.mono fun b hb => List.mem_cons_of_mem _ hb) (setOf_at hS fun o ho => hm.heap S _ hSw ho))
  | succ k ih =>
    intro i s hk hi hst hS hR
    have hlt : i < n := by omega
    refine codeAny_builtin PyProof.Rows.F.entry_set_update_loop ?_
    rw [Around.under_plainId PyProof.Rows.F.plain_set_update_loop _]
    show wpAny _ A.in1 (pyNext (.ref I) >>= _) _ _ s
    refine wpAny_bind (W.item i s _ _ hlt hst fun v s' hP hst' hm => ?_)
    obtain ⟨t, rfl⟩ := hval i v hP
    have hS' := setOf_at hS (h' := s'.heap) fun o ho => hm.heap S _ hSw ho
    show wpAny _ A.in1 (holding [Value.str (xs.getD i Str.empty) t] (setAdd S (.str (xs.getD i Str.empty) t)) >>= _) _ _ s'
    refine wpAny_bind (wpAny_holding ?_)
    unfold setAdd
    refine wpAny_holding (wpAny_bind ((PySem.strKind prog w).pyHash (k := xs.getD i Str.empty) (strKind_is _ _ _ _) ?_))
    have hc := cntS_le xs i
    refine wpAny_setAddHashed_of (knd := PySem.strKind prog w) (s := { s' with toks := s'.toks + 1 }) (strKind_is _ _ _ _) rfl hS' (by unfold scanBound; omega) fun h' hsb hS2 => ?_
    have hSi : h'.SetOf (PySem.strKind prog w) S (fun y => (xs.take (i + 1)).any (· == y)) (cntS xs (i + 1)) := by
      refine SetOf_congr hS2 (fun y => ?_) rfl
      have ex : xs[i]? = some (xs.getD i Str.empty) := by
        rw [List.getD_eq_getElem?_getD, List.getElem?_eq_getElem (by omega)]
        rfl
      rw [List.take_add_one, ex, List.any_append]
      show _ = ((xs.take i).any (· == y) || ((xs.getD i Str.empty == y) || false))
      rw [Bool.or_false]
      congr 1
      by_cases e : y = xs.getD i Str.empty
      · rw [e, decide_eq_true rfl, beq_self_eq_true]
      · rw [decide_eq_false e]
        exact (beq_eq_false_iff_ne.mpr fun z => e z.symm).symm
    refine wpAny_pure ⟨plainId_quiet PyProof.Rows.F.plain_set_update_loop _, ih (i + 1) _ (by omega) hlt (W.frame _ s' _ _ hst' (Nat.le_succ _) fun b hb o e => ?_) hSi fun s'' hm'' hS'' => ?_⟩
    · exact (hsb.2 b (fun h : b = S => hSf (by rw [← h]; exact hb))).trans e
    · refine hR s'' (Moved.trans W.gtrans ((hm.mono fun b hb => List.mem_cons_of_mem _ hb).then_heap (Nat.le_succ _) fun b o hb e => ?_) hm'') hS''
      exact (hsb.2 b (fun h : b = S => hb (by rw [h]; exact List.mem_cons_self))).trans e
end
theorem strs_at' {us : List Value} {xs : List Str} (h : StrsAre us xs) : ∀ (i : Nat) (v : Value), us[i]? = some v → ∃ t, v = .str (xs.getD i Str.empty) t := by
  induction h with
  | nil => intro i v e; cases e
  | cons y t _ ih =>
    intro i v e
    cases i with
    | zero =>
      cases e
      exact ⟨t, rfl⟩
    | succ i => exact ih i v e
/-- a list or a tuple on the heap -/
def SeqAs (T : String) (h : Heap) (l : Addr) (its : Array Value) : Prop := ∃ o, h.get? l = some o ∧ o.cls = .type T ∧ ∃ n, o.data = .seq its n
section
variable {prog : Program} {w : World} {A : Around} {E : Value → Shared → Prop} {s : Shared}
set_option maxHeartbeats 6400000 in
/-- set(xs) -/
theorem set_call {T : String} (hT' : T = "list" ∨ T = "tuple") {l : Addr} {items : Array Value} {xs : List Str} {Q : Value → Shared → Prop}
    (hh : A.handled = none) (hl : SeqAs T s.heap l items) (hi : PyProof.Rows.StrsAre items.toList xs) (hn1 : xs.length < 64)
    (h : ∀ (h' : Heap) (tk : Nat), h'.SetOf (PySem.strKind prog w) s.heap.objs.size (fun y => (xs.take items.size).any (· == y)) (cntS xs items.size) →
      (∀ b o, b < s.heap.objs.size → s.heap.get? b = some o → h'.get? b = some o) → Q (.ref s.heap.objs.size) { s with heap := h', toks := tk }) :
    wpAny (model prog w) A (call (.type "set") [.ref l]) Q E s := by
  obtain ⟨c, tl, hmro⟩ := PySem.F.called_set.mro
  have hmade := PySem.F.called_set.made
  have hsub := PySem.F.called_set.sub
  refine wpAny_call (codeAny_of_tree ?_)
  show wpAny _ _ (callAny (.type "set") _) _ _ _
  refine wpAny_pure ⟨Code.quiet_builtin _ (by decide +kernel), codeAny_builtin PySem.F.entry_type_call ?_⟩
  rw [Around.under_plain (weight_type_call_type "set" [.ref l] []) rfl]
  have h1 := PySem.F.called_set.notType
  have h2 := PySem.F.called_set.canCreate
  have hct := PySem.F.typeCall_set_1 (.ref l)
  repeat (any_goals (first | assumption | wp_step))
  refine codeAny_mono (code_set_new_1 (.ref l) (E := E) (Q₁ := fun obj s₁ => ∃ led : Bool, obj = .ref s.heap.objs.size ∧ s₁ = { s with heap := s.heap.push { cls := .type "set", dict := none, data := .set #[] 0 (.fresh 0 0 led) } }) fun led => ⟨led, rfl, rfl⟩) fun r s₁ hr => ?_
  match r, hr with
  | .error e, hr => exact hr
  | .ok (.ret obj), hr =>
    obtain ⟨led, rfl, rfl⟩ := hr
    have hS : (s.heap.push { cls := .type "set", dict := none, data := .set #[] 0 (.fresh 0 0 led) }).get? s.heap.objs.size = some { cls := .type "set", dict := none, data := .set #[] 0 (.fresh 0 0 led) } := Heap.get?_push_size _ rfl
    have hT : Shared.TypeIs { s with heap := s.heap.push { cls := .type "set", dict := none, data := .set #[] 0 (.fresh 0 0 led) } } (.ref s.heap.objs.size) "set" := ⟨_, hS, rfl⟩
    have hli := PySem.F.called_set.init.lookup
    have hbi := PySem.F.called_set.init.bind (.ref s.heap.objs.size)
    repeat (any_goals (first | assumption | wp_step))
    refine codeAny_mono (codeAny_call_builtin (R := wants (fun r s₂ => r = .none ∧ ∃ h' tk, s₂ = { s with heap := h', toks := tk } ∧
        h'.SetOf (PySem.strKind prog w) s.heap.objs.size (fun y => (xs.take items.size).any (· == y)) (cntS xs items.size) ∧
        (∀ b o, b < s.heap.objs.size → s.heap.get? b = some o → h'.get? b = some o)) E) PySem.F.called_set.init.plain PySem.F.entry_set_init (check_set_init_1 hT ?_)) fun r₂ s₂ hr₂ => ?_
    · obtain ⟨⟨ocls, odict, odata, oslots⟩, hol, hcl, nl, hdl⟩ := hl
      simp only at hcl hdl
      subst hcl; subst hdl
      have hol' : (s.heap.push { cls := .type "set", dict := none, data := .set #[] 0 (.fresh 0 0 led) }).get? l = some { cls := .type T, dict := odict, data := .seq items nl, slots := oslots } := Heap.get?_push_of_some _ hol
      have hlS : l < s.heap.objs.size := Heap.lt_size hol
      have hh3 : A.in1.in1.in1.handled = none := by simp [hh]
      have hneI : l ≠ (s.heap.push { cls := .type "set", dict := none, data := .set #[] 0 (.fresh 0 0 led) }).objs.size := by
        rw [Heap.size_push]; exact Nat.ne_of_lt (Nat.lt_succ_of_lt hlS)
      have hSf : s.heap.objs.size ∉ [(s.heap.push { cls := .type "set", dict := none, data := .set #[] 0 (.fresh 0 0 led) }).objs.size, l] := by
        rw [Heap.size_push]; simp only [List.mem_cons, List.mem_singleton, List.not_mem_nil, or_false, not_or]
        exact ⟨Nat.ne_of_lt (Nat.lt_succ_self _), Nat.ne_of_gt hlS⟩
      have hsz : xs.length = items.size := by rw [← StrsAre.len_eq hi, Array.length_toList]
      have hval : ∀ (i : Nat) (v : Value), items[i]? = some v → ∃ t, v = .str (xs.getD i Str.empty) t := fun i v hv => strs_at' hi i v (by rw [Array.getElem?_toList]; exact hv)
      rcases hT' with rfl | rfl
      · have hsls := PySem.F.sub_list_set
        have hslf := PySem.F.sub_list_frozenset
        have hne : (Value.type "list" == Value.type "dict") = false := by decide
        have hl1 : (s.heap.push { cls := .type "set", dict := none, data := .set #[] 0 (.fresh 0 0 led) }).IsList l items := ⟨_, hol', rfl, nl, rfl⟩
        unfold Builtin.«set.__init__» noKeywords Builtin.Frozenset.updateFrom
        generalize hPI : pyIter = PI
        wp_walk
        subst hPI
        refine wpAny_pyIter_list hl1 (wpAny_bind (wpAny_runValue ?_))
        refine set_loop ((Walks.list hh3 _ l hneI items).toS) s.heap.objs.size hSf xs hsz (by omega) hval (items.size - 0) 0 _ (by omega) (Nat.zero_le _) ⟨⟨_, Heap.get?_push_size _ rfl, rfl, rfl⟩, (hl1.push _)⟩ ?hS0 ?hR
        case hS0 =>
          exact PyProof.Rows.SetOf_congr ((PyProof.Rows.setObjOf_fresh (knd := PySem.strKind prog w) led).setOf (Heap.get?_push_of_some _ hS) (by unfold scanBound; omega)) (fun _ => rfl) rfl
        case hR =>
          intro s' hm hS'
          obtain ⟨h', g', d', tk', os'⟩ := s'
          have eg : g' = s.gens := hm.gens
          have ed : d' = s.drawn := hm.drawn
          have eo : os' = s.os := hm.os
          subst eg; subst ed; subst eo
          show wpAny _ _ _ _ _ _
          refine wpAny_pure ?_
          show wpAny _ _ (ret Value.none) _ _ _
          refine wpAny_pure ⟨rfl, h', tk', rfl, hS', fun b o hb e => hm.heap b o ?_ (Heap.get?_push_of_some _ (Heap.get?_push_of_some _ e))⟩
          simp only [List.mem_cons, List.mem_singleton, List.not_mem_nil, or_false, not_or]
          exact ⟨Nat.ne_of_lt hb, by rw [Heap.size_push]; exact Nat.ne_of_lt (Nat.lt_succ_of_lt hb)⟩
      · have hsls := PySem.F.sub_tuple_set
        have hslf := PySem.F.sub_tuple_frozenset
        have hne : (Value.type "tuple" == Value.type "dict") = false := by decide
        have hl1 : (s.heap.push { cls := .type "set", dict := none, data := .set #[] 0 (.fresh 0 0 led) }).IsTuple l items := ⟨_, hol', rfl, nl, rfl⟩
        unfold Builtin.«set.__init__» noKeywords Builtin.Frozenset.updateFrom
        generalize hPI : pyIter = PI
        wp_walk
        subst hPI
        refine wpAny_pyIter_tuple hl1 (wpAny_bind (wpAny_runValue ?_))
        refine set_loop ((Walks.tuple hh3 _ l hneI items).toS) s.heap.objs.size hSf xs hsz (by omega) hval (items.size - 0) 0 _ (by omega) (Nat.zero_le _) ⟨⟨_, Heap.get?_push_size _ rfl, rfl, rfl⟩, (hl1.push _)⟩ ?hS0 ?hR
        case hS0 =>
          exact PyProof.Rows.SetOf_congr ((PyProof.Rows.setObjOf_fresh (knd := PySem.strKind prog w) led).setOf (Heap.get?_push_of_some _ hS) (by unfold scanBound; omega)) (fun _ => rfl) rfl
        case hR =>
          intro s' hm hS'
          obtain ⟨h', g', d', tk', os'⟩ := s'
          have eg : g' = s.gens := hm.gens
          have ed : d' = s.drawn := hm.drawn
          have eo : os' = s.os := hm.os
          subst eg; subst ed; subst eo
          show wpAny _ _ _ _ _ _
          refine wpAny_pure ?_
          show wpAny _ _ (ret Value.none) _ _ _
          refine wpAny_pure ⟨rfl, h', tk', rfl, hS', fun b o hb e => hm.heap b o ?_ (Heap.get?_push_of_some _ (Heap.get?_push_of_some _ e))⟩
          simp only [List.mem_cons, List.mem_singleton, List.not_mem_nil, or_false, not_or]
          exact ⟨Nat.ne_of_lt hb, by rw [Heap.size_push]; exact Nat.ne_of_lt (Nat.lt_succ_of_lt hb)⟩
    · match r₂, hr₂ with
      | .error e, hr₂ => exact hr₂
      | .ok (.ret r), hr₂ =>
        obtain ⟨rfl, h', tk, rfl, hS', hk'⟩ := hr₂
        repeat (any_goals (first | assumption | wp_step))
        exact h _ _ hS' hk'
end
section
variable {X : Cx}
theorem strsAre_vals : ∀ {ys : List Str} {us : List Value}, Vals (ys.map V.str) us → StrsAre us ys
  | [], _, .nil => .nil
  | y :: ys, _, .cons r t => by
    obtain ⟨k, rfl⟩ := r
    exact .cons y k (strsAre_vals t)
/-- len(set(xs)) -/
def tLenSetS (K : PySem.W.Frag) (ta : TE) : TE := fun σ H Q => ta σ H fun x H1 => ∃ l, ∃ xs : List Str, x = .ref l ∧ (SqL K H1 l (xs.map V.str) ∨ SqT K H1 l (xs.map V.str)) ∧ xs.length < 64 ∧ Q (.int (cntS xs xs.length : Nat)) H1
theorem pe_lenSetS {a : Expr} {ta : TE} {p p2 q pos : Pos} (hc : X.calm = true) (hg : Gl X "len") (hm : X.mg "len" = none) (hg2 : Gl X "set") (hm2 : X.mg "set" = none) (ha : PE X a ta)
    (na : starEach [a] X.env = (false, eval a X.env) :: starEach [] X.env) : PE X (.Call (.Name "len" p) [.Call (.Name "set" p2) [a] [] q] [] pos) (tLenSetS X.K ta) := by
  refine ⟨fun pins s σ H Q I h => ?_⟩
  refine Call_ (ld_blt I hg hm boot_len (PyProof.Rows.callWith_builtin1 (PyProof.Rows.args_cons ?_ rfl) rfl rfl))
  refine Call_ (ld_blt I hg2 hm2 boot_set (PyProof.Rows.callWith_type1 (PyProof.Rows.args_cons (thn (ha.run pins s σ H _ I h) fun v s1 ⟨x, H1, I1, r1, q1⟩ => PyProof.Rows.args_nil ?_) na) na rfl))
  obtain ⟨l, xs, rfl, hq, h1, q1⟩ := q1
  cases r1
  have hcn := cntS_le xs xs.length
  have fin : ∀ (its : List Value), Vals (xs.map V.str) its → ∀ (h' : Heap) (tk : Nat), h'.SetOf (PySem.strKind X.prog X.w) s1.heap.objs.size (fun y => (xs.take its.toArray.size).any (· == y)) (cntS xs its.toArray.size) →
      (∀ b o, b < s1.heap.objs.size → s1.heap.get? b = some o → h'.get? b = some o) →
      wpAny (model X.prog X.w) X.A (spliced (backTo pos (starEach [] X.env))) (fun vs s₂ => wpAny (model X.prog X.w) X.A (call (.builtin "len") (Value.ref s1.heap.objs.size :: vs)) (EP X pins σ Q) X.xe s₂) X.xe { s1 with heap := h', toks := tk } := fun its r h' tk hS hk => by
    refine PyProof.Rows.args_nil ?_
    have hl : its.toArray.size = xs.length := by rw [List.size_toArray, ← r.length, List.length_map]
    rw [hl] at hS
    obtain ⟨o, es, ep, t, ho, hex, hd, _, _, _, hf, hn⟩ := hS
    have I2 : Inv X pins σ H1 { s1 with heap := h', toks := tk } := I1.kept fun b o e => hk b o (Heap.lt_size e) e
    exact call_len_set ho hex hd hf (by rw [hn]; omega) ⟨.int (cntS xs xs.length : Nat), H1, I2.tok _, ⟨_, by rw [hn]⟩, q1⟩
  rcases hq with hq | hq
  · obtain ⟨its, r, pl, hz⟩ := I1.list hq
    exact set_call (T := "list") (.inl rfl) (I1.ok.hd hc) pl.isList (by simpa using strsAre_vals r) h1 fun h' tk hS hk => fin its r h' tk hS hk
  · obtain ⟨its, r, pl, hz⟩ := I1.tuple hq
    exact set_call (T := "tuple") (.inr rfl) (I1.ok.hd hc) pl (by simpa using strsAre_vals r) h1 fun h' tk hS hk => fin its r h' tk hS hk
end
/-! ### text * number -/
def CRep (z : Str) (n : Int) : Prop := 0 ≤ n ∧ n ≤ 1000 ∧ z.length ≤ 1000
theorem CRep.ok {z : Str} {n : Int} (h : CRep z n) : MulOk z n := by
  obtain ⟨h1, h2, h3⟩ := h
  refine ⟨?_, fun h4 _ => ?_, fun h4 _ => ?_⟩
  · rw [decide_eq_false (by omega), decide_eq_false (by omega)]
    rfl
  · have a1 : (1000 : Int) ≤ (2 ^ 63 - 1) / n := (Int.le_ediv_iff_mul_le (by omega)).mpr (by omega)
    omega
  · have a2 : z.length * n.toNat ≤ 1000 * 1000 := Nat.mul_le_mul h3 (by omega)
    refine decide_eq_false ?_
    rw [sizeLine_eq]
    omega
def rMulS : R2 := fun x y H Q => ∃ z n, x = .str z ∧ y = .int n ∧ CRep z n ∧ Q (.str (PySem.Txt.mul z n)) H
theorem op_mulS {X : Cx} : OpR X (binaryOp .Mult) rMulS := by
  intro pins s σ H x y v u Q I rx ry h
  obtain ⟨z, n, rfl, rfl, hc, q⟩ := h
  obtain ⟨t, rfl⟩ := rx
  obtain ⟨t', rfl⟩ := ry
  exact SB.mul hc.ok fun t2 k => ⟨.str (PySem.Txt.mul z n), H, I.kept (t' := k) fun _ _ z => z, ⟨_, rfl⟩, q⟩
end Mi

set_option Elab.async false
set_option linter.all false
set_option maxRecDepth 100000
set_option maxHeartbeats 4000000
/-! Ma0c: texts' operations, quick to reckon: cut at a sign, the first place of a text in a text, joined. -/
noncomputable section
namespace Mi
open PySem PySem.Spec PyProof.Rows L2
def splF (c : Nat) : List Nat → List Nat → List (List Nat)
  | acc, [] => [acc.reverse]
  | acc, a :: r => match Nat.beq c a with
    | true => acc.reverse :: splF c [] r
    | false => splF c (a :: acc) r
theorem splF_eq (c : Nat) : ∀ (l acc : List Nat), splF c acc l = TL.spl [c] 0 acc.reverse l
  | [], acc => rfl
  | a :: r, acc => by
    unfold splF
    have e : TL.pre [c] (a :: r) = Nat.beq c a := by
      show (([a] : List Nat) == [c]) = _
      cases q : Nat.beq c a with
      | true => rw [Nat.eq_of_beq_eq_true q]; simp
      | false => simpa using fun z => Nat.ne_of_beq_eq_false q z.symm
    split
    · rename_i q
      rw [TL.spl_hit (e.trans q), splF_eq c r []]
      rfl
    · rename_i q
      rw [TL.spl_miss (e.trans q), splF_eq c r (a :: acc), List.reverse_cons]
def txtSplit (a b : Str) : List Str := match b.cps.toList with
  | [c] => (match Nat.blt c 256 with
    | true => (splF c [] a.cps.toList).map fun l => ⟨l.toArray⟩
    | false => Txt.split a b)
  | _ => Txt.split a b
theorem txtSplit_eq (a b : Str) : txtSplit a b = Txt.split a b := by
  unfold txtSplit
  split
  · rename_i c hb
    split
    · rename_i h256
      have hc : c < 256 := by
        have : c ≤ 255 := by simpa [Nat.blt] using h256
        omega
      have e := SX.split_S (a := a.cps.toList) (b := [c]) (by simp) (by simp [hc])
      have ea : (SX.S a.cps.toList : Str) = a := TL.mk_tl a
      have eb : (SX.S [c] : Str) = b := by
        rw [← hb]
      rw [ea, eb] at e
      rw [e, splF_eq]
      exact List.map_congr_left fun _ _ => rfl
    · rfl
  · rfl
/-- S stands at the head of l -/
def preF : List Nat → List Nat → Bool
  | [], _ => true
  | _ :: _, [] => false
  | a :: S, b :: l => match Nat.beq a b with
    | true => preF S l
    | false => false
theorem preF_eq : ∀ (S l : List Nat), preF S l = TL.pre S l
  | [], l => by simp [preF, TL.pre]
  | a :: S, [] => by simp [preF, TL.pre]
  | a :: S, b :: l => by
    unfold preF
    have ih := preF_eq S l
    unfold TL.pre at ih ⊢
    rw [List.length_cons, List.take_succ_cons]
    show _ = (b == a && (l.take S.length == S))
    split
    · rename_i q
      rw [Nat.eq_of_beq_eq_true q, ih]
      simp
    · rename_i q
      have : ¬ b = a := fun z => Nat.ne_of_beq_eq_false q z.symm
      simp [this]
def findF (S : List Nat) : List Nat → Nat → Option Nat
  | [], _ => none
  | c :: r, n => match preF S (c :: r) with
    | true => some n
    | false => findF S r (n + 1)
theorem findF_some {S : List Nat} : ∀ {l : List Nat} {n k : Nat}, findF S l n = some k → n ≤ k ∧ TL.pre S (l.drop (k - n)) = true ∧ ∀ i, i < k - n → TL.pre S (l.drop i) = false
  | [], _, _, h => by cases h
  | c :: r, n, k, h => by
    unfold findF at h
    split at h
    · rename_i q
      cases h
      refine ⟨Nat.le_refl _, ?_, fun i hi => by omega⟩
      rw [Nat.sub_self, List.drop_zero, ← preF_eq]
      exact q
    · rename_i q
      obtain ⟨h1, h2, h3⟩ := findF_some h
      have e : k - n = (k - (n + 1)) + 1 := by omega
      refine ⟨by omega, by rw [e, List.drop_succ_cons]; exact h2, fun i hi => ?_⟩
      cases i with
      | zero => rw [List.drop_zero, ← preF_eq]; exact q
      | succ i => rw [List.drop_succ_cons]; exact h3 i (by omega)
theorem findF_none {S : List Nat} (hS : S ≠ []) : ∀ {l : List Nat} {n : Nat}, findF S l n = none → ∀ i, TL.pre S (l.drop i) = false
  | [], _, _, i => by rw [List.drop_nil]; exact TL.pre_nil hS
  | c :: r, n, h, i => by
    unfold findF at h
    split at h
    · cases h
    · rename_i q
      cases i with
      | zero => rw [List.drop_zero, ← preF_eq]; exact q
      | succ i => rw [List.drop_succ_cons]; exact findF_none hS h i
def txtFind (a b : Str) : Int := match b.cps.toList with
  | [] => Txt.find a b
  | s :: S => (match findF (s :: S) a.cps.toList 0 with
    | some k => (k : Int)
    | none => -1)
theorem txtFind_eq (a b : Str) : txtFind a b = Txt.find a b := by
  unfold txtFind
  split
  · rfl
  · rename_i s S hb
    have hne : TL.tl b ≠ [] := by
      show b.cps.toList ≠ []
      rw [hb]
      simp
    rcases find_whole a b with ⟨h1, h2⟩ | ⟨i, h1, h2, h3⟩
    · rw [h1]
      split
      · rename_i k hk
        obtain ⟨_, q, _⟩ := findF_some hk
        exact absurd ((TL.at_iff hne k).mpr (by show TL.pre b.cps.toList _ = true; rw [hb]; exact q)) (h2 k)
      · rfl
    · rw [h1]
      split
      · rename_i k hk
        obtain ⟨_, q, z⟩ := findF_some hk
        have p1 := (TL.at_iff hne i).mp h2
        have p1' : TL.pre (s :: S) (a.cps.toList.drop i) = true := by rw [← hb]; exact p1
        have hki : k = i := by
          rcases Nat.lt_trichotomy k i with h | h | h
          · exact absurd ((TL.at_iff hne k).mpr (by show TL.pre b.cps.toList _ = true; rw [hb]; exact q)) (h3 k h)
          · exact h
          · rw [z i (by omega)] at p1'
            cases p1'
        rw [hki]
      · rename_i hk
        have p1 := (TL.at_iff hne i).mp h2
        have p1' : TL.pre (s :: S) (a.cps.toList.drop i) = true := by rw [← hb]; exact p1
        rw [findF_none (by simp) hk i] at p1'
        cases p1'
/-- is b within a? -/
def txtHas (a b : Str) : Bool := match b.cps.toList with
  | [] => !(Builtin.Str.occurrences a b 0 a.length 1).isEmpty
  | s :: S => (findF (s :: S) a.cps.toList 0).isSome
theorem txtHas_eq (a b : Str) : txtHas a b = !(Builtin.Str.occurrences a b 0 a.length 1).isEmpty := by
  have e := txtFind_eq a b
  unfold txtHas
  unfold txtFind at e
  split
  · rfl
  · rename_i s S hb
    rw [hb] at e
    dsimp only at e
    unfold Txt.find at e
    cases q : Builtin.Str.occurrences a b 0 a.length 1 with
    | nil =>
      rw [q] at e
      cases z : findF (s :: S) a.cps.toList 0 with
      | none => rfl
      | some k =>
        rw [z] at e
        dsimp only at e
        omega
    | cons i r =>
      rw [q] at e
      cases z : findF (s :: S) a.cps.toList 0 with
      | none =>
        rw [z] at e
        dsimp only at e
        omega
      | some k => rfl
/-- put together -/
def appS (a b : Str) : Str := ⟨(a.cps.toList ++ b.cps.toList).toArray⟩
theorem appS_eq (a b : Str) : appS a b = a ++ b := TL.ext_tl (by rw [TL.tl_append]; rfl)
def joinF (sep : Str) : List Str → Str
  | [] => ⟨#[]⟩
  | [x] => x
  | x :: y :: r => appS x (appS sep (joinF sep (y :: r)))
theorem joinF_eq (sep : Str) (l : List Str) : joinF sep l = Txt.join sep l := by
  have e : Txt.join sep l = Str.join sep l := StrLaws.glued_eq_join sep l
  rw [e]
  induction l with
  | nil => rfl
  | cons x r ih =>
    cases r with
    | nil => rfl
    | cons y r =>
      have ih' := ih (StrLaws.glued_eq_join sep (y :: r))
      show appS x (appS sep (joinF sep (y :: r))) = x ++ sep ++ Str.join sep (y :: r)
      rw [appS_eq, appS_eq, ih']
      refine TL.ext_tl ?_
      simp only [TL.tl_append, List.append_assoc]
end Mi

set_option Elab.async false
set_option linter.all false
set_option maxRecDepth 100000
set_option maxHeartbeats 4000000
/-! Ma0d: max of three whole numbers. -/
noncomputable section
namespace PySem
section
variable {prog : Program} {w : World} {A : Around} {E : Value → Shared → Prop} {s : Shared}
theorem args_max3 (x y z : Value) : argsOk "max" ⟨[x, y, z], []⟩ := by
  unfold argsOk
  kernel_rfl
theorem max3_walk {x y z : Value} {Q : Value → Shared → Prop}
    (h : wpAny (model prog w) A.in1 (pyIter (.ref s.heap.objs.size)) (fun it t2 => ∃ J fq wq n R St bt, it = .ref J ∧ Walks prog w A.in1 J fq wq n R St ∧ St 0 t2.heap ∧ (∀ b ∈ fq, b < t2.heap.objs.size) ∧ 0 < n ∧ CmpOf prog w A.in1 .Gt R bt ∧
      ∀ v h' tk, R (argBest bt (n - 1)) v → (∀ b o, b ∉ wq → t2.heap.get? b = some o → h'.get? b = some o) → Q v { t2 with heap := h', toks := tk }) E
      { s with heap := s.heap.push { cls := .type "tuple", data := .seq #[x, y, z] } }) :
    wpAny (model prog w) A (call (.builtin "max") [x, y, z]) Q E s := by
  have nm : (toString "max" ++ toString ".loop" : String) = "max.loop" := by decide
  refine call_function_tree F.kind_max F.plain_max F.entry_max (args_max3 _ _ _) ?_
  show wpAny _ A.in1 (Builtin.Builtins.bindParams "max" ["key", "default"] 0 ⟨[], []⟩ >>= _) _ _ _
  refine wpAny_bind (wpAny_of_eq (show Builtin.Builtins.bindParams "max" ["key", "default"] 0 ⟨[], []⟩ = pure [none, none] by rfl) ?_)
  show wpAny _ A.in1 (newTuple [x, y, z] >>= _) _ _ s
  refine wpAny_bind (wpAny_newObj_type (wpAny_bind (wpAny_mono h (fun it t2 h2 => ?_) fun _ _ e => e)))
  obtain ⟨J, fq, wq, n, R, St, bt, rfl, W, hst, hfq, hn, hcmp, hQ⟩ := h2
  refine wpAny_bind (wpAny_newObj_type ?_)
  have nf : t2.heap.objs.size ∉ fq := fun hm => absurd (hfq _ hm) (Nat.lt_irrefl _)
  rw [nm]
  refine wpAny_pure ⟨plainId_quiet F.plain_max_loop _, codeAny_max_loop_first W bt hcmp t2.heap.objs.size nf hn (W.frame _ _ _ hst fun b _ o e => Heap.get?_push_of_some _ e) (Heap.get?_push_size _ rfl) fun v h' tk hR hk => ?_⟩
  exact hQ v h' tk hR fun b o hb e => hk b o hb (Nat.ne_of_lt (Heap.lt_size e)) (Heap.get?_push_of_some _ e)
theorem max3_ints {a b c : Int} {t u v : Tok} {Q : Value → Shared → Prop} (hh : A.handled = none)
    (h : ∀ (i : Int) (k : Tok) h' tk, i = max (max a b) c → (∀ d o, s.heap.get? d = some o → h'.get? d = some o) → Q (.int i k) { s with heap := h', toks := tk }) :
    wpAny (model prog w) A (call (.builtin "max") [.int a t, .int b u, .int c v]) Q E s := by
  have hT : (s.heap.push { cls := .type "tuple", data := .seq #[.int a t, .int b u, .int c v] }).IsTuple s.heap.objs.size (intItems #[(a, t), (b, u), (c, v)]) := ⟨_, Heap.get?_push_size _ rfl, rfl, 0, by simp [intItems]⟩
  refine max3_walk (wpAny_pyIter_tuple hT ?_)
  have sz : (s.heap.push { cls := .type "tuple", data := .seq #[.int a t, .int b u, .int c v] }).objs.size = s.heap.objs.size + 1 := Heap.size_push ..
  refine ⟨_, [_, s.heap.objs.size], [_], _, _, _, _, rfl, Walks.tuple (A := A.in1) hh _ s.heap.objs.size (by rw [sz]; exact Nat.ne_of_lt (Nat.lt_succ_self _)) (intItems #[(a, t), (b, u), (c, v)]),
    ⟨⟨_, Heap.get?_push_size _ rfl, rfl, rfl⟩, hT.push _⟩, fun d hd => ?_, by simp [intItems], CmpOf.ints_gt (numAt #[(a, t), (b, u), (c, v)]) (fun _ _ => intItems_at), fun x h' tk hP hk => ?_⟩
  · show d < ((s.heap.push _).push _).objs.size
    rw [Heap.size_push, sz]
    rcases List.mem_cons.mp hd with e | hd
    · rw [e, sz]
      exact Nat.lt_succ_self _
    · rcases List.mem_cons.mp hd with e | hd
      · rw [e]
        exact Nat.lt_succ_of_lt (Nat.lt_succ_self _)
      · cases hd
  · have old : ∀ d o, s.heap.get? d = some o → h'.get? d = some o := fun d o e => by
      refine hk d o (fun hm => ?_) (Heap.get?_push_of_some _ (Heap.get?_push_of_some _ e))
      rcases List.mem_cons.mp hm with e1 | hm
      · have q := Heap.lt_size e
        rw [e1, sz] at q
        exact absurd (Nat.lt_of_succ_lt q) (Nat.lt_irrefl _)
      · cases hm
    have hP' : (intItems #[(a, t), (b, u), (c, v)])[argBest (fun i j => decide (numAt #[(a, t), (b, u), (c, v)] i > numAt #[(a, t), (b, u), (c, v)] j)) 2]? = some x := by
      have e2 : (intItems #[(a, t), (b, u), (c, v)]).size - 1 = 2 := by simp [intItems]
      rw [← e2]
      exact hP
    have key : ∃ i k, x = .int i k ∧ i = max (max a b) c := by
      by_cases h1 : b > a <;> by_cases h2 : c > b <;> by_cases h3 : c > a <;> simp [argBest, numAt, h1, h2, h3, intItems] at hP' <;> exact ⟨_, _, hP'.symm, by omega⟩
    obtain ⟨i, k, rfl, hi⟩ := key
    exact h i k h' tk hi old
end
end PySem
namespace Mi
open PySem PySem.Spec PyProof.Rows L2
theorem call_max3 {X : Cx} (hc : X.calm = true) : CallR X (.builtin "max") (fun xs H Q => ∃ i j k, xs = [.int i, .int j, .int k] ∧ Q (.int (max (max i j) k)) H) := by
  intro pins s σ H xs us Q I r h
  obtain ⟨i, j, k, rfl, q⟩ := h
  cases r with
  | cons r1 r =>
    cases r with
    | cons r2 r =>
      cases r with
      | cons r3 r =>
        cases r
        obtain ⟨t1, rfl⟩ := r1
        obtain ⟨t2, rfl⟩ := r2
        obtain ⟨t3, rfl⟩ := r3
        exact PySem.max3_ints (I.ok.hd hc) fun m tk h' k' e kp => ⟨_, H, I.kept kp, by rw [e]; exact ⟨_, rfl⟩, q⟩
end Mi

set_option Elab.async false
set_option linter.all false
set_option maxRecDepth 100000
set_option maxHeartbeats 4000000
/-! Ma0e: sorted of a tuple of texts. -/
noncomputable section
namespace Mi
open PySem PySem.Spec PyProof.Rows L2
section
variable {prog : Program} {w : World} {A : Around} {E : Value → Shared → Prop} {s : Shared}
theorem collect_tup {l : Addr} {vs : List Value} {Q : List Value → Shared → Prop} (hl : IsTup s.heap l vs.toArray)
    (h : Q vs { s with heap := (s.heap.push (seqObj "list" #[] 0)).update s.heap.objs.size (Obj.mapSeq (· ++ vs.toArray)) }) (hsz : vs.length ≤ sizeLine) :
    wpAny (model prog w) A (collect (.ref l)) Q E s := by
  obtain ⟨o, ho, hc, n, hd⟩ := id hl
  unfold collect
  refine wpAny_bind (wpAny_runValue (codeAny_builtin entry_proto_collect' ?_))
  show wpAny _ _ (do again (.builtin "list.__iadd__" ⟨[← newList [], .ref l], []⟩)) _ _ s
  refine wpAny_bind (wpAny_newList (wpAny_pure ⟨Code.quiet_builtin _ (by decide +kernel), codeAny_builtin entry_list_iadd' ?_⟩))
  show wpAny _ _ (Builtin.List.listExtendWith (.ref s.heap.objs.size) (.ref l) (.ref s.heap.objs.size)) _ _ { s with heap := s.heap.push (seqObj "list" #[] 0) }
  unfold Builtin.List.listExtendWith
  have ho' : (s.heap.push (seqObj "list" #[] 0)).get? l = some o := Heap.get?_push_of_some _ ho
  refine wpAny_bind (wpAny_typeOf (T := "tuple") ⟨o, ho', hc⟩ ?_)
  have ht : (Value.type "tuple" == Value.type "tuple") = true := by rfl
  rw [if_pos (by rw [ht]; simp)]
  refine wpAny_bind (listItems_at ho' hd ?_)
  refine wpAny_bind (listItems_at (xs := #[]) (n := 0) (Heap.get?_push_size _ rfl) rfl ?_)
  rw [if_neg (by simp)]
  refine wpAny_bind (listUpdate_at (xs := #[]) (n := 0) (Heap.get?_push_size _ rfl) rfl ?_ (Nat.zero_le _) (by show (#[] ++ vs.toArray).size ≤ sizeLine + 1; simp only [Array.size_append, List.size_toArray, List.length_nil]; omega))
  refine wpAny_pure ?_
  show wpAny (model prog w) A (do
      let o ← load s.heap.objs.size
      match o.data with
      | .seq xs _ => pure xs.toList
      | _ => unsupported "internal:collect") Q E { s with heap := (s.heap.push (seqObj "list" #[] 0)).update s.heap.objs.size (Obj.mapSeq (· ++ vs.toArray)) }
  refine wpAny_bind (wpAny_load (get?_update_seq (Heap.get?_push_size _ rfl) _) ?_)
  show wpAny _ _ (pure ((#[] : Array Value) ++ vs.toArray).toList) Q E _
  rw [show ((#[] : Array Value) ++ vs.toArray).toList = vs by simp]
  exact wpAny_pure h
theorem sorted_strsT {l : Addr} {vs : List Value} {ss : List Str} {Q : Value → Shared → Prop} (hl : IsTup s.heap l vs.toArray) (hS : StrsAre vs ss) (h64 : vs.length < 64)
    (h : ∀ (out : Array Value) (ss' : List Str), StrsAre out.toList ss' → ss'.Perm ss → sortedS ss' = true → Q (.ref (s.heap.objs.size + 1)) { s with heap := sortedAll s.heap vs out }) :
    wpAny (model prog w) A (call (.builtin "sorted") [.ref l]) Q E s := by
  refine Calls.call_function_entry kind_sorted plain_sorted entry_sorted (args_sorted1 _) ?_
  unfold Builtin.«sorted»
  refine wpAny_bind (m := checkCount "sorted" 1 1 _) (wpAny_pure ?_)
  refine wpAny_bind (collect_tup hl ?_ (by rw [sizeLine_eq]; omega))
  refine wpAny_bind (wpAny_newList ?_ (by rw [sizeLine_eq]; omega))
  have hsz : ((s.heap.push (seqObj "list" #[] 0)).update s.heap.objs.size (Obj.mapSeq (· ++ vs.toArray))).objs.size = s.heap.objs.size + 1 := by
    rw [Heap.size_update, size_push']
  have hoL : (((s.heap.push (seqObj "list" #[] 0)).update s.heap.objs.size (Obj.mapSeq (· ++ vs.toArray))).push (seqObj "list" vs.toArray 0)).get? (s.heap.objs.size + 1) = some (seqObj "list" vs.toArray 0) := by
    rw [← hsz]; exact Heap.get?_push_size _ rfl
  show wpAny _ _ _ _ _ { s with heap := ((s.heap.push (seqObj "list" #[] 0)).update s.heap.objs.size (Obj.mapSeq (· ++ vs.toArray))).push (seqObj "list" vs.toArray 0) }
  rw [hsz]
  refine wpAny_bind (wpAny_holding (wpAny_call_entry slot_list_sort ⟨_, hoL, rfl⟩ entry_list_sort
    (list_sort_treeK strKind_oneLt (s := { s with heap := ((s.heap.push (seqObj "list" #[] 0)).update s.heap.objs.size (Obj.mapSeq (· ++ vs.toArray))).push (seqObj "list" vs.toArray 0) }) hoL hS.keysOf (fun v₁ v₂ rest e => keyKind_strs (by rw [← e]; exact hS)) h64 fun st' hp hs => ⟨_, rfl, ?_⟩)
    (args_list_sort _)))
  obtain ⟨ys, g1, g2, g3⟩ := sorted_out_str hS hp hs
  exact wpAny_pure ⟨_, rfl, h _ ys g1 g2 g3⟩
end
section
variable {X : Cx}
theorem cr_sortedT : CallR X (.builtin "sorted") (fun vs H Q => ∃ (a : Addr) (xs : List Str), vs = [V.ref a] ∧ SqT X.K H a (xs.map V.str) ∧ xs.length < 64 ∧ ∀ ys p, ys.Perm xs → sortedS ys = true → H p = none → Q (.ref p) (upd H p (.lst (ys.map V.str)))) := by
  intro pins s σ H vs us Q I r h
  obtain ⟨a, xs, rfl, hs, h64, q⟩ := h
  obtain ⟨its, rv, hl, _⟩ := I.tuple hs
  rw [Vals.ref1 r]
  have hlen0 := rv.length
  rw [List.length_map] at hlen0
  refine sorted_strsT hl rv.strs (by rw [← hlen0]; exact h64) fun out ys h1 h2 h3 => ?_
  obtain ⟨ep, he'⟩ := PyProof.Rows.sortedAll_at s.heap its out
  have hlen : (ys.map V.str).length ≤ sizeLine := by rw [List.length_map, h2.length_eq]; exact small64 h64
  exact ⟨.ref _, upd H (s.heap.objs.size + 1) (.lst (ys.map V.str)), I.laid (t' := s.toks) (fun _ _ => PyProof.Rows.sortedAll_old) (Nat.le_succ _) ⟨hlen, out.toList, ep, vals_of_strs h1, he'⟩, rfl, q ys _ h2 h3 (I.hok.fresh (Nat.le_succ _))⟩
end
end Mi

set_option Elab.async false
set_option linter.all false
set_option maxRecDepth 100000
set_option maxHeartbeats 4000000
/-! Ma21: starred d.values(). -/
noncomputable section
namespace Mi
open PySem PySem.Spec PyProof.Rows L2
/-- *e.values() among arguments or parts -/
def tStarV (te : TE) (t : TA) : TA := fun σ H Q => te σ H fun x H1 => ∃ d kvs, x = V.ref d ∧ L2.Rd H1 d (.dK kvs) ∧ t σ H1 fun ys H2 => Q (kvs.map Prod.snd ++ ys) H2
section
variable {X : Cx} {pins : List (Addr × Obj)} {σ : L2.St} {H : Hp} {s : Shared} {e : Expr} {es : List Expr} {te : TE} {t : TA} {p apos cpos : Pos}
theorem vals_of_kv {κ : Type} {kvs : List (κ × V)} {vs : List (κ × Value)} (h : KV kvs vs) : Vals (kvs.map Prod.snd) (vs.map Prod.snd) := by
  unfold KV at h
  induction h with
  | nil => exact .nil
  | cons a r ih => exact .cons a.2 ih
theorem star_vals {d v : Addr} {kvs : List (Key × V)} {E : Value → Shared → Prop} {Q : List Value → Shared → Prop} (hc : X.calm = true) (I : Inv X pins σ H s) (hd : L2.Rd H d (.dK kvs)) (hv : s.heap.IsValuesView v d) (hQ : ∀ us s', Inv X pins σ H s' → Vals (kvs.map Prod.snd) us → Q us s') : PySem.W.StarOf (model X.prog X.w) X.A E (.ref v) Q s := by
  obtain ⟨hz, n1, vs, r, dd⟩ := dk_rd I.hok hd
  obtain ⟨ep, hat⟩ := dd.dictAt
  have hT : s.TypeIs (.ref v) "dict_values" := hv.typeIs
  have z : wpAny (model X.prog X.w) X.A (collect (.ref v)) Q E s := by
    refine PySem.W.kdu_collect (PySem.W.kdl_values (knd := mixKind X.prog X.w) (r := v) (d := d) (kvs := vs) (ep := ep)) (I.ok.hd hc) ⟨hv, hat⟩ (by rw [← r.length]; exact hz) fun h' tk acc hk it => ?_
    have e : acc.toList = vs.map Prod.snd := PySem.W.kdl_vals_eq acc.toList (by rw [Array.length_toList]; exact it.1) fun j u hu => it.2 j u (by rw [← Array.getElem?_toList]; exact hu)
    rw [e]
    exact hQ _ _ (I.kept (t' := tk) hk) (vals_of_kv r)
  unfold PySem.W.StarOf notIterableAtAll
  exact wpAny_bind (wpAny_specialOf hT PySem.F.slot_dict_values_iter.lookup (wpAny_pure ⟨rfl, z⟩))
theorem pa_starV (hc : X.calm = true) (he : PE X e te) (hr : PA X es t) (hbase : attributeBase e "values" X.env (eval e X.env) = eval e X.env) (hline : (apos.endLine == cpos.line) = true) :
    PA X (.Starred (.Call (.Attribute e "values" apos) [] [] cpos) p :: es) (tStarV te t) := by
  refine ⟨fun pos pins s σ H Q I h => ?_⟩
  refine PySem.W.items_star (wpAny_Call_method (T := "dict") (id := "dict.values") hbase rfl hline F.plainAttrs_dict F.slot_dict_values F.type_dict_values (thn (he.run pins s σ H _ I h) fun u s1 ⟨x, H1, I1, rx, d, kvs, ex, hd, q⟩ => ?_)) rfl
  subst ex
  obtain rfl : u = Value.ref d := rx
  obtain ⟨hz, n1, vs, r, dd⟩ := dk_rd I1.hok hd
  refine ⟨dd.typeIs, dd.mapOf.noDict, ?_⟩
  have I2 : Inv X pins σ H1 { s1 with heap := s1.heap.push { cls := .type "dict_values", data := .fields #[.ref d] } } := I1.kept (t' := s1.toks) fun b ob q => Heap.get?_push_of_some _ q
  have fin : PySem.W.StarOf (model X.prog X.w) X.A X.xe (.ref s1.heap.objs.size) (fun here s₂ => wpAny (model X.prog X.w) X.A (spliced (backTo pos (starEach es X.env))) (fun vs s₃ => AP X pins σ Q (here ++ vs) s₃) X.xe s₂) { s1 with heap := s1.heap.push { cls := .type "dict_values", data := .fields #[.ref d] } } := by
    refine star_vals hc I2 hd ⟨_, Heap.get?_push_size _ rfl, rfl, rfl⟩ fun us s2 I3 rv => ?_
    exact thn (hr.run pos pins s2 σ H1 _ I3 q) fun ws s3 ⟨ys, H3, I4, r3, q3⟩ => ⟨kvs.map Prod.snd ++ ys, H3, I4, rv.append r3, q3⟩
  show wpAny _ _ (callWith cpos (.builtin "dict.values") [.ref d] [] []) _ X.xe s1
  exact method_meetsIn F.slot_dict_values F.entry_dict_values rfl (PySem.evalArgs_none ⟨rfl, dd.typeIs, F.args_dict_values_1 _, _, meets_dict_values (mixKind X.prog X.w) d n1, ⟨vs, dd⟩, fin⟩)
end
end Mi

set_option Elab.async false
set_option linter.all false
set_option maxRecDepth 100000
/-! Ma26: enumerate over a tuple. -/
namespace Mi
open PySem Sem Builtin
open AutoSeq1 (wpAny_loadPart')
set_option maxHeartbeats 1000000 in
theorem meets_enumerate_newT (l : Addr) (items : Array Value) (n : Nat) (dct : Option Addr) (sl : Array (Option Value)) :
    Meets (Builtin.«enumerate.__new__» ⟨[.type "enumerate", .ref l], []⟩) (fun _ R s => s.heap.get? l = some { cls := .type "tuple", dict := dct, data := .seq items n, slots := sl } ∧
      R (.ok (.ret (.ref (s.heap.push { cls := .type "tuple_iterator", data := .fields #[.ref l, .int 0 0] }).objs.size)))
        { s with heap := (s.heap.push { cls := .type "tuple_iterator", data := .fields #[.ref l, .int 0 0] }).push { cls := .type "enumerate", data := .fields #[.none, .bool false, .ref s.heap.objs.size, rawInt 0, .none, .none] } }) :=
  .of_wp fun prog w A R s h => by
    obtain ⟨hp, g, d, tk, os⟩ := s; obtain ⟨hl, h⟩ := h
    have hsub := sub_enumerate
    have hL : Heap.IsTuple (Shared.heap ⟨hp, g, d, tk, os⟩) l items := ⟨_, hl, rfl, n, rfl⟩
    wp_walk using wpAny_loadPart' hl
    refine wpAny_stack_any fun st => wpAny_pure ?_
    split
    · rename_i c _ _ _ _ _
      cases (c == Value.type "enumerate")
      · wp_walk using wpAny_loadPart' hl, wpAny_pyIter_tuple hL
        exact ⟨_, rfl, h⟩
      · wp_walk using wpAny_loadPart' hl, wpAny_pyIter_tuple hL
        exact ⟨_, rfl, h⟩
    · wp_walk using wpAny_loadPart' hl, wpAny_pyIter_tuple hL
      exact ⟨_, rfl, h⟩
section
variable {prog : Program} {w : World} {A : Around} {E : Value → Shared → Prop} {s : Shared}
theorem call_enumerate_tuple {l : Addr} {items : Array Value} {Q : Value → Shared → Prop} (hL : s.heap.IsTuple l items)
    (h : ∀ h', IsEnum h' (s.heap.objs.size + 1) s.heap.objs.size 0 .none → h'.IsTupleIter s.heap.objs.size l 0 → h'.objs.size = s.heap.objs.size + 2 →
      (∀ b o, s.heap.get? b = some o → h'.get? b = some o) → Q (.ref (s.heap.objs.size + 1)) { s with heap := h' }) :
    wpAny (model prog w) A (call (.type "enumerate") [.ref l]) Q E s := by
  obtain ⟨⟨c, dct, dt, sl⟩, hl, hc, n, hd⟩ := hL
  replace hc : c = .type "tuple" := hc
  replace hd : dt = .seq items n := hd
  subst hc hd
  refine callType_new F.called_enumerate (by decide) (F.typeCall_enumerate_1 _) (F.newCall_enumerate_1 _) (fun obj => F.args_object_init_2 obj _) F.entry_enumerate_new
    (meets_enumerate_newT l items n dct sl) ⟨hl, ?_⟩
  have hz : (s.heap.push { cls := .type "tuple_iterator", data := .fields #[.ref l, .int 0 0] }).objs.size = s.heap.objs.size + 1 := Heap.size_push ..
  show _ ∧ _
  rw [hz]
  have he : IsEnum ((s.heap.push { cls := .type "tuple_iterator", data := .fields #[.ref l, .int 0 0] }).push
      { cls := .type "enumerate", data := .fields #[.none, .bool false, .ref s.heap.objs.size, rawInt 0, .none, .none] }) (s.heap.objs.size + 1) s.heap.objs.size 0 .none := by
    have := Heap.get?_push_size (s.heap.push { cls := .type "tuple_iterator", data := .fields #[.ref l, .int 0 0] })
      (o := { cls := .type "enumerate", data := .fields #[.none, .bool false, .ref s.heap.objs.size, rawInt 0, .none, .none] }) rfl
    rw [hz] at this; exact this
  refine ⟨⟨_, he, rfl⟩, h _ he ⟨_, Heap.get?_push_of_some _ (Heap.get?_push_size _ rfl), rfl, rfl⟩ (by rw [Heap.size_push, hz]) fun b o x => Heap.get?_push_of_some _ (Heap.get?_push_of_some _ x)⟩
end
end Mi
noncomputable section
namespace Mi
open PySem PySem.Spec PyProof.Rows L2
/-- a tuple's items, each in a new pair behind its place -/
def Itet (K : PySem.W.Frag) (a : Addr) : It :=
  ⟨fun i H => ∃ (xs : List V) (x : V), SqT K H a xs ∧ xs[i]? = some x, fun i H v H' => ∃ T x, v = .ref T ∧ H T = none ∧ H' = upd H T (.tup [.int (i : Nat), x]) ∧ ∀ xs, SqT K H a xs → xs[i]? = some x, fun i H => ∃ xs : List V, SqT K H a xs ∧ xs.length = i⟩
theorem turn_enumT {P : Program} {w : World} {K : PySem.W.Frag} {elts : List Expr} {kk : Nat} {tpos : Pos} (a e it : Addr) :
    Turn P w K (.Tuple elts kk tpos) (Itet K a) [e, it] e (fun i h => (∃ old, IsEnum h e it ((i : Nat) : Int) old) ∧ h.IsTupleIter it a i ∧ e ≠ it) where
  mem := by simp
  obj := fun i h st b hb => by
    obtain ⟨⟨old, he⟩, ⟨o, ho, hc, hd⟩, _⟩ := st
    have e' : b = e ∨ b = it := by simpa using hb
    rcases e' with z | z
    · rw [z]; exact ⟨_, he, fun v q => nomatch q⟩
    · rw [z]; exact ⟨o, ho, fun v q => by rw [hd] at q; cases q⟩
  keep := fun i h h' st k => let ⟨⟨old, he⟩, hi, hne⟩ := st; ⟨⟨old, k e (by simp) _ he⟩, hi.at fun o q => k it (by simp) o q, hne⟩
  item := by
    intro X hP hw hK hc i pins s σ H E I hf st hg
    subst hP hw hK
    obtain ⟨⟨old, he⟩, hit, hne⟩ := st
    obtain ⟨xs, x, hq, hx⟩ := hg
    obtain ⟨its, rv, p, hz⟩ := I.tuple hq
    obtain ⟨u, hu, ru⟩ := rv.get hx
    have pt : s.heap.IsTuple a its.toArray := p
    have hel : e < s.heap.objs.size := Heap.lt_size he
    have hil : it < s.heap.objs.size := by obtain ⟨_, q, _⟩ := hit; exact Heap.lt_size q
    have ha1 : a ≠ it := fun z => by
      obtain ⟨o1, q1, c1, _⟩ := pt
      obtain ⟨o2, q2, c2, _⟩ := hit
      rw [z, q2] at q1
      cases q1
      rw [c2] at c1
      exact absurd c1 (by decide)
    have ha2 : e ≠ a := fun z => by
      obtain ⟨o1, q1, c1, _⟩ := pt
      rw [← z, show s.heap.get? e = _ from he] at q1
      cases q1
      exact absurd (show Value.type "enumerate" = Value.type "tuple" from c1) (by decide)
    have D : Draws X.prog X.w X.A.in1 it [it, a] its.toArray.size (fun i v => its.toArray[i]? = some v) (fun i h => h.IsTupleIter it a i ∧ h.IsTuple a its.toArray) := Draws.tuple (by simpa using I.ok.hd hc) it a ha1 its.toArray
    have hi : i < its.toArray.size := by
      have := (List.getElem?_eq_some_iff.mp hu).1
      simpa using this
    refine wpAny_pyNext_enum_itemD D he ⟨hit, pt⟩ hi hne (by simp [hne, ha2]) fun v h' tk hv ho hit' hT hsz hk => ?_
    have hvu : v = u := by
      have z : its[i]? = some v := by simpa using hv
      rw [hu] at z
      cases z
      rfl
    subst hvu
    refine ⟨_, rfl, wpAny_letOwnedTupleGo_enum (s := { s with heap := h', toks := tk + 1 }) ho fun h2 he2 sb => ?_⟩
    have hT2 : h2.get? s.heap.objs.size = some { cls := .type "tuple", data := .seq #[.int i tk, v] } := (sb.2 _ (Nat.ne_of_gt hel)).trans hT
    have new : ObjOk X.prog X.w (upd H s.heap.objs.size (.tup [.int (i : Nat), x])) h2 s.heap.objs.size (.tup [.int (i : Nat), x]) :=
      ⟨by show 2 ≤ sizeLine; decide, [.int i tk, v], .cons ⟨_, rfl⟩ (.cons ru .nil), ⟨_, hT2, rfl, _, rfl⟩⟩
    have J : Inv X pins σ (upd H s.heap.objs.size (.tup [.int (i : Nat), x])) { s with heap := h2, toks := tk + 1 } :=
      I.turnedNew (ch := [e, it]) (fun b ob hb q => (sb.2 b (fun z => hb (by simp [z]))).trans (hk b ob (fun z => hb (by simp [z])) (fun z => hb (by simp [z])) q)) hf (Nat.le_refl _) new
    refine ⟨.ref s.heap.objs.size, _, J, rfl, ⟨_, x, rfl, I.hok.fresh (Nat.le_refl _), rfl, fun ys hy => by rw [I.tuple_inj hy hq]; exact hx⟩, ⟨⟨v, ?_⟩, hit'.1.at fun o q => (sb.2 it (Ne.symm hne)).trans q, hne⟩, fun b hb => ?_⟩
    · have e1 : ((i + 1 : Nat) : Int) = (i : Int) + 1 := by omega
      rw [e1]; exact he2
    · have hb' : b < s.heap.objs.size := by
        have e' : b = e ∨ b = it := by simpa using hb
        rcases e' with z | z
        · rw [z]; exact hel
        · rw [z]; exact hil
      rw [upd_ne (Nat.ne_of_lt hb')]
      exact (hf b hb).1
  done := by
    intro X hP hw hK hc i pins s σ H E I hf st hg
    subst hP hw hK
    obtain ⟨⟨old, he⟩, hit, hne⟩ := st
    obtain ⟨xs, hq, hx⟩ := hg
    obtain ⟨its, rv, p, hz⟩ := I.tuple hq
    have pt : s.heap.IsTuple a its.toArray := p
    have ha1 : a ≠ it := fun z => by
      obtain ⟨o1, q1, c1, _⟩ := pt
      obtain ⟨o2, q2, c2, _⟩ := hit
      rw [z, q2] at q1
      cases q1
      rw [c2] at c1
      exact absurd c1 (by decide)
    obtain ⟨f0, f1, f2, f3, f4, f5⟩ := hf it (by simp)
    have D : Draws X.prog X.w X.A.in1 it [it, a] its.toArray.size (fun i v => its.toArray[i]? = some v) (fun i h => h.IsTupleIter it a i ∧ h.IsTuple a its.toArray) := Draws.tuple (by simpa using I.ok.hd hc) it a ha1 its.toArray
    have hl := rv.length
    have ei : i = its.toArray.size := by simp; omega
    subst ei
    exact wpAny_pyNext_enum_endD D he ⟨hit, pt⟩ fun h' eb => ⟨rfl, I.turned (t' := s.toks) (fun b o hb q => eb b o hb q) f0 f1 f3 f4 f5⟩
  self := fun A i s Q E st h => let ⟨⟨_, he⟩, _⟩ := st; wpAny_pyIter_enum he h
def iEnumT (K : PySem.W.Frag) (ta : TA) : TI := fun σ H R => ta σ H fun vs H1 => ∃ a xs, vs = [.ref a] ∧ SqT K H1 a xs ∧ R (Itet K a) H1
theorem pi_enumT {X : Cx} {e : Expr} {ta : TA} {p pos tpos : Pos} {elts : List Expr} {kk : Nat} (hg : Gl X "enumerate") (hm : X.mg "enumerate" = none) (ha : PA X [e] ta) (hs : starEach [e] X.env = [(false, eval e X.env)]) :
    PI X (.Tuple elts kk tpos) (.Call (.Name "enumerate" p) [e] [] pos) (iEnumT X.K ta) := by
  refine ⟨fun pins s σ H R I h => ?_⟩
  refine Call_ (ld_blt I hg hm boot_enumerate (PyProof.Rows.callWith_type1 (thn (ha.run pos pins s σ H _ I h) fun us s1 ⟨vs, H1, I1, r1, q1⟩ => ?_) hs rfl))
  obtain ⟨a, xs, ex, hq, q⟩ := q1
  subst ex
  cases r1 with
  | cons r rr =>
    cases rr
    cases r
    obtain ⟨its, rv, p', hz⟩ := I1.tuple hq
    refine call_enumerate_tuple (show s1.heap.IsTuple a its.toArray from p') fun h' he hit hsz hk => wpAny_pyIter_enum he ?_
    have I2 : Inv X pins σ H1 { s1 with heap := h' } := I1.kept (t' := s1.toks) hk
    refine ⟨s1.heap.objs.size + 1, [s1.heap.objs.size + 1, s1.heap.objs.size], _, _, H1, rfl, I2, turn_enumT a (s1.heap.objs.size + 1) s1.heap.objs.size, ⟨⟨.none, he⟩, hit, Nat.succ_ne_self _⟩, fun b hb => ?_, q⟩
    have e' : b = s1.heap.objs.size + 1 ∨ b = s1.heap.objs.size := by simpa using hb
    have hle : s1.heap.objs.size ≤ b := by
      rcases e' with z | z
      · rw [z]; exact Nat.le_add_right _ _
      · rw [z]; exact Nat.le_refl _
    exact I1.fpOk hle (I1.hok.fresh hle)
end Mi

set_option Elab.async false
set_option linter.all false
set_option maxRecDepth 100000
/-! Ma27: {**d, k: v}. -/
namespace Mi
open PySem PySem.Spec
section
variable {prog : Program} {w : World} {A : Around} {E : Value → Shared → Prop} {s : Shared} {K : Type} [DecidableEq K] {knd : KeyKind prog w K}
theorem wpAny_dictPut {d : Addr} {kvs : List (K × Value)} {k : K} {key v : Value} {Q : Unit → Shared → Prop} (hkey : knd.is k key = true) (hm : s.heap.DictOf knd d kvs)
    (hQ : ∀ h', h'.DictOf knd d (stored kvs k v) → Heap.SameBut d s.heap h' → Q () { s with heap := h' })
    (hsz : kvs.length ≤ sizeLine) :
    wpAny (model prog w) A (dictPut d (knd.hash k) key v) Q E s := by
  obtain ⟨o, es, ep, ho, hc, hd, hk, hp, hn⟩ := hm
  have hes : es.size ≤ sizeLine := by have e1 := hp.length; have e2 : es.toList.length = es.size := by simp
                                      omega
  unfold dictPut
  refine wpAny_bind (wpAny_dictFind_of hkey ho hd hk ?_)
  have hidx : (es.findIdx? fun e => knd.is k e.key) = kvs.findIdx? fun kv => decide (kv.1 = k) := by
    rw [← hp.findIdx k]; obtain ⟨l⟩ := es; simp
  cases hi : es.findIdx? fun e => knd.is k e.key with
  | some i =>
    refine wpAny_updateDict ho hd (hQ _ ⟨_, _, ep, Heap.get?_update_self _ ho (Obj.isFreed_of_dict (Obj.data_mapDict hd _)),
      hc.mapDict _, Obj.data_mapDict hd _, hk.modify _ _, ?_, ?_⟩ (Heap.SameBut.update ..))
    · rw [stored, if_pos (any_of_findIdx_some (hidx ▸ hi))]
      have hl : (es.toList.findIdx? fun e => knd.is k e.key) = some i := by rw [← hi]; obtain ⟨l⟩ := es; simp
      have := hp.modify hn hl v
      obtain ⟨l⟩ := es
      simpa using this
    · rw [stored, if_pos (any_of_findIdx_some (hidx ▸ hi)), keys_map_store]; exact hn
  | none =>
    have hnot : k ∉ kvs.map (·.1) := not_mem_of_findIdx_none (hidx ▸ hi)
    have hany : ¬ (kvs.any fun kv => decide (kv.1 = k)) = true := by
      rw [List.any_eq_true]; rintro ⟨kv, hkv, he⟩
      exact hnot (List.mem_map.mpr ⟨kv, hkv, of_decide_eq_true he⟩)
    refine wpAny_updateDictKeys (hz := hes) ho hd (hQ _ ⟨_, _, ep + 1, Heap.get?_update_self _ ho (Obj.isFreed_of_dict (Obj.data_mapDictKeys hd _)),
      hc.mapDictKeys _, Obj.data_mapDictKeys hd _, hk.push hkey _, ?_, ?_⟩ (Heap.SameBut.update ..))
    · rw [stored, if_neg hany]
      have := hp.append hkey (knd.hash k) v
      obtain ⟨l⟩ := es
      simpa using this
    · rw [stored, if_neg hany, List.map_append, List.nodup_append]
      refine ⟨hn, by simp, ?_⟩
      intro a ha b hb
      simp only [List.map_cons, List.map_nil, List.mem_singleton] at hb
      subst hb
      exact fun e => hnot (e ▸ ha)
/-- keys that are no objects -/
def NoRef (knd : KeyKind prog w K) : Prop := ∀ k a, knd.is k (.ref a) = false
theorem wpAny_mergeMapping {d o : Addr} {kvs more : List (K × Value)} {Q : Unit → Shared → Prop} (nr : NoRef knd) (hdo : d ≠ o) (hoS : (o == sysModules) = false)
    (hd : s.heap.DictOf knd d kvs) (ho : s.heap.DictOf knd o more)
    (hQ : ∀ h', h'.DictOf knd d (merged kvs more) → h'.DictOf knd o more → Heap.SameBut d s.heap h' → Q () { s with heap := h' })
    (hsz : kvs.length + more.length ≤ sizeLine) :
    wpAny (model prog w) A (mergeMapping d (.ref o) false) Q E s := by
  obtain ⟨od, esd, epd, hod, hcd, hdd, hkd, hpd, hnd⟩ := id hd
  obtain ⟨oo, eso, epo, hoo, hco, hdo', hko, hpo, hno⟩ := id ho
  have hlen : more.length = eso.size := by rw [← hpo.length]; simp
  have hT : s.TypeIs (.ref o) "dict" := ho.typeIs
  have loop : wpAny (model prog w) A (do
      let l ← dictEntries o
      let epoch ← dictEpoch o
      forIn (List.range l.size) PUnit.unit fun i (_ : PUnit) => (do
          let l' ← dictEntries o
          match l'[i]? with
          | some e => do
            holding [e.key, e.val] (dictPut d e.hash e.key e.val)
            let ep' ← dictEpoch o
            if (ep' != epoch) = true then do
              (unsupported "dict.changed-during-merge" : Sem PUnit)
              pure (ForInStep.yield PUnit.unit)
            else pure (ForInStep.yield PUnit.unit)
          | _ => do
            (unsupported "dict.changed-during-merge" : Sem PUnit)
            pure (ForInStep.yield PUnit.unit) : Sem (ForInStep PUnit))
      pure ()) Q E s := by
    refine wpAny_bind (wpAny_dictEntries hoo hdo' ?_)
    refine wpAny_bind (wpAny_dictEpoch hoo hdo' ?_)
    refine wpAny_bind ?_
    rw [List.range_eq_range']
    refine wpAny_forIn_list _
      (fun rest _ s' => ∃ h' i, s' = { s with heap := h' } ∧ rest = List.range' i (eso.size - i) ∧ i ≤ eso.size ∧ h'.DictOf knd d (merged kvs (more.take i)) ∧ h'.get? o = some oo ∧ Heap.SameBut d s.heap h')
      _ ?_ ?_ _ _ ⟨s.heap, 0, rfl, by simp, Nat.zero_le _, by simpa [merged] using hd, hoo, Heap.SameBut.refl _ _⟩
    · rintro x rest b s' ⟨h', i, rfl, hr, hi, hd', hoo', hs'⟩
      have hlt : i < eso.size := by
        rcases Nat.lt_or_ge i eso.size with h | h
        · exact h
        · rw [Nat.sub_eq_zero_of_le h] at hr; simp at hr
      obtain ⟨rfl, hrest⟩ : x = i ∧ rest = List.range' (i + 1) (eso.size - (i + 1)) := by
        have e : eso.size - i = (eso.size - (i + 1)) + 1 := by omega
        rw [e, List.range'_succ] at hr
        injection hr with h1 h2
        exact ⟨h1, h2⟩
      refine wpAny_bind (wpAny_dictEntries hoo' hdo' ?_)
      rw [Array.getElem?_eq_getElem hlt]
      obtain ⟨kv, hkv⟩ : ∃ kv, more[x]? = some kv := ⟨more[x]'(by rw [hlen]; exact hlt), List.getElem?_eq_getElem _⟩
      obtain ⟨k, v⟩ := kv
      obtain ⟨hkey, hval⟩ := hpo.get? (e := eso[x]) (by simp [hlt]) hkv
      obtain ⟨k', hkey', hhash⟩ := hko eso[x] (Array.getElem_mem hlt)
      obtain rfl : k' = k := knd.inj _ _ _ hkey' hkey
      show wpAny _ _ (holding [eso[x].key, eso[x].val] (dictPut d eso[x].hash eso[x].key eso[x].val) >>= _) _ _ _
      rw [hhash, hval]
      have hmx : (merged kvs (more.take x)).length ≤ sizeLine := by
        have e1 := merged_length_le kvs (more.take x)
        have e2 : (more.take x).length ≤ more.length := by rw [List.length_take]; omega
        omega
      refine wpAny_bind (wpAny_holding (wpAny_dictPut (hsz := hmx) hkey hd' fun h'' hd'' hs'' => ?_))
      have hoo'' : h''.get? o = some oo := (hs''.2 o (Ne.symm hdo)).trans hoo'
      refine wpAny_bind (wpAny_dictEpoch hoo'' hdo' ?_)
      rw [if_neg (by simp)]
      exact wpAny_pure ⟨h'', x + 1, rfl, hrest, hlt, by rw [merged_take_succ kvs more x (k', v) hkv]; exact hd'', hoo'', hs'.trans hs''⟩
    · rintro b s' ⟨h', i, rfl, hr, hi, hd', hoo', hs'⟩
      have hin : i = eso.size := by
        rcases Nat.lt_or_ge i eso.size with h | h
        · have e : eso.size - i = (eso.size - (i + 1)) + 1 := by omega
          rw [e, List.range'_succ] at hr; exact nomatch hr
        · exact Nat.le_antisymm hi h
      refine wpAny_pure (hQ h' ?_ ⟨oo, eso, epo, hoo', hco, hdo', hko, hpo, hno⟩ hs')
      rw [hin, ← hlen, List.take_length] at hd'; exact hd'
  unfold mergeMapping
  refine wpAny_bind (wpAny_isInstance hT isSubtype_dict_dict ?_)
  simp only [if_true]
  refine wpAny_bind (wpAny_specialOf hT F.slot_dict_iter.lookup ?_)
  refine wpAny_bind (wpAny_pure ?_)
  simp only [beq_self_eq_true]
  rw [if_neg (by rw [hoS]; exact Bool.false_ne_true)]
  refine wpAny_bind (wpAny_dictEntries hod hdd ?_)
  by_cases he : esd.isEmpty = true
  · rw [if_pos he]
    refine wpAny_bind (wpAny_dictEntries hoo hdo' ?_)
    refine wpAny_bind ?_
    rw [← Array.forIn_toList]
    refine wpAny_forIn_list _ (fun rest _ s' => s' = s ∧ ∃ pre, eso.toList = pre ++ rest) _ ?_ ?_ _ _ ⟨rfl, [], rfl⟩
    · rintro e rest b s' ⟨rfl, pre, hp⟩
      have hm : e ∈ eso := by
        have : e ∈ eso.toList := by rw [hp]; simp
        simpa using this
      obtain ⟨k', hkey', _⟩ := hko e hm
      have next : wpAny (model prog w) A (pure (ForInStep.yield PUnit.unit) : Sem (ForInStep PUnit)) (fun r s'' => match r with
        | .done b => False
        | .yield b => s'' = s' ∧ ∃ pre, eso.toList = pre ++ rest) E s' := wpAny_pure ⟨rfl, pre ++ [e], by rw [hp]; simp⟩
      cases q : e.key with
      | ref a =>
        rw [q, nr] at hkey'
        exact absurd hkey' Bool.false_ne_true
      | _ => exact wpAny_pure ⟨rfl, pre ++ [e], by rw [hp]; simp⟩
    · rintro b s' ⟨rfl, _⟩
      exact loop
  · rw [if_neg he]
    exact loop
end
end Mi
noncomputable section
namespace Mi
open PySem PySem.Spec PyProof.Rows L2
section
variable {prog : Program} {w : World} {A : Around} {E : Value → Shared → Prop} {s : Shared} {K : Type} [DecidableEq K] {knd : KeyKind prog w K}
theorem wpAny_star {m k v : Sem Value} {Q : Value → Shared → Prop} (nr : NoRef knd)
    (h : wpAny (model prog w) A m (fun mv s1 => ∃ (o : Addr) (more : List (K × Value)), mv = .ref o ∧ s.heap.objs.size ≠ o ∧ (o == sysModules) = false ∧ s1.heap.DictOf knd s.heap.objs.size [] ∧ s1.heap.DictOf knd o more ∧ more.length ≤ sizeLine ∧
      ∀ h1 : Heap, h1.DictOf knd s.heap.objs.size (merged [] more) → Heap.SameBut s.heap.objs.size s1.heap h1 →
        wpAny (model prog w) A (evalPairs [(k, v)]) (fun vs s2 => ∃ kvs cur : List (K × Value), Carries knd vs kvs ∧ s2.heap.DictOf knd h1.objs.size [] ∧ s2.heap.DictOf knd s.heap.objs.size cur ∧ cur.length + (merged [] kvs).length ≤ sizeLine ∧ (h1.objs.size == sysModules) = false ∧ s.heap.objs.size ≠ h1.objs.size ∧
          ∀ h2 : Heap, h2.DictOf knd h1.objs.size (merged [] kvs) → Heap.SameBut h1.objs.size s2.heap h2 → ∀ h3 : Heap, h3.DictOf knd s.heap.objs.size (merged cur (merged [] kvs)) → Heap.SameBut s.heap.objs.size h2 h3 → Q (.ref s.heap.objs.size) { s2 with heap := h3, toks := s2.toks + vs.length }) E
          { s1 with heap := h1.push { cls := .type "dict", data := .dict #[] } }) E { s with heap := s.heap.push { cls := .type "dict", data := .dict #[] } }) :
    wpAny (model prog w) A (dictDisplay [(none, m), (some k, v)]) Q E s := by
  unfold dictDisplay
  simp only [List.forIn_cons, List.forIn_nil]
  simp
  refine wpAny_bind (wpAny_alloc ?_)
  refine wpAny_bind (wpAny_holding (wpAny_mono h (fun mv s1 z => ?_) fun _ _ e => e))
  obtain ⟨o, more, rfl, hne, hoS, hd, ho, hsz, z⟩ := z
  refine wpAny_bind (wpAny_onRaise (wpAny_tryCatch (wpAny_onRaise (wpAny_holding (wpAny_mergeMapping nr hne hoS hd ho (fun h1 hd1 ho1 hs1 => ?_) (by simpa using hsz))))))
  refine wpAny_bind (wpAny_holding (wpAny_subDict (knd := knd) (by simp) (wpAny_mono (z h1 hd1 hs1) (fun vs s2 y => ?_) fun _ _ e => e)))
  obtain ⟨kvs, cur, c, hq, hp, hz2, hqS, hpq, y⟩ := y
  refine ⟨kvs, c, hq, fun h2 hq2 hs2 => ?_⟩
  have hp2 : h2.DictOf knd s.heap.objs.size cur := hp.extBut hs2.extBut hpq
  refine wpAny_map (wpAny_onRaise (wpAny_holding (wpAny_mergeMapping nr hpq hqS hp2 hq2 (fun h3 hd3 _ hs3 => ?_) hz2)))
  exact y h2 hq2 hs2 h3 hd3 hs3
end
theorem mix_noref {P : Program} {w : World} : NoRef (mixKind P w) := fun k a => by cases k <;> rfl
/-- {**d, k: v}: the new dict, the dict's pairs in it; then a dict of the pair, and its pair in the first -/
def tDispS (te : TE) (trs : List (TE × TE)) : TE := fun σ H Q => ∀ p, H p = none → te σ (upd H p (.dK [])) fun y H1 => H1 p = some (.dK []) ∧ ∃ (a : Addr) (kvs : List (Key × V)), y = .ref a ∧ a ≠ p ∧ Rd H1 a (.dK kvs) ∧
  ∀ q, (upd H1 p (.dK (mergeK [] kvs))) q = none → tPairs trs σ (upd (upd H1 p (.dK (mergeK [] kvs))) q (.dK [])) fun ps H3 => H3 p = some (.dK (mergeK [] kvs)) ∧ H3 q = some (.dK []) ∧ ∃ more : List (Key × V), ps = more.map (fun kv => (kV kv.1, kv.2)) ∧ more.length ≤ 15 ∧ (mergeK [] kvs).length + 15 ≤ sizeLine ∧
    Q (.ref p) (upd (upd H3 q (.dK (mergeK [] more))) p (.dK (mergeK (mergeK [] kvs) (mergeK [] more))))
theorem pe_dispS {X : Cx} {pos : Pos} {k v e : Expr} {te : TE} {trs : List (TE × TE)} (he : PE X e te) (h : PPs X pos [some k] [v] trs) : PE X (.Dict [none, some k] [e, v] pos) (tDispS te trs) := by
  refine ⟨fun pins s σ H Q I q => ?_⟩
  have hn := I.hok.fresh (Nat.le_refl s.heap.objs.size)
  have I1 := I.laid (a := s.heap.objs.size) (o := .dK []) (h' := s.heap.push { cls := .type "dict", data := .dict #[] }) (t' := s.toks) (fun _ _ q => Heap.get?_push_of_some _ q) (Nat.le_refl _) (dk_empty s.heap I.big)
  rw [arm_eval_Dict]
  refine wpAny_bind (wpAny_standAt ?_)
  show wpAny _ _ (dictDisplay [(none, do let x ← eval e X.env; standAt pos; pure x), (some (eval k X.env), do let x ← eval v X.env; standAt pos; pure x)]) _ _ _
  refine wpAny_star mix_noref (wpAny_bind (thn (he.run pins _ σ _ _ I1 (q _ hn)) fun u s1 z => wpAny_bind (wpAny_standAt (wpAny_pure ?_))))
  obtain ⟨y, H1, I2, ry, ep, a, kvs, rfl, hap, hr, q2⟩ := z
  cases (show u = Value.ref a from ry)
  obtain ⟨z0, hd0, vs0, r0, dd0⟩ := dk_of I2.hok ep
  cases r0
  obtain ⟨z1, hS, vs, rk, da⟩ := dk_rd I2.hok hr
  refine ⟨a, vs, rfl, Ne.symm hap, hS, dd0, da, by rw [← rk.length]; exact z1, fun h1 hp1 hs1 => ?_⟩
  have zK : (mergeK [] kvs).length ≤ sizeLine := by
    have := length_mergeK kvs []
    rw [List.length_nil] at this
    omega
  have he1 : ∃ o, h1.get? s.heap.objs.size = some o := let ⟨o, _, _, ho, _⟩ := hp1; ⟨o, ho⟩
  have I3 : Inv X pins σ (upd H1 s.heap.objs.size (.dK (mergeK [] kvs))) { s1 with heap := h1 } := d_write (t' := s1.toks) I2 (by rw [ep]; exact True.intro) hs1 he1 (dk_new zK hd0 (rk.merge .nil) hp1)
  have hn2 := I3.hok.fresh (Nat.le_refl h1.objs.size)
  have I4 := I3.laid (a := h1.objs.size) (o := .dK []) (h' := h1.push { cls := .type "dict", data := .dict #[] }) (t' := s1.toks) (fun _ _ q => Heap.get?_push_of_some _ q) (Nat.le_refl _) (dk_empty h1 I3.big)
  refine wpAny_mono (h.run pins _ σ _ _ I4 (q2 _ hn2)) (fun ws s2 z => ?_) fun _ _ e => e
  obtain ⟨ps, H3, I5, rel, e1, e2, more, rfl, lm, lz, q3⟩ := z
  obtain ⟨rs, c, rk2⟩ := carries_of (P := X.prog) (w := X.w) rel
  obtain ⟨_, hdq, vq, rq, ddq⟩ := dk_of I5.hok e2
  cases rq
  obtain ⟨_, hdp, vp, rp, ddp⟩ := dk_of I5.hok e1
  have lp := rp.length
  have lr := (rk2.merge .nil).length
  have lmk := length_mergeK more []
  rw [List.length_nil] at lmk
  have hpq : s.heap.objs.size ≠ h1.objs.size := fun z => by
    rw [← z, upd_same] at hn2
    cases hn2
  refine ⟨rs, vp, c, ddq, ddp, by omega, hdq, hpq, fun h2 hq2 hs2 h3 hp3 hs3 => ?_⟩
  have he2 : ∃ o, h2.get? h1.objs.size = some o := let ⟨o, _, _, ho, _⟩ := hq2; ⟨o, ho⟩
  have he3 : ∃ o, h3.get? s.heap.objs.size = some o := let ⟨o, _, _, ho, _⟩ := hp3; ⟨o, ho⟩
  have I6 : Inv X pins σ (upd H3 h1.objs.size (.dK (mergeK [] more))) { s2 with heap := h2, toks := s2.toks + ws.length } := d_write I5 (by rw [e2]; exact True.intro) hs2 he2 (dk_new (by rw [sizeLine_eq]; omega) hdq (rk2.merge .nil) hq2)
  have l3 := length_mergeK (mergeK [] more) (mergeK [] kvs)
  refine ⟨.ref s.heap.objs.size, _, d_write (s := { s2 with heap := h2, toks := s2.toks + ws.length }) I6 (by rw [upd_ne hpq, e1]; exact True.intro) hs3 he3 (dk_new (by omega) hdp (KV.merge (rk2.merge .nil) rp) hp3), rfl, q3⟩
section
variable {X : Cx}
/-- name = {k: v for ..} on one line, the name a local -/
theorem ps_setDc {i : Nat} {y : Str} {py : Pos} {kx vx tg iter : Expr} {ifs : List Expr} {scope : Scope} {own : List (Str × Nat)} {pos spos : Pos} {wi : TI} {g : TG} {tt : TT} {tk tv : TE} (hc : X.calm = true) (hN : X.N.Nodup) (hy : X.N[i]? = some y) (hyl : X.env.scope.names.lookup y = some .local)
    (hsw : swapsWith (.DictComp kx vx [⟨tg, iter, ifs, 0⟩] scope pos) (some (.Name y py)) spos.line X.env = pure true) (hi : PI X tg iter wi) (ok : BlkOk X.N X.env.scope scope own)
    (hg : ∀ (s : Shared) (H : Hp) (C : Addr) (cl : List (Str × Addr)) (fp : List Addr), PG (X.blk s H scope (compEnvC scope cl C X.env) fp) tg g) (ht : ∀ (s : Shared) (H : Hp) (C : Addr) (cl : List (Str × Addr)) (fp : List Addr), PTs (X.blk s H scope (compEnvC scope cl C X.env) fp) ifs tt)
    (hk : ∀ (s : Shared) (H : Hp) (C : Addr) (cl : List (Str × Addr)) (fp : List Addr), PE (X.blk s H scope (compEnvC scope cl C X.env) fp) kx tk)
    (he : ∀ (s : Shared) (H : Hp) (C : Addr) (cl : List (Str × Addr)) (fp : List Addr), PE (X.blk s H scope (compEnvC scope cl C X.env) fp) vx tv) (hs : ∀ x, foldedSetIterable iter X.env x = pure x) :
    PS X (.Assign [.Name y py] (.DictComp kx vx [⟨tg, iter, ifs, 0⟩] scope pos) spos) (tAsg (tDc wi g tt tk tv (own.map (·.2))) (gName i)) := by
  refine ⟨fun pins s σ H D I h => ?_⟩
  rw [exec_Assign_Name_used _ _ _ _ hsw]
  refine wpAny_bind (wpAny_standAt (wpAny_bind ?_))
  show wpAny _ X.A (do let _ ← comprehension (.DictComp kx vx [⟨tg, iter, ifs, 0⟩] scope pos) scope X.env (firstIterPos [⟨tg, iter, ifs, 0⟩] pos) newDict false (eval iter X.env) (some (assign (.Name y py) X.env))) _ _ s
  have h : tDc wi g tt tk tv (own.map (·.2)) σ H (fun x H1 => gName i x σ H1 D.nx) := h
  refine wpAny_bind (thn (dc_core (Qf := fun _ s' => SP X pins D .next s') hc hN I hi ok hg ht hk he hs h fun L C s' m H' I' q hn f => ?_) fun _ s' hq => wpAny_pure (wpAny_pure hq))
  show wpAny _ _ (assign (.Name y py) X.env (.ref L)) _ _ _
  refine wpAny_assign_Name (store_ok2 (v := V.ref L) I' hN hy (.inl hyl) rfl (fun s2 I2 ⟨a, sb, ha⟩ => ?_) (.inr hyl))
  obtain ⟨f0, f1, f2, f3, f4, f5⟩ := f
  have haC : C ≠ a := by
    rcases ha with z | z
    · rw [z]; exact f1
    · exact fun e => f4 y a z e.symm
  refine ⟨m, hn.sameBut sb haC, fun h3 sb3 => ?_⟩
  exact ⟨_, H', I2.turned (t' := s2.toks) (fun b o hb e => (sb3.2 b hb).trans e) f0 f1 f3 f4 f5, q⟩
theorem sw_compD (kx vx : Expr) (gs : List Comprehension) (scope : Scope) (pos : Pos) (y : Str) (py : Pos) (l : Nat) (env : Env) : (swapsWith (.DictComp kx vx gs scope pos) (some (.Name y py)) l env = pure true ∧ env.scope.names.lookup y = some .local) ∨ swapsWith (.DictComp kx vx gs scope pos) (some (.Name y py)) l env = pure false := by
  have e : swapsWith (.DictComp kx vx gs scope pos) (some (.Name y py)) l env = pure (env.blockKind == .function && env.kindOf y == some .local && py.line == pos.line && !(scope.names.any fun (n, k) => n == y && (k == .local || k == .cell))) := rfl
  rw [e]
  cases q : (env.blockKind == .function && env.kindOf y == some .local && py.line == pos.line && !(scope.names.any fun (n, k) => n == y && (k == .local || k == .cell))) with
  | false => exact .inr rfl
  | true =>
    refine .inl ⟨rfl, ?_⟩
    rw [Bool.and_eq_true, Bool.and_eq_true, Bool.and_eq_true] at q
    have z : env.kindOf y = some .local := by
      have z := q.1.1.2
      cases w : env.kindOf y with
      | none => rw [w] at z; cases z
      | some k =>
        rw [w] at z
        cases k <;> first | rfl | cases z
    exact z
end
end Mi

set_option Elab.async false
set_option linter.all false
set_option maxRecDepth 100000
set_option maxHeartbeats 4000000
/-! Ma30: tuple(d.items()). -/
noncomputable section
namespace Mi
open PySem PySem.Spec PyProof.Rows L2
section
variable {prog : Program} {w : World} {A : Around} {E : Value → Shared → Prop} {s : Shared} {K : Type} [DecidableEq K] {knd : KeyKind prog w K} {kvs : List (K × Value)} {ep : Nat} {r d : Addr}
theorem code_tuple_new_items {Q₁ : Value → Shared → Prop} (hh : A.handled = none) (hv : s.heap.IsItemsView r d) (hm : s.heap.DictAt knd d kvs ep) (hn : kvs.length ≤ sizeLine)
    (h : ∀ (h' : Heap) (tk : Nat) (as : List Addr), (∀ b o, s.heap.get? b = some o → h'.get? b = some o) → as.length = kvs.length → PySem.W.KdxG knd kvs s.heap.objs.size h' as →
      Q₁ (.ref h'.objs.size) { s with heap := h'.push { cls := .type "tuple", data := .seq (as.map Value.ref).toArray }, toks := tk }) :
    codeAny (model prog w) A (.call (.builtin "tuple.__new__") ⟨[.type "tuple", .ref r], []⟩) (wants Q₁ E) s := by
  refine codeAny_of_tree ?_
  show wpAny _ A.in1 (do checkBuiltinCall "tuple.__new__" ⟨[.type "tuple", .ref r], []⟩; again (.builtin "tuple.__new__" ⟨[.type "tuple", .ref r], []⟩)) _ _ s
  refine wpAny_bind (wpAny_of_eq (PySem.F.newCall_tuple_1 _) (wpAny_pure ⟨plainId_quiet PySem.F.plain_tuple_new _, codeAny_builtin PySem.F.entry_tuple_new ?_⟩))
  rw [Around.under_plainId PySem.F.plain_tuple_new _]
  have hsub := PySem.sub_tuple_self
  have hinit := PySem.init_tuple_lookup
  have hmh := PySem.madeHere_tuple
  have hTI : s.TypeIs (.ref r) "dict_items" := let ⟨o, ho, hc, _⟩ := hv; ⟨o, ho, hc⟩
  have hh1 : A.in1.handled = none := hh
  wp_walk using wpAny_typeOf hTI, PySem.W.kdx_collect (A := A.in1) hh1 hv hm hn
  intro h' tk as hk hl hG
  show wpAny _ _ (Builtin.Tuple.tupleExact (as.map Value.ref).toArray >>= fun v => ret v) _ _ _
  unfold Builtin.Tuple.tupleExact
  refine wpAny_bind (wpAny_newObj_type ?_ (by show (as.map Value.ref).toArray.size ≤ sizeLine; simp; omega))
  exact wpAny_pure (h h' tk as hk hl hG)
theorem call_tuple_items {Q : Value → Shared → Prop} (hh : A.handled = none) (hv : s.heap.IsItemsView r d) (hm : s.heap.DictAt knd d kvs ep) (hn : kvs.length ≤ sizeLine)
    (hQ : ∀ (h' : Heap) (tk : Nat) (as : List Addr), (∀ b o, s.heap.get? b = some o → h'.get? b = some o) → as.length = kvs.length → PySem.W.KdxG knd kvs s.heap.objs.size h' as →
      Q (.ref h'.objs.size) { s with heap := h'.push { cls := .type "tuple", data := .seq (as.map Value.ref).toArray }, toks := tk }) :
    wpAny (model prog w) A (call (.type "tuple") [.ref r]) Q E s := by
  refine callType_codes (Q₁ := fun obj s₁ => s₁.TypeIs obj "tuple" ∧ Q obj s₁) PySem.F.called_tuple (PySem.F.typeCall_tuple_1 _) PySem.F.entry_object_init
    (code_tuple_new_items (A := A.in1) hh hv hm hn fun h' tk as hk hl hG => ⟨⟨_, Heap.get?_push_size _ rfl, rfl⟩, hQ h' tk as hk hl hG⟩) fun obj s₁ h₁ => ?_
  exact ⟨h₁.1, PySem.F.args_object_init_2 obj _, object_init_meets PySem.F.called_tuple.init.lookup PySem.F.called_tuple.made (by decide) prog w A.in1 _ s₁ ⟨h₁.1, rfl, h₁.2⟩⟩
end
section
variable {X : Cx}
open LiI
theorem items_laidT {pins : List (Addr × Obj)} {σ : L2.St} {H : Hp} {s : Shared} {h' : Heap} {tk : Nat} {kvs : List (Key × V)} {vs : List (Key × Value)} {as : List Addr} (I : Inv X pins σ H s) (kv : KV kvs vs)
    (hk : ∀ b o, s.heap.get? b = some o → h'.get? b = some o) (hl : as.length = vs.length) (hG : PySem.W.KdxG (mixKind X.prog X.w) vs s.heap.objs.size h' as) :
    (∀ t ∈ as, H t = none) ∧ as.Nodup ∧ as.length = kvs.length ∧ (∀ b o, H b = some o → putT H as kvs b = some o) ∧ Inv X pins σ (putT H as kvs) { s with heap := h', toks := tk } := by
  have lk : kvs.length = vs.length := Paired.length kv
  have nd : as.Nodup := List.Pairwise.imp (fun {a b} (h : a < b) => Nat.ne_of_lt h) hG.rise
  have new : ∀ t ∈ as, H t = none := fun t ht => I.hok.fresh (Nat.le_of_lt (hG.above t ht))
  have atP := putT_at as kvs H (by omega) nd
  have off : ∀ b, b ∉ as → putT H as kvs b = H b := fun b h1 => putT_off as kvs _ h1
  have low : ∀ b o, s.heap.get? b = some o → b ∉ as := fun b o e z => absurd (Heap.lt_size e) (Nat.not_lt.mpr (Nat.le_of_lt (hG.above b z)))
  have kp : ∀ b u, H b = some u → putT H as kvs b = some u := fun b u e => by
    rw [off b (fun z => by rw [new b z] at e; cases e)]
    exact e
  refine ⟨new, nd, by omega, kp, ?_⟩
  refine I.call' (ch := []) rfl ⟨fun b o q _ _ _ => hk b o q, fun b o q _ _ _ => ⟨o.slots, hk b o q⟩, fun b o q n _ => ?_, fun b o q _ => ⟨o, hk b o q⟩, fun b xs q => kp b _ q, fun b o u q => kp b _ q, fun b ps q => ⟨#[], by rw [kp b _ q]; simp⟩⟩ (fun b u q => ?_) I.bare fun b z => by simp at z
  · rw [off b (low b o q)]
    exact n
  · by_cases hb : b ∈ as
    · obtain ⟨j, pk, e1, e2, e3⟩ := paired_ix atP hb
      rw [e3] at q
      cases q
      obtain ⟨key, k, x, f1, f2, f3⟩ := hG.pairs j b e1
      obtain ⟨qv, g1, g2, g3⟩ := LiI.paired_get kv e2
      rw [f1] at g1
      cases g1
      have rk : RelV (kV pk.1) key := by
        rw [g2]
        exact relV_key (show keyIs k key = true from f2)
      exact ⟨by show 2 ≤ sizeLine; decide, [key, x], .cons rk (.cons g3 .nil), ⟨_, f3, rfl, _, rfl⟩⟩
    · rw [off b hb] at q
      exact (I.hok b u q).stay (fun d v _ y => hk d v y) (fun d y => kp d _ y) fun d xs y => kp d _ y
/-- tuple(e.items()) -/
def tTupItems (te : TE) : TE := fun σ H Q => te σ H fun x H1 => ∃ (d : Addr) (kvs : List (Key × V)), x = .ref d ∧ Rd H1 d (.dK kvs) ∧
  ∀ (ts : List Addr) (p : Addr), (∀ t ∈ ts, H1 t = none) → ts.Nodup → ts.length = kvs.length → putT H1 ts kvs p = none → Q (.ref p) (upd (putT H1 ts kvs) p (.tup (ts.map V.ref)))
variable {e : Expr} {te : TE} {p apos cpos pos : Pos}
theorem pe_tupItems (hc : X.calm = true) (he : PE X e te) (hg : Gl X "tuple") (hm : X.mg "tuple" = none) (hv : bootBuiltins "tuple" = some (.type "tuple")) (hbase : attributeBase e "items" X.env (eval e X.env) = eval e X.env) (hline : (apos.endLine == cpos.line) = true)
    (hs : starEach [.Call (.Attribute e "items" apos) [] [] cpos] X.env = (false, eval (.Call (.Attribute e "items" apos) [] [] cpos) X.env) :: starEach [] X.env := by rfl) :
    PE X (.Call (.Name "tuple" p) [.Call (.Attribute e "items" apos) [] [] cpos] [] pos) (tTupItems te) := by
  refine ⟨fun pins s σ H Q I hq => ?_⟩
  refine wpAny_Call_Name_kw (ld_blt I hg hm hv ?_)
  refine PyProof.Rows.callWith_type1 ?_ hs rfl
  rw [hs]
  show wpAny _ _ (spliced ((false, eval (.Call (.Attribute e "items" apos) [] [] cpos) X.env) :: backTo pos (starEach [] X.env))) _ _ s
  refine Calls.spliced_cons ?_
  refine wpAny_Call_method (T := "dict") (id := "dict.items") hbase rfl hline PySem.F.plainAttrs_dict PySem.F.slot_dict_items PySem.F.type_dict_items (thn (he.run pins s σ H _ I hq) fun u s1 ⟨x, H1, I1, rx, d, kvs, ex, hd, q⟩ => ?_)
  subst ex
  obtain rfl : u = Value.ref d := rx
  obtain ⟨hz, hs0, vs, kv, hdo⟩ := dk_rd I1.hok hd
  obtain ⟨ep, hat⟩ := hdo.dictAt
  have lk : kvs.length = vs.length := Paired.length kv
  have I2 : Inv X pins σ H1 { s1 with heap := s1.heap.push { cls := .type "dict_items", data := .fields #[.ref d] } } := I1.kept (t' := s1.toks) fun b ob q => Heap.get?_push_of_some _ q
  refine ⟨hdo.typeIs, hdo.mapOf.noDict, ?_⟩
  show wpAny _ _ (callWith cpos (.builtin "dict.items") [.ref d] [] []) _ X.xe s1
  refine method_meetsIn PySem.F.slot_dict_items PySem.F.entry_dict_items rfl (PySem.evalArgs_none ⟨rfl, hdo.typeIs, PySem.F.args_dict_items_1 _, _, meets_dict_items (mixKind X.prog X.w) d hs0, ⟨vs, hdo⟩, ?_⟩)
  refine Calls.spliced_nil ?_
  refine call_tuple_items (knd := mixKind X.prog X.w) (kvs := vs) (ep := ep) (I1.ok.hd hc) ⟨_, Heap.get?_push_size _ rfl, rfl, rfl⟩ (hat.push _) (by omega) fun h' tk as hk hl hG => ?_
  obtain ⟨k1, k2, k3, k4, J⟩ := items_laidT (tk := tk) I2 kv hk hl hG
  have hn := J.hok.fresh (Nat.le_refl h'.objs.size)
  have J2 := J.laid (a := h'.objs.size) (o := .tup (as.map V.ref)) (h' := h'.push { cls := .type "tuple", data := .seq (as.map Value.ref).toArray }) (t' := tk) (fun _ _ q => Heap.get?_push_of_some _ q) (Nat.le_refl _)
    ⟨by rw [List.length_map]; omega, as.map Value.ref, LiI.vals_refs as, ⟨_, Heap.get?_push_size _ rfl, rfl, _, rfl⟩⟩
  exact ⟨.ref _, _, J2, rfl, q as _ k1 k2 k3 hn⟩
end
end Mi

set_option Elab.async false
set_option linter.all false
set_option maxRecDepth 100000
set_option maxHeartbeats 4000000
/-! Mi1: a small evaluator's data: values, cells, results; what a value stands for on the heap. -/
noncomputable section
namespace Mi
open PySem PySem.Spec PyProof.Rows L2

/-- values: obj an object that is never changed (its class, its attributes), dct a dict that is never changed; tup, lst are never changed; frl is a list that is read alone (the script, a list of the module); ref is a cell -/
inductive W where
  | non | bl (b : Bool) | int (i : Int) | str (s : Str) | tup (xs : List W) | lst (xs : List W) | frl (xs : List W) | ref (n : Nat) | obj (c : Str) (fs : List (Str × W)) | dct (kvs : List (Key × W))
def flatW : W → Bool
  | .non => true
  | .bl _ => true
  | .int _ => true
  | .str _ => true
  | _ => false
/-- a cell -/
inductive SO where
  | lst (xs : List W) | ins (c : Str) (fs : List (Str × W)) | dct (kvs : List (Key × W)) | imd (kvs : List (Key × W)) | lck (kvs : List (Key × W)) | kd (ks : List (NestedKey × W)) (vs : List W)
abbrev Sto := List SO
abbrev Env' := List (Option W)

def mapO {α β : Type} (f : α → Option β) : List α → Option (List β)
  | [] => some []
  | x :: xs => match f x, mapO f xs with
    | some y, some ys => some (y :: ys)
    | _, _ => none
theorem mapO_cons {α β : Type} {f : α → Option β} {x : α} {xs : List α} {zs : List β} (e : mapO f (x :: xs) = some zs) : ∃ y ys, f x = some y ∧ mapO f xs = some ys ∧ zs = y :: ys := by
  unfold mapO at e
  split at e
  · rename_i y ys h1 h2
    cases e
    exact ⟨y, ys, h1, h2, rfl⟩
  · cases e
/-- a value as a key: ints, texts, bools, None, tuples of such -/
def nkW : Nat → W → Option NestedKey
  | 0, _ => none
  | n + 1, w => match w with
    | .non => some .none
    | .bl b => some (.num (if b = true then 1 else 0))
    | .int i => some (.num i)
    | .str s => some (.text s)
    | .tup ws => (mapO (nkW n) ws).map .tup
    | _ => none
/-- results -/
inductive R (α : Type) where
  | ok (a : α) (S : Sto)
  | exc (c : Str) (fs : List (Str × W)) (env : Env') (S : Sto)
  | bad
noncomputable def R.bind {α β : Type} (r : R α) (f : α → Sto → R β) : R β := R.rec (motive := fun _ => R β) f (fun c fs e S => .exc c fs e S) .bad r
noncomputable def lift {α : Type} (o : Option α) (S : Sto) : R α := Option.rec (motive := fun _ => R α) .bad (fun a => .ok a S) o
noncomputable def guard' (b : Bool) {α : Type} (r : R α) : R α := Bool.rec (motive := fun _ => R α) .bad r b
/-! ### what a value stands for -/
/-- where the classes stand -/
class Gam where
  cls : Str → Option Addr
  /-- where the defs stand, methods under mName -/
  fn : Str → Addr
  /-- where the tables of code objects stand, for the defs that make lambdas -/
  tabs : List (Addr × Str) := []
  /-- the world: how texts hash -/
  wd : World
variable [Gam]
def plainO : HO → Bool
  | .tbl _ => false
  | .ext _ => false
  | _ => true
def notTbl : HO → Bool
  | .tbl _ => false
  | _ => true
/-- the tables of code objects -/
def TbOk (H : Hp) : Prop := LamX.Tabs Gam.tabs H
theorem TbOk.congr {H H' : Hp} (t : TbOk H) (h1 : ∀ b v, H b = some v → plainO v = false → H' b = some v) (h2 : ∀ b v, H' b = some v → plainO v = false → H b = some v) : TbOk H' := by
  intro p hp
  obtain ⟨ps, a1, a2, a3⟩ := t p hp
  refine ⟨ps, h1 _ _ a1 rfl, a2, fun pos cv hc => ?_⟩
  obtain ⟨c, e1, e2⟩ := a3 pos cv hc
  exact ⟨c, e1, h1 _ _ e2 rfl⟩
theorem TbOk.new {H : Hp} {a : Addr} {o : HO} (t : TbOk H) (h : H a = none) (p : plainO o = true) : TbOk (upd H a o) :=
  t.congr (fun b v e _ => by rw [upd_ne (ne_of_none e h)]; exact e) fun b v e q => by
    by_cases hb : b = a
    · subst hb
      rw [upd_same] at e
      cases e
      rw [p] at q
      cases q
    · rw [upd_ne hb] at e
      exact e
theorem TbOk.chg {H : Hp} {a : Addr} {o u : HO} (t : TbOk H) (h : H a = some u) (pu : plainO u = true) (p : plainO o = true) : TbOk (upd H a o) :=
  t.congr (fun b v e q => by
    have hb : b ≠ a := fun z => by
      subst z
      rw [h] at e
      cases e
      rw [pu] at q
      cases q
    rw [upd_ne hb]
    exact e) fun b v e q => by
    by_cases hb : b = a
    · subst hb
      rw [upd_same] at e
      cases e
      rw [p] at q
      cases q
    · rw [upd_ne hb] at e
      exact e
/-- what never changes is no table -/
def NbOk (B : Hp) : Prop := Gam.tabs ≠ [] → ∀ a ps, B a ≠ some (.tbl ps)
theorem NbOk.upd {B : Hp} {a : Addr} {o : HO} (n : NbOk B) (p : plainO o = true) : NbOk (upd B a o) := fun g b ps h => by
  by_cases hb : b = a
  · subst hb
    rw [upd_same] at h
    cases h
    cases p
  · rw [upd_ne hb] at h
    exact n g b ps h
theorem TbOk.nil {H : Hp} (g : Gam.tabs = []) : TbOk H := fun p hp => (by rw [g] at hp; exact nomatch hp)
mutual
inductive Rep (K : PySem.W.Frag) (B : Hp) (ρ : List Addr) : V → W → Prop
  | non : Rep K B ρ .non .non
  | bl (b : Bool) : Rep K B ρ (.bl b) (.bl b)
  | int (i : Int) : Rep K B ρ (.int i) (.int i)
  | str (s : Str) : Rep K B ρ (.str s) (.str s)
  | tup {a : Addr} {xs : List V} {ws : List W} : SqT K B a xs → RepL K B ρ xs ws → Rep K B ρ (.ref a) (.tup ws)
  | lst {a : Addr} {xs : List V} {ws : List W} : B a = some (.lst xs) → RepL K B ρ xs ws → Rep K B ρ (.ref a) (.lst ws)
  | frl {a : Addr} {xs : List V} {ws : List W} : SqL K B a xs → RepL K B ρ xs ws → ws.all flatW = true → Rep K B ρ (.ref a) (.frl ws)
  | ref {n : Nat} {a : Addr} : ρ[n]? = some a → Rep K B ρ (.ref a) (.ref n)
  | obj {a C dx : Addr} {c : Str} {fv : List (Str × V)} {fs : List (Str × W)} : Gam.cls c = some C → B a = some (.ins C dx fv) → fv.map Prod.fst = fs.map Prod.fst → RepL K B ρ (fv.map Prod.snd) (fs.map Prod.snd) → Rep K B ρ (.ref a) (.obj c fs)
  | dct {a : Addr} {kv : List (Key × V)} {ks : List (Key × W)} : L2.Rd B a (.dK kv) → kv.map Prod.fst = ks.map Prod.fst → RepL K B ρ (kv.map Prod.snd) (ks.map Prod.snd) → Rep K B ρ (.ref a) (.dct ks)
inductive RepL (K : PySem.W.Frag) (B : Hp) (ρ : List Addr) : List V → List W → Prop
  | nil : RepL K B ρ [] []
  | cons {v : V} {vs : List V} {w : W} {ws : List W} : Rep K B ρ v w → RepL K B ρ vs ws → RepL K B ρ (v :: vs) (w :: ws)
end

theorem Same.rd {H H' : Hp} {a : Addr} {u : HO} (e : Same H H') (h : L2.Rd H a u) : L2.Rd H' a u := by
  rcases h with h | ⟨o, h⟩
  · exact .inl (e _ _ h)
  · exact .inr ⟨o, e _ _ h⟩
theorem Same.tup {K : PySem.W.Frag} {H H' : Hp} {a : Addr} {xs : List V} (e : Same H H') (h : SqT K H a xs) : SqT K H' a xs := by
  rcases h with (h | ⟨o, h⟩) | h
  · exact .inl (.inl (e _ _ h))
  · exact .inl (.inr ⟨o, e _ _ h⟩)
  · exact .inr h

section
variable {K : PySem.W.Frag} {B B' : Hp} {ρ ρ' : List Addr}
theorem pre_get {ρ ρ' : List Addr} (p : ∃ m, ρ' = ρ ++ m) {n : Nat} {a : Addr} (h : ρ[n]? = some a) : ρ'[n]? = some a := by
  obtain ⟨m, rfl⟩ := p
  have hl : n < ρ.length := (List.getElem?_eq_some_iff.mp h).1
  rw [List.getElem?_append_left hl]
  exact h
mutual
theorem Rep.mono (s : Same B B') (p : ∃ m, ρ' = ρ ++ m) : ∀ {v : V} {w : W}, Rep K B ρ v w → Rep K B' ρ' v w
  | _, _, .non => .non
  | _, _, .bl b => .bl b
  | _, _, .int i => .int i
  | _, _, .str x => .str x
  | _, _, .tup h r => .tup (Same.tup s h) (RepL.mono s p r)
  | _, _, .lst h r => .lst (s _ _ h) (RepL.mono s p r)
  | _, _, .frl h r f => .frl (s.seq h) (RepL.mono s p r) f
  | _, _, .ref h => .ref (pre_get p h)
  | _, _, .obj hc h e r => .obj hc (s _ _ h) e (RepL.mono s p r)
  | _, _, .dct h e r => .dct (Same.rd s h) e (RepL.mono s p r)
theorem RepL.mono (s : Same B B') (p : ∃ m, ρ' = ρ ++ m) : ∀ {vs : List V} {ws : List W}, RepL K B ρ vs ws → RepL K B' ρ' vs ws
  | _, _, .nil => .nil
  | _, _, .cons h r => .cons (Rep.mono s p h) (RepL.mono s p r)
end
theorem RepL.length : ∀ {vs : List V} {ws : List W}, RepL K B ρ vs ws → vs.length = ws.length
  | _, _, .nil => rfl
  | _, _, .cons _ r => congrArg Nat.succ (RepL.length r)
theorem RepL.get : ∀ {vs : List V} {ws : List W} {i : Nat} {w : W}, RepL K B ρ vs ws → ws[i]? = some w → ∃ v, vs[i]? = some v ∧ Rep K B ρ v w
  | _, _, _, _, .nil, h => by simp at h
  | _, _, 0, _, .cons h r, e => by
    simp at e; subst e; exact ⟨_, rfl, h⟩
  | _, _, i + 1, _, .cons h r, e => by
    obtain ⟨v, e1, e2⟩ := RepL.get (i := i) r (by simpa using e)
    exact ⟨v, by simpa using e1, e2⟩
theorem RepL.get' : ∀ {vs : List V} {ws : List W} {i : Nat} {v : V}, RepL K B ρ vs ws → vs[i]? = some v → ∃ w, ws[i]? = some w ∧ Rep K B ρ v w
  | _, _, _, _, .nil, h => by simp at h
  | _, _, 0, _, .cons h r, e => by
    simp at e; subst e; exact ⟨_, rfl, h⟩
  | _, _, i + 1, _, .cons h r, e => by
    obtain ⟨v, e1, e2⟩ := RepL.get' (i := i) r (by simpa using e)
    exact ⟨v, by simpa using e1, e2⟩
theorem RepL.append : ∀ {vs us : List V} {ws xs : List W}, RepL K B ρ vs ws → RepL K B ρ us xs → RepL K B ρ (vs ++ us) (ws ++ xs)
  | _, _, _, _, .nil, s => s
  | _, _, _, _, .cons h r, s => .cons h (RepL.append r s)
theorem RepL.drop : ∀ {vs : List V} {ws : List W} (n : Nat), RepL K B ρ vs ws → RepL K B ρ (vs.drop n) (ws.drop n)
  | _, _, 0, r => r
  | _, _, _ + 1, .nil => .nil
  | _, _, n + 1, .cons _ t => RepL.drop n t
theorem RepL.take : ∀ {vs : List V} {ws : List W} (n : Nat), RepL K B ρ vs ws → RepL K B ρ (vs.take n) (ws.take n)
  | _, _, 0, _ => .nil
  | _, _, _ + 1, .nil => .nil
  | _, _, n + 1, .cons h t => .cons h (RepL.take n t)
theorem RepL.set {v : V} {w : W} (h : Rep K B ρ v w) : ∀ {vs : List V} {ws : List W} (i : Nat), RepL K B ρ vs ws → RepL K B ρ (vs.set i v) (ws.set i w)
  | _, _, _, .nil => .nil
  | _, _, 0, .cons _ t => .cons h t
  | _, _, i + 1, .cons q t => .cons q (RepL.set h i t)
end

/-- what a cell stands for -/
inductive RepO (K : PySem.W.Frag) (B : Hp) (ρ : List Addr) : HO → SO → Prop
  | lst {xs : List V} {ws : List W} : RepL K B ρ xs ws → RepO K B ρ (.lst xs) (.lst ws)
  | ins {C dx : Addr} {c : Str} {fv : List (Str × V)} {fs : List (Str × W)} : Gam.cls c = some C → fv.map Prod.fst = fs.map Prod.fst → RepL K B ρ (fv.map Prod.snd) (fs.map Prod.snd) → RepO K B ρ (.ins C dx fv) (.ins c fs)
  | dct {kv : List (Key × V)} {ks : List (Key × W)} : kv.map Prod.fst = ks.map Prod.fst → RepL K B ρ (kv.map Prod.snd) (ks.map Prod.snd) → RepO K B ρ (.dK kv) (.dct ks)
theorem RepO.mono {K : PySem.W.Frag} {B B' : Hp} {ρ ρ' : List Addr} (s : Same B B') (p : ∃ m, ρ' = ρ ++ m) {u : HO} {o : SO} (h : RepO K B ρ u o) : RepO K B' ρ' u o := by
  cases h with
  | lst r => exact .lst (RepL.mono s p r)
  | ins hc e r => exact .ins hc e (RepL.mono s p r)
  | dct e r => exact .dct e (RepL.mono s p r)
theorem RepO.plain {K : PySem.W.Frag} {B : Hp} {ρ : List Addr} {u : HO} {o : SO} (h : RepO K B ρ u o) : plainO u = true := by
  cases h <;> rfl

def isImd : SO → Bool
  | .imd _ => true
  | .lck _ => true
  | .kd _ _ => true
  | _ => false
/-! ### a dict whose keys are tuples -/
abbrev XE := NestedKey × Addr × Value
def entN (w : World) (x : XE) : DictEntry := ⟨x.1.hash w, .ref x.2.1, x.2.2⟩
/-- the very object -/
def kdO (a : Addr) (o : Obj) : HO := .ext fun h => h.get? a = some o
def KdObj (w : World) (o : Obj) (xs : List XE) : Prop := o.ExactDict ∧ ∃ es ep, o.data = .dict es ep ∧ es.toList = xs.map (entN w) ∧ (xs.map (·.1)).Nodup
/-- its keys -/
def KdK (K : PySem.W.Frag) (B : Hp) : List XE → List (NestedKey × W) → Prop := Paired fun x k => x.1 = k.1 ∧ nkW 8 k.2 = some k.1 ∧ Rep K B [] (.ref x.2.1) k.2
theorem KdK.mono {K : PySem.W.Frag} {B B' : Hp} (s : Same B B') {xs : List XE} {ks : List (NestedKey × W)} (h : KdK K B xs ks) : KdK K B' xs ks := Paired.mapP h fun _ _ ⟨a, b, c⟩ => ⟨a, b, c.mono s ⟨[], rfl⟩⟩
/-- how a cell stands: it may change, or (imd) it does not any more, or (lck) it does not as long as it is walked -/
def Cel (K : PySem.W.Frag) (B : Hp) (ρ : List Addr) (H : Hp) (a : Addr) : SO → Prop
  | .imd ks => ∃ kv : List (Key × V), L2.Rd B a (.dK kv) ∧ kv.map Prod.fst = ks.map Prod.fst ∧ RepL K B ρ (kv.map Prod.snd) (ks.map Prod.snd)
  | .kd ks vs => B a = none ∧ Gam.tabs = [] ∧ (a == sysModules) = false ∧ vs.length ≤ sizeLine ∧ ∃ (o : Obj) (xs : List XE) (us : List V), H a = some (kdO a o) ∧ KdObj Gam.wd o xs ∧ KdK K B xs ks ∧ Vals us (xs.map (·.2.2)) ∧ RepL K B ρ us vs
  | .lst ws => B a = none ∧ ∃ u, H a = some u ∧ RepO K B ρ u (.lst ws)
  | .ins c fs => B a = none ∧ ∃ u, H a = some u ∧ RepO K B ρ u (.ins c fs)
  | .dct ks => B a = none ∧ ∃ u, H a = some u ∧ RepO K B ρ u (.dct ks)
  | .lck ks => B a = none ∧ ∃ (o : Obj) (kv : List (Key × V)), H a = some (.frz o (.dK kv)) ∧ kv.map Prod.fst = ks.map Prod.fst ∧ RepL K B ρ (kv.map Prod.snd) (ks.map Prod.snd)
theorem Cel.mk {K : PySem.W.Frag} {B : Hp} {ρ : List Addr} {H : Hp} {a : Addr} {u : HO} {o : SO} (hb : B a = none) (hu : H a = some u) (r : RepO K B ρ u o) : Cel K B ρ H a o := by
  cases o with
  | imd ks => cases r
  | lck ks => cases r
  | kd ks vs => cases r
  | lst ws => exact ⟨hb, u, hu, r⟩
  | ins c fs => exact ⟨hb, u, hu, r⟩
  | dct ks => exact ⟨hb, u, hu, r⟩
theorem Cel.live {K : PySem.W.Frag} {B : Hp} {ρ : List Addr} {H : Hp} {a : Addr} {o : SO} (c : Cel K B ρ H a o) (h : isImd o = false) : B a = none ∧ ∃ u, H a = some u ∧ RepO K B ρ u o := by
  cases o with
  | imd ks => cases h
  | lck ks => cases h
  | kd ks vs => cases h
  | lst ws => exact c
  | ins _ fs => exact c
  | dct ks => exact c
theorem Cel.mono {K : PySem.W.Frag} {B B' : Hp} {ρ ρ' : List Addr} {H H' : Hp} {a : Addr} {o : SO} (s : Same B B') (p : ∃ m, ρ' = ρ ++ m) (hb : B a = none → B' a = none) (hh : ∀ u, H a = some u → H' a = some u) (c : Cel K B ρ H a o) : Cel K B' ρ' H' a o := by
  cases q : isImd o with
  | false =>
    obtain ⟨h1, u, h2, h3⟩ := c.live q
    exact Cel.mk (hb h1) (hh u h2) (h3.mono s p)
  | true =>
    cases o with
    | imd ks =>
      obtain ⟨kv, h1, h2, h3⟩ := c
      exact ⟨kv, Same.rd s h1, h2, RepL.mono s p h3⟩
    | lck ks =>
      obtain ⟨h0, o, kv, h1, h2, h3⟩ := c
      exact ⟨hb h0, o, kv, hh _ h1, h2, RepL.mono s p h3⟩
    | kd ks vs =>
      obtain ⟨h0, g0, sy, sz, o, xs, us, h1, h2, h3, h4, h5⟩ := c
      exact ⟨hb h0, g0, sy, sz, o, xs, us, hh _ h1, h2, h3.mono s, h4, RepL.mono s p h5⟩
    | _ => cases q
theorem Cel.held {K : PySem.W.Frag} {B : Hp} {ρ : List Addr} {H : Hp} {a : Addr} {o : SO} (sm : Same B H) (c : Cel K B ρ H a o) : ∃ u, H a = some u := by
  cases q : isImd o with
  | false =>
    obtain ⟨h1, u, h2, h3⟩ := c.live q
    exact ⟨u, h2⟩
  | true =>
    cases o with
    | imd ks =>
      obtain ⟨kv, h1, h2, h3⟩ := c
      rcases Same.rd sm h1 with h | ⟨o, h⟩
      · exact ⟨_, h⟩
      · exact ⟨_, h⟩
    | lck ks =>
      obtain ⟨_, o, kv, h1, _⟩ := c
      exact ⟨_, h1⟩
    | kd ks vs =>
      obtain ⟨_, _, _, _, o, xs, us, h1, _⟩ := c
      exact ⟨_, h1⟩
    | _ => cases q
theorem Cel.notTbl {K : PySem.W.Frag} {B : Hp} {ρ : List Addr} {H : Hp} {a : Addr} {o : SO} (sm : Same B H) (c : Cel K B ρ H a o) {u : HO} (hu : H a = some u) : notTbl u = true := by
  cases q : isImd o with
  | false =>
    obtain ⟨_, u', h2, r⟩ := c.live q
    rw [hu] at h2
    cases h2
    cases r <;> rfl
  | true =>
    cases o with
    | imd ks =>
      obtain ⟨kv, h1, _⟩ := c
      rcases Same.rd sm h1 with h | ⟨o, h⟩ <;> (rw [hu] at h; cases h; rfl)
    | lck ks =>
      obtain ⟨_, o, kv, h1, _⟩ := c
      rw [hu] at h1
      cases h1
      rfl
    | kd ks vs =>
      obtain ⟨_, _, _, _, o, xs, us, h1, _⟩ := c
      rw [hu] at h1
      cases h1
      rfl
    | _ => cases q
/-- the state: B what never changes, ρ the cells' addresses -/
structure SR (K : PySem.W.Frag) (ρ : List Addr) (S : Sto) (B H : Hp) : Prop where
  same : Same B H
  len : ρ.length = S.length
  nd : ρ.Nodup
  cell : ∀ (i : Nat) (a : Addr) (o : SO), ρ[i]? = some a → S[i]? = some o → Cel K B ρ H a o
  tb : TbOk H
  nb : NbOk B
/-- from one state to a later one -/
structure Ext (ρ : List Addr) (B H : Hp) (ρ' : List Addr) (B' H' : Hp) : Prop where
  b : Same B B'
  p : ∃ m, ρ' = ρ ++ m ∧ ∀ a ∈ m, H a = none
  frame : ∀ a o, H a = some o → (Gam.tabs ≠ [] → notTbl o = true) → a ∉ ρ → H' a = some o
  there : ∀ a o, H a = some o → ∃ o', H' a = some o'
  new : ∀ a o, H a = some o → a ∉ ρ → B a = none → B' a = none
  frz : ∀ a o u, H a = some (.frz o u) → H' a = some (.frz o u)
/-- what is frozen stays so -/
def Fz (H H' : Hp) : Prop := ∀ a o u, H a = some (.frz o u) → H' a = some (.frz o u)
def notFrz : HO → Bool
  | .frz _ _ => false
  | _ => true
section
variable {K : PySem.W.Frag} {ρ ρ1 ρ2 : List Addr} {S : Sto} {B B1 B2 H H1 H2 : Hp}
theorem Ext.pre (e : Ext ρ B H ρ1 B1 H1) : ∃ m, ρ1 = ρ ++ m := by
  obtain ⟨m, h, _⟩ := e.p
  exact ⟨m, h⟩
theorem Ext.refl : Ext ρ B H ρ B H := ⟨Same.refl B, ⟨[], by simp, fun a h => by simp at h⟩, fun _ _ h _ _ => h, fun _ o h => ⟨o, h⟩, fun _ _ _ _ h => h, fun _ _ _ h => h⟩
theorem Ext.trans (a : Ext ρ B H ρ1 B1 H1) (b : Ext ρ1 B1 H1 ρ2 B2 H2) : Ext ρ B H ρ2 B2 H2 := by
  obtain ⟨m1, e1, n1⟩ := a.p
  obtain ⟨m2, e2, n2⟩ := b.p
  refine ⟨a.b.trans b.b, ⟨m1 ++ m2, by rw [e2, e1, List.append_assoc], fun c hc => ?_⟩, fun c o h ht hn => ?_, fun c o h => ?_, fun c o h hr hn => ?_, fun c o u h => b.frz _ _ _ (a.frz _ _ _ h)⟩
  · rcases List.mem_append.mp hc with hc | hc
    · exact n1 c hc
    · cases q : H c with
      | none => rfl
      | some o =>
        obtain ⟨o', z⟩ := a.there c o q
        rw [n2 c hc] at z
        cases z
  · refine b.frame c o (a.frame c o h ht hn) ht fun hm => ?_
    rw [e1] at hm
    rcases List.mem_append.mp hm with hm | hm
    · exact hn hm
    · rw [n1 c hm] at h
      cases h
  · obtain ⟨o', z⟩ := a.there c o h
    exact b.there c o' z
  · obtain ⟨o', z⟩ := a.there c o h
    refine b.new c o' z (fun hm => ?_) (a.new c o h hr hn)
    rw [e1] at hm
    rcases List.mem_append.mp hm with hm | hm
    · exact hr hm
    · rw [n1 c hm] at h
      cases h
/-- a new object that never changes -/
theorem Ext.fresh {a : Addr} {o : HO} (s : Same B H) (h : H a = none) : Ext ρ B H ρ (upd B a o) (upd H a o) := by
  have hb : B a = none := s.free h
  refine ⟨fun c u q => ?_, ⟨[], by simp, fun a h => by simp at h⟩, fun c u q _ _ => ?_, fun c u q => ⟨u, ?_⟩, fun c u q _ n => ?_, fun c _ _ q => ?_⟩
  · rw [upd_ne (ne_of_none q hb)]
    exact q
  · rw [upd_ne (ne_of_none q h)]
    exact q
  · rw [upd_ne (ne_of_none q h)]
    exact q
  · rw [upd_ne (ne_of_none q h)]
    exact n
  · rw [upd_ne (ne_of_none q h)]
    exact q
theorem SR.fresh {a : Addr} {o : HO} (s : SR K ρ S B H) (h : H a = none) (po : plainO o = true := by rfl) : SR K ρ S (upd B a o) (upd H a o) := by
  have hb : B a = none := s.same.free h
  have sm : Same B (upd B a o) := fun c u q => by
    rw [upd_ne (ne_of_none q hb)]
    exact q
  refine ⟨fun c u q => ?_, s.len, s.nd, fun i c so e1 e2 => ?_, s.tb.new h po, s.nb.upd po⟩
  · by_cases hc : c = a
    · subst hc
      rw [upd_same] at q ⊢
      exact q
    · rw [upd_ne hc] at q ⊢
      exact s.same c u q
  · obtain ⟨u, hu⟩ := (s.cell i c so e1 e2).held s.same
    have hc : c ≠ a := ne_of_none hu h
    exact (s.cell i c so e1 e2).mono sm ⟨[], by simp⟩ (fun n => by rw [upd_ne hc]; exact n) (fun u hu => by rw [upd_ne hc]; exact hu)
/-- garbage: a new object that is not held -/
theorem Ext.junk {a : Addr} {o : HO} (h : H a = none) : Ext ρ B H ρ B (upd H a o) := by
  refine ⟨Same.refl B, ⟨[], by simp, fun a h => by simp at h⟩, fun c u q _ _ => ?_, fun c u q => ⟨u, ?_⟩, fun c u q _ n => n, fun c _ _ q => ?_⟩
  · rw [upd_ne (ne_of_none q h)]
    exact q
  · rw [upd_ne (ne_of_none q h)]
    exact q
  · rw [upd_ne (ne_of_none q h)]
    exact q
theorem SR.junk {a : Addr} {o : HO} (s : SR K ρ S B H) (h : H a = none) (po : plainO o = true := by rfl) : SR K ρ S B (upd H a o) := by
  have hb : B a = none := s.same.free h
  refine ⟨fun c u q => ?_, s.len, s.nd, fun i c so e1 e2 => ?_, s.tb.new h po, s.nb⟩
  · rw [upd_ne (ne_of_none q hb)]
    exact s.same c u q
  · obtain ⟨u, hu⟩ := (s.cell i c so e1 e2).held s.same
    exact (s.cell i c so e1 e2).mono (Same.refl B) ⟨[], by simp⟩ (fun n => n) (fun u hu => by rw [upd_ne (ne_of_none hu h)]; exact hu)
/-- a new cell -/
theorem Ext.cell {a : Addr} {o : HO} (h : H a = none) : Ext ρ B H (ρ ++ [a]) B (upd H a o) := by
  refine ⟨Same.refl B, ⟨[a], rfl, fun c hc => ?_⟩, fun c u q _ _ => ?_, fun c u q => ⟨u, ?_⟩, fun c u q _ n => n, fun c _ _ q => ?_⟩
  · rw [List.mem_singleton.mp hc]
    exact h
  · rw [upd_ne (ne_of_none q h)]
    exact q
  · rw [upd_ne (ne_of_none q h)]
    exact q
  · rw [upd_ne (ne_of_none q h)]
    exact q
theorem SR.newCell {a : Addr} {o : HO} {so : SO} (s : SR K ρ S B H) (h : H a = none) (r : RepO K B ρ o so) : SR K (ρ ++ [a]) (S ++ [so]) B (upd H a o) := by
  have hb : B a = none := s.same.free h
  have hin : a ∉ ρ := fun hm => by
    obtain ⟨i, hi⟩ := List.getElem?_of_mem hm
    have hl : i < S.length := by rw [← s.len]; exact (List.getElem?_eq_some_iff.mp hi).1
    obtain ⟨u, hu⟩ := (s.cell i a S[i] hi (by simp [hl])).held s.same
    rw [h] at hu
    cases hu
  refine ⟨fun c u q => ?_, by simp [s.len], ?_, fun i c so' e1 e2 => ?_, s.tb.new h r.plain, s.nb⟩
  · rw [upd_ne (ne_of_none q hb)]
    exact s.same c u q
  · rw [List.nodup_append]
    refine ⟨s.nd, by simp, fun x hx y hy e => ?_⟩
    rw [List.mem_singleton.mp hy] at e
    rw [e] at hx
    exact hin hx
  · by_cases hi : i < ρ.length
    · rw [List.getElem?_append_left hi] at e1
      rw [List.getElem?_append_left (by rw [← s.len]; exact hi)] at e2
      obtain ⟨u, hu⟩ := (s.cell i c so' e1 e2).held s.same
      exact (s.cell i c so' e1 e2).mono (Same.refl B) ⟨[a], rfl⟩ (fun n => n) (fun u hu => by rw [upd_ne (ne_of_none hu h)]; exact hu)
    · have hl : i = ρ.length := by
        have z := (List.getElem?_eq_some_iff.mp e1).1
        simp at z
        omega
      subst hl
      simp at e1
      rw [s.len] at e2
      simp at e2
      subst e1
      subst e2
      exact Cel.mk hb upd_same (r.mono (Same.refl B) ⟨[a], rfl⟩)
/-- a cell changed -/
theorem SR.setCell {a : Addr} {i : Nat} {o : HO} {so so0 : SO} (s : SR K ρ S B H) (e : ρ[i]? = some a) (e0 : S[i]? = some so0) (r : RepO K B ρ o so) (ni : isImd so0 = false := by rfl) : SR K ρ (S.set i so) B (upd H a o) := by
  have hi : i < ρ.length := (List.getElem?_eq_some_iff.mp e).1
  have hs : i < S.length := by rw [← s.len]; exact hi
  obtain ⟨hb, u, hu, r0⟩ := (s.cell i a so0 e e0).live ni
  refine ⟨fun c v q => ?_, by simp [s.len], s.nd, fun j c so' e1 e2 => ?_, s.tb.chg hu r0.plain r.plain, s.nb⟩
  · rw [upd_ne (ne_of_none q hb)]
    exact s.same c v q
  · by_cases hj : i = j
    · subst hj
      rw [e] at e1
      cases e1
      rw [List.getElem?_set_self hs] at e2
      cases e2
      exact Cel.mk hb upd_same r
    · rw [List.getElem?_set_ne hj] at e2
      have hne : c ≠ a := fun z => by
        subst z
        have hj' : j < ρ.length := (List.getElem?_eq_some_iff.mp e1).1
        have e3 : ρ[i] = c := by have := (List.getElem?_eq_some_iff.mp e).2; exact this
        have e4 : ρ[j] = c := by have := (List.getElem?_eq_some_iff.mp e1).2; exact this
        exact hj ((List.getElem_inj s.nd).mp (e3.trans e4.symm))
      exact (s.cell j c so' e1 e2).mono (Same.refl B) ⟨[], by simp⟩ (fun n => n) (fun u hu => by rw [upd_ne hne]; exact hu)
/-- a cell becomes (or stays) a dict whose keys are tuples -/
theorem SR.setKd {a : Addr} {i : Nat} {o : Obj} {ks : List (NestedKey × W)} {vs : List W} (s : SR K ρ S B H) (e : ρ[i]? = some a) (g0 : Gam.tabs = []) (hb : B a = none) (c : Cel K B ρ (upd H a (kdO a o)) a (.kd ks vs)) : SR K ρ (S.set i (.kd ks vs)) B (upd H a (kdO a o)) := by
  have hi : i < ρ.length := (List.getElem?_eq_some_iff.mp e).1
  have hs : i < S.length := by rw [← s.len]; exact hi
  refine ⟨fun c v q => ?_, by simp [s.len], s.nd, fun j c' so' e1 e2 => ?_, TbOk.nil g0, s.nb⟩
  · rw [upd_ne (ne_of_none q hb)]
    exact s.same c v q
  · by_cases hj : i = j
    · subst hj
      rw [e] at e1
      cases e1
      rw [List.getElem?_set_self hs] at e2
      cases e2
      exact c
    · rw [List.getElem?_set_ne hj] at e2
      have hne : c' ≠ a := fun z => by
        subst z
        have e3 : ρ[i] = c' := by have := (List.getElem?_eq_some_iff.mp e).2; exact this
        have e4 : ρ[j]'(List.getElem?_eq_some_iff.mp e1).1 = c' := by have := (List.getElem?_eq_some_iff.mp e1).2; exact this
        exact hj ((List.getElem_inj s.nd).mp (e3.trans e4.symm))
      exact (s.cell j c' so' e1 e2).mono (Same.refl B) ⟨[], by simp⟩ (fun n => n) (fun u hu => by rw [upd_ne hne]; exact hu)
theorem Ext.setCell {a : Addr} {i : Nat} {o v : HO} (e : ρ[i]? = some a) (hv : H a = some v) (hz : notFrz v = true := by rfl) : Ext ρ B H ρ B (upd H a o) := by
  have hm : a ∈ ρ := List.mem_of_getElem? e
  refine ⟨Same.refl B, ⟨[], by simp, fun a h => by simp at h⟩, fun c u q _ hn => ?_, fun c u q => ?_, fun c u q _ n => n, fun c o' u q => ?_⟩
  · rw [upd_ne (fun z => hn (by rw [z]; exact hm))]
    exact q
  · by_cases hc : c = a
    · subst hc
      exact ⟨o, upd_same⟩
    · exact ⟨u, by rw [upd_ne hc]; exact q⟩
  · by_cases hc : c = a
    · subst hc
      rw [hv] at q
      cases q
      cases hz
    · rw [upd_ne hc]
      exact q
theorem SR.at {i : Nat} {a : Addr} {o : SO} (s : SR K ρ S B H) (e : ρ[i]? = some a) (h : S[i]? = some o) (ni : isImd o = false := by rfl) : ∃ u, H a = some u ∧ RepO K B ρ u o := ((s.cell i a o e h).live ni).2
end

/-! ### results that hold what is asked of them -/
section
variable {K : PySem.W.Frag}
def Hold (K : PySem.W.Frag) {α : Type} (r : R α) (ρ : List Addr) (B H : Hp) (ok : α → Sto → List Addr → Hp → Hp → Prop) (ex : Str → List (Str × W) → Env' → List Addr → Hp → Hp → Prop) : Prop := match r with
  | .ok a S => ∀ ρ' B' H', Ext ρ B H ρ' B' H' → SR K ρ' S B' H' → ok a S ρ' B' H'
  | .exc c fs e S => ∀ ρ' B' H', Ext ρ B H ρ' B' H' → SR K ρ' S B' H' → ex c fs e ρ' B' H'
  | .bad => False
variable {α β : Type} {r : R α} {f : α → Sto → R β} {ρ ρ1 : List Addr} {B H B1 H1 : Hp} {ok ok' : α → Sto → List Addr → Hp → Hp → Prop} {okb : β → Sto → List Addr → Hp → Hp → Prop} {ex ex' : Str → List (Str × W) → Env' → List Addr → Hp → Hp → Prop}
theorem Hold.ext (h : Hold K r ρ B H ok ex) (e : Ext ρ B H ρ1 B1 H1) : Hold K r ρ1 B1 H1 ok ex := by
  cases r with
  | ok a S => exact fun ρ' B' H' e' s => h ρ' B' H' (e.trans e') s
  | exc c fs en S => exact fun ρ' B' H' e' s => h ρ' B' H' (e.trans e') s
  | bad => exact h
theorem Hold.imp (h : Hold K r ρ B H ok ex) (f : ∀ a S ρ' B' H', Ext ρ B H ρ' B' H' → SR K ρ' S B' H' → ok a S ρ' B' H' → ok' a S ρ' B' H')
    (g : ∀ c fs e ρ' B' H', ex c fs e ρ' B' H' → ex' c fs e ρ' B' H') : Hold K r ρ B H ok' ex' := by
  cases r with
  | ok a S => exact fun ρ' B' H' e' s => f _ _ _ _ _ e' s (h ρ' B' H' e' s)
  | exc c fs en S => exact fun ρ' B' H' e' s => g _ _ _ _ _ _ (h ρ' B' H' e' s)
  | bad => exact h
theorem Hold.bind (h : Hold K (r.bind f) ρ B H okb ex) : Hold K r ρ B H (fun a S ρ' B' H' => Hold K (f a S) ρ' B' H' okb ex) ex := by
  cases r with
  | ok a S => exact fun ρ' B' H' e' s => Hold.ext (show Hold K (f a S) ρ B H okb ex from h) e'
  | exc c fs en S => exact h
  | bad => exact h
theorem Hold.lift {o : Option α} {S : Sto} (h : Hold K (lift o S) ρ B H ok ex) : ∃ a, o = some a ∧ ∀ ρ' B' H', Ext ρ B H ρ' B' H' → SR K ρ' S B' H' → ok a S ρ' B' H' := by
  cases o with
  | none => exact h.elim
  | some a => exact ⟨a, rfl, h⟩
theorem Hold.grd {b : Bool} (h : Hold K (guard' b r) ρ B H ok ex) : b = true ∧ Hold K r ρ B H ok ex := by
  cases b with
  | false => exact h.elim
  | true => exact ⟨rfl, h⟩
end
end Mi

set_option Elab.async false
set_option linter.all false
set_option maxRecDepth 100000
set_option maxHeartbeats 4000000
/-! Ma23: a lambda handed to a def: what its making changes, told in full. -/
noncomputable section
namespace Mi
open PySem PySem.Spec PyProof.Rows L2
/-- the one table grew by one code object, or nothing changed -/
def LamH (H : Hp) (P : Addr) (q : Str) (H1 : Hp) : Prop := H1 = H ∨ ∃ (p0 p1 : Array Value) (c : Addr), H P = some (.tbl p0) ∧ H c = none ∧ H1 = upd (upd H P (.tbl p1)) c (LamX.CodeO c q)
section
variable {X : Cx} {pins : List (Addr × Obj)} {σ : L2.St} {H : Hp} {s : Shared}
theorem lam_made {T : List (Addr × Str)} {C P : Addr} {nm : Str} {ps : Arguments} {bd : Expr} {sc : Scope} {at_ : Pos} {E Q : Value → Shared → Prop} (I : Inv X pins σ H s) (B : LamX.TabB X.base X.mg C P) (code : X.env.code = .ref C) (en : nm = X.env.qual ++ "<lambda>") (tabs : LamX.Tabs T H) (mem : (P, nm) ∈ T) (uniq : ∀ p ∈ T, p.1 = P → p.2 = nm) (nod : defaultsOf ps X.env = ([], []))
    (clo : ∀ y ∈ sc.names, y.2 = .free → ∃ c, X.env.cells.lookup y.1 = some c)
    (go : ∀ (f k : Addr) (v w : Value) (G : Hp) (z : Shared), Inv X pins σ G z → LamX.Tabs T G → LamH H P nm G → z.heap.get? f = some (PySem.W.kla_obj "<lambda>" nm ps bd sc (cloFrom X.env.cells sc.names []) v k w) → G f = none → f ∉ frs X.stack → G k = some (LamX.CodeO k nm) → Q (.ref f) z) :
    wpAny (model X.prog X.w) X.A (eval (.Lambda ps bd sc at_) X.env) Q E s := by
  subst en
  obtain ⟨t0, hP, trip, named⟩ := tabs _ mem
  have built := B.bm.keeps I.bk
  have held : s.heap.get? P = some { cls := .none, data := .fields t0 } := I.hok P _ hP
  have away : ∀ z, s.heap.objs.size ≤ z → z ∉ frs X.stack := fun z hz inn => by
    rcases List.mem_cons.mp (I.stkSub _ inn) with e | e
    · have lt := I.lt
      rw [← e] at lt
      exact Nat.lt_irrefl _ (Nat.lt_of_lt_of_le lt hz)
    · exact I.nofs hz e
  apply PySem.W.kla_eval nod
  rcases found : codeAmong at_ t0.toList with _ | cv
  · apply PySem.W.kla_makeFunction (mg := X.mg) (closure_ok clo) I.ok.glob (I.mod.glob.keeps I.bk) code (B.code.keeps I.bk) held trip found B.gP built
    intro k w h2 tk far lo hi rec2 tab2
    obtain ⟨k2, o2, v2, n2, ek, get2, dat2, str2⟩ := rec2
    cases ek
    have free : H k = none := I.hok.fresh lo
    let G := upd (upd H P (.tbl (t0 ++ #[rawInt at_.line, rawInt at_.col, .ref k]))) k (LamX.CodeO k (X.env.qual ++ "<lambda>"))
    let fn := PySem.W.kla_obj "<lambda>" (X.env.qual ++ "<lambda>") ps bd sc (cloFrom X.env.cells sc.names []) ((X.mg "__name__").getD .none) k w
    have J : Inv X pins σ G { s with heap := h2.push fn, toks := tk } := LamX.inv_table I hP (fun b o ne e => Heap.get?_push_of_some _ (far b o ne e)) (Heap.get?_push_of_some _ tab2) lo ⟨o2, v2, n2, Heap.get?_push_of_some _ get2, dat2, str2⟩
    have kP : k ≠ P := fun e => by rw [e, hP] at free; cases free
    have others : ∀ b v, b ≠ P → H b = some v → G b = some v := fun b v ne e => by
      show upd (upd H P _) k _ b = _
      rw [upd_ne (ne_of_none e free), upd_ne ne]
      exact e
    have codes : ∀ b q, H b = some (LamX.CodeO b q) → G b = some (LamX.CodeO b q) := fun b q e => others b _ (fun z => by rw [z, hP] at e; exact LamX.codeO_ne t0 (Option.some.inj e).symm) e
    have tabs2 : LamX.Tabs T G := fun p hp => by
      by_cases ep : p.1 = P
      · have e2 := uniq p hp ep
        rw [ep, e2]
        refine ⟨t0 ++ #[rawInt at_.line, rawInt at_.col, .ref k], by show upd (upd H P _) k _ P = _; rw [upd_ne (Ne.symm kP), upd_same], ?_, fun p' u hu => ?_⟩
        · rw [Array.toList_append]
          exact PySem.TriplesOk_snoc _ _ _ _ trip
        · rw [Array.toList_append] at hu
          rcases LamX.among_app _ trip hu with old | new
          · obtain ⟨b, e3, e4⟩ := named p' u old
            exact ⟨b, e3, codes b _ e4⟩
          · exact ⟨k, new, upd_same⟩
      · obtain ⟨u0, a, b, c⟩ := tabs p hp
        refine ⟨u0, others _ _ ep a, b, fun p' u hu => ?_⟩
        obtain ⟨b', e3, e4⟩ := c p' u hu
        exact ⟨b', e3, codes b' _ e4⟩
    have big : s.heap.objs.size ≤ h2.objs.size := by omega
    have top : G h2.objs.size = none := by
      have n1 : h2.objs.size ≠ k := by omega
      have n2 : h2.objs.size ≠ P := fun e => by
        rw [e] at big
        exact Nat.lt_irrefl _ (Nat.lt_of_lt_of_le (Heap.lt_size held) big)
      show upd (upd H P _) k _ h2.objs.size = none
      rw [upd_ne n1, upd_ne n2]
      exact I.hok.fresh big
    exact go h2.objs.size k _ w G _ J tabs2 (.inr ⟨t0, _, k, hP, free, rfl⟩) (Heap.get?_push_size _ rfl) top (away _ big) upd_same
  · obtain ⟨k, rfl, isCode⟩ := named at_ cv found
    apply PySem.W.kla_makeFunctionHit (mg := X.mg) (closure_ok clo) I.ok.glob (I.mod.glob.keeps I.bk) code (B.code.keeps I.bk) held trip found built
    intro w h2 tk same big
    exact go h2.objs.size k _ w H _ (I.kept fun b o e => Heap.get?_push_of_some _ (same b o e)) tabs (.inl rfl) (Heap.get?_push_size _ rfl) (I.hok.fresh big) (away _ big) isCode
/-- what is asked where a lambda is handed over: TT what the def makes of its reading -/
def tLamS (T : List (Addr × Str)) (P : Addr) (nm : Str) (TT : (XK → Hp → VK → Prop) → Hp → VK → Prop) (t : XK → TE) : TE := fun σ H Q => LamX.Tabs T H ∧ ∀ G, LamH H P nm G → LamX.Tabs T G → TT (fun E H' Q' => t E σ H' Q') G Q
theorem pe_lamS {T : List (Addr × Str)} {TT : (XK → Hp → VK → Prop) → Hp → VK → Prop} {x a nm : Str} {g C P : Addr} {k : Nat} {pg : Arguments} {bg : List Stmt} {sg : Scope} {fd : FuncData} {dvs : List V} {kws : List (Str × V)} {Ng : List Str} {ps : Arguments} {bd : Expr} {sc : Scope} {t : XK → TE} {p1 p2 p3 : Pos}
    (glob : Gl X x) (there : X.mg x = some (.ref g)) (F : FunD X.K x x pg bg sg dvs kws g fd) (binds : L2.Binds X.K fd [a] []) (S : FnScope Ng [a] sg) (slot : Ng[0]? = some a) (vis : Vis sg a) (gives : ∀ cd, LamX.GivesTo X Ng x sg g cd bg a nm TT)
    (B : LamX.TabB X.base X.mg C P) (code : X.env.code = .ref C) (en : nm = X.env.qual ++ "<lambda>") (mem : (P, nm) ∈ T) (uniq : ∀ p ∈ T, p.1 = P → p.2 = nm) (room : Room (k + 2) X.A) (L : LamX.LamS X.env.scope sc) (nod : defaultsOf ps X.env = ([], []))
    (bnd : ∀ (q : Str) (cl : List (Str × Addr)) (u v w : Value), bindArgs (PySem.W.kla_fn "<lambda>" q ps bd sc cl u v w) ⟨[], []⟩ = pure [])
    (body : ∀ (A : Around) (outer : List Env) (s : Shared) (H : Hp) (E : XK) (f c : Addr), Room k (A.deeper (LamX.lamEnv X sc s.heap.objs.size f c)) → PE (LamX.lamCx X A outer s H E sc f c) bd (t E))
    (d1 : (x == ("__debug__" : Str)) = false) (d2 : (a == ("__debug__" : Str)) = false) (d3 : (a == ("__classdict__" : Str)) = false) : PE X (.Call (.Name x p1) [.Lambda ps bd sc p2] [] p3) (tLamS T P nm TT t) := by
  obtain ⟨oc, od, dV, kV, doc, pm, an, cdv, ct, osl, rfl, look, codeIn, _, _⟩ := F.ex
  constructor
  intro pins s σ H Q I want
  obtain ⟨tabs, want⟩ := want
  refine wpAny_Call_Name_kw (ld_glob I glob there ?_ d1)
  refine PySem.W.callWith_K (h₀ := X.base) I.ok.mod.kin F.kp ?_ (by rfl) (by rfl)
  show wpAny _ _ (spliced ((false, eval (.Lambda ps bd sc p2) X.env) :: backTo p3 (starEach [] X.env))) _ _ s
  apply Calls.spliced_cons
  apply lam_made I B code en tabs mem uniq nod (L.has I.ok)
  intro f c u w G z J tabs2 lam isF fn out isC
  refine Calls.spliced_nil ⟨J.kIn, ?_⟩
  subst en
  have ran : codeAny (model X.prog X.w) X.A (.call (.ref g) ⟨[.ref f], []⟩) (CR C8.CX0 X.stack X.prog X.w G z Q C8.E0) z := by
    apply LamX.run_ofS (N := Ng) (ps := [a]) (us := [.ref f]) (vs := [.ref f]) look codeIn S room J.env0 (binds z [.ref f] J.kIn rfl) (.cons rfl .nil) rfl
    intro room2
    obtain ⟨t', h1, h2⟩ := gives cdv f c z G Q (fun E H' Q' => t E σ H' Q') (fun W pn xe E q1 q2 tk imp => LamX.pe_act (i := 0) J L isF fn out (bnd _ _ _ _ _) tk imp room2 (fun A outer s H r3 => body A outer s H E f c r3) slot vis d2 d3) isC (want G lam tabs2)
    exact ⟨t', h1.nox, h2⟩
  refine wpAny_call (codeAny_mono ran fun r s2 hq => ?_)
  rcases r with e | fl
  · exact (show False from hq).elim
  · cases fl with
    | ret u => exact J.after hq
    | next => exact hq.elim
    | brk => exact hq.elim
    | cont => exact hq.elim
end
end Mi

set_option Elab.async false
set_option linter.all false
set_option maxRecDepth 100000
set_option maxHeartbeats 4000000
/-! Ma29: values as data: ints, texts, tuples of such, nested; how two compare. -/
noncomputable section
namespace Mi
open PySem PySem.Spec PyProof.Rows L2
/-- a value as data -/
def datW : Nat → W → Option PyData
  | 0, _ => none
  | n + 1, w => match w with
    | .int i => some (.int i)
    | .str s => some (.str s)
    | .tup ws => (mapO (datW n) ws).map .tuple
    | _ => none
/-- a < b, for alike values -/
def ltW (a b : W) : Option Bool := match datW 20 a, datW 20 b with
  | some x, some y => if PySem.W.alike x y = true then some (PySem.W.dataLt x y) else none
  | _, _ => none
theorem datW_none : ∀ {n : Nat} {w : W} {d : PyData}, datW n w = some d → d ≠ .none
  | 0, _, _, e => by cases e
  | n + 1, w, d, e => by
    unfold datW at e
    split at e
    · cases e; intro z; cases z
    · cases e; intro z; cases z
    · rename_i ws
      cases h : mapO (datW n) ws with
      | none => rw [h] at e; cases e
      | some ds => rw [h] at e; cases e; intro z; cases z
    · cases e
theorem datWs_depth {n : Nat} (ih : ∀ (w : W) (d : PyData), datW n w = some d → d.depth ≤ n) : ∀ {ws : List W} {ds : List PyData}, mapO (datW n) ws = some ds → PyData.depthAll ds ≤ n
  | [], ds, e => by
    cases e
    simp [PyData.depthAll]
  | w :: ws, ds, e => by
    obtain ⟨d, es, h1, h2, rfl⟩ := mapO_cons e
    have a := ih _ _ h1
    have b := datWs_depth ih h2
    rw [PyData.depthAll]
    omega
theorem datW_depth : ∀ {n : Nat} (w : W) (d : PyData), datW n w = some d → d.depth ≤ n
  | 0, _, _, e => by cases e
  | n + 1, w, d, e => by
    unfold datW at e
    split at e
    · cases e; simp [PyData.depth]
    · cases e; simp [PyData.depth]
    · rename_i ws
      cases h : mapO (datW n) ws with
      | none => rw [h] at e; cases e
      | some ds =>
        rw [h] at e
        cases e
        have := datWs_depth (fun w d => datW_depth w d) h
        show PyData.depth (.tuple ds) ≤ n + 1
        rw [PyData.depth]
        omega
    · cases e
section
variable [Gam] {X : Cx} {pins : List (Addr × Obj)} {σ : L2.St} {H B : Hp} {s : Shared}
theorem datWs_reads {n : Nat} {ρ : List Addr} (ih : ∀ (w : W) (d : PyData) (v : V) (u : Value), datW n w = some d → Rep X.K B ρ v w → RelV v u → Reads s.heap u d []) : ∀ {ws : List W} {ds : List PyData} {vs : List V} {us : List Value}, mapO (datW n) ws = some ds → RepL X.K B ρ vs ws → Vals vs us → ReadsAll s.heap us ds []
  | [], ds, vs, us, e, r, q => by
    cases e
    cases r
    cases q
    exact .nil
  | w :: ws, ds, vs, us, e, r, q => by
    obtain ⟨d, es, h1, h2, rfl⟩ := mapO_cons e
    cases r with
    | cons r1 r2 =>
      cases q with
      | cons q1 q2 =>
        exact (ReadsAll.cons (ih _ _ _ _ h1 r1 q1) (datWs_reads ih h2 r2 q2) : ReadsAll s.heap _ _ ([] ++ []))
/-- what a value stands for reads as its data -/
theorem datW_reads (I : Inv X pins σ H s) (sm : Same B H) {ρ : List Addr} : ∀ {n : Nat} (w : W) (d : PyData) (v : V) (u : Value), datW n w = some d → Rep X.K B ρ v w → RelV v u → Reads s.heap u d []
  | 0, _, _, _, _, e, _, _ => by cases e
  | n + 1, w, d, v, u, e, r, q => by
    unfold datW at e
    split at e
    · cases e
      cases r
      obtain ⟨t, rfl⟩ := q
      exact .int _ t
    · cases e
      cases r
      obtain ⟨t, rfl⟩ := q
      exact .str _ t
    · rename_i ws
      cases h : mapO (datW n) ws with
      | none => rw [h] at e; cases e
      | some ds =>
        rw [h] at e
        cases e
        cases r with
        | @tup a xs _ hs rr =>
          obtain rfl : u = Value.ref a := q
          obtain ⟨its, rv, ⟨o, ho, hc, m, hd⟩, _⟩ := I.tuple (Same.tup sm hs)
          exact .tuple ho hc hd (datWs_reads (fun w d v u => datW_reads I sm w d v u) h rr rv)
    · cases e
/-- a < b answers ltW -/
theorem ltW_rc (I : Inv X pins σ H s) (sm : Same B H) {A : Around} {ρ ρ' : List Addr} {B' : Hp} (sm' : Same B' H) {a b : W} {x y : V} {u v : Value} {c : Bool} (hu : A.units + 20 < cLine) (e : ltW a b = some c) (ra : Rep X.K B ρ x a) (rb : Rep X.K B' ρ' y b) (ru : RelV x u) (rv : RelV y v)
    {P : Program} {w : World} {E : Value → Shared → Prop} {Q : Value → Shared → Prop} (q : Q (.bool c) s) : wpAny (model P w) A (richCompare .Lt u v) Q E s := by
  unfold ltW at e
  split at e
  · rename_i d1 d2 h1 h2
    split at e
    · rename_i al
      cases e
      have r1 := datW_reads I sm _ _ _ _ h1 ra ru
      have r2 := datW_reads I sm' _ _ _ _ h2 rb rv
      have k1 := datW_depth _ _ h1
      exact PySem.W.rcLt_alike d1 d2 A s u v [] [] r1 r2 al (datW_none h1) (by omega) P w E Q q
    · cases e
  · cases e
end
end Mi

set_option Elab.async false
set_option linter.all false
set_option maxRecDepth 100000
set_option maxHeartbeats 4000000
/-! Mi2: the evaluator's operations on values. -/
noncomputable section
namespace Mi
open PySem PySem.Spec PyProof.Rows L2

/-! ### flat values -/
def toV : W → Option V
  | .non => some .non
  | .bl b => some (.bl b)
  | .int i => some (.int i)
  | .str s => some (.str s)
  | _ => none
/-- fast sameness of texts -/
def eqN : List Nat → List Nat → Bool
  | [], [] => true
  | a :: as, b :: bs => match Nat.beq a b with
    | true => eqN as bs
    | false => false
  | _, _ => false
theorem eqN_iff : ∀ {a b : List Nat}, eqN a b = true ↔ a = b
  | [], [] => ⟨fun _ => rfl, fun _ => rfl⟩
  | [], _ :: _ => ⟨fun h => (nomatch h), fun h => (nomatch h)⟩
  | _ :: _, [] => ⟨fun h => (nomatch h), fun h => (nomatch h)⟩
  | a :: as, b :: bs => by
    unfold eqN
    split
    · rename_i h
      rw [Nat.eq_of_beq_eq_true h, eqN_iff]
      simp
    · rename_i h
      have := Nat.ne_of_beq_eq_false h
      simp [this]
def eqStr (a b : Str) : Bool := eqN a.cps.toList b.cps.toList
theorem eqStr_iff {a b : Str} : eqStr a b = true ↔ a = b := by
  unfold eqStr
  rw [eqN_iff]
  constructor
  · intro h
    obtain ⟨x⟩ := a
    obtain ⟨y⟩ := b
    congr 1
    exact Array.ext' h
  · intro h
    rw [h]
theorem eqStr_beq (a b : Str) : (a == b) = eqStr a b := by
  cases q : eqStr a b with
  | true => rw [eqStr_iff.mp q]; exact beq_self_eq_true b
  | false => exact beq_eq_false_iff_ne.mpr fun e => by rw [eqStr_iff.mpr e] at q; cases q
theorem eqStr_dec (a b : Str) : decide (a = b) = eqStr a b := by
  cases q : eqStr a b with
  | true => exact decide_eq_true (eqStr_iff.mp q)
  | false => exact decide_eq_false fun e => by rw [eqStr_iff.mpr e] at q; cases q
/-- is a sign in a text? -/
def hasN (c : Nat) : List Nat → Bool
  | [] => false
  | a :: as => match Nat.beq c a with
    | true => true
    | false => hasN c as
theorem hasN_dec (c : Nat) : ∀ l : List Nat, decide (c ∈ l) = hasN c l
  | [] => rfl
  | a :: as => by
    unfold hasN
    split
    · rename_i h
      exact decide_eq_true (by rw [Nat.eq_of_beq_eq_true h]; exact List.mem_cons_self ..)
    · rename_i h
      rw [← hasN_dec c as]
      have := Nat.ne_of_beq_eq_false h
      simp [this]
def eqW : W → W → Bool
  | .non, .non => true
  | .bl a, .bl b => a == b
  | .bl a, .int b => (if a then 1 else 0) == b
  | .int a, .bl b => a == (if b then 1 else 0)
  | .int a, .int b => a == b
  | .str a, .str b => eqStr a b
  | _, _ => false
def inW (x : W) (xs : List W) : Bool := xs.any fun y => eqW y x

section
variable [Gam] {K : PySem.W.Frag} {B H : Hp} {ρ : List Addr}
theorem Rep.flat {v : V} {w : W} (r : Rep K B ρ v w) (h : flatW w = true) : flatV v = true ∧ toV w = some v := by
  cases r with
  | non => exact ⟨rfl, rfl⟩
  | bl b => exact ⟨rfl, rfl⟩
  | int b => exact ⟨rfl, rfl⟩
  | str b => exact ⟨rfl, rfl⟩
  | tup _ _ => cases h
  | lst _ _ => cases h
  | frl _ _ _ => cases h
  | ref _ => cases h
  | obj _ _ _ _ => cases h
  | dct _ _ _ => cases h
theorem eqW_V {v v' : V} {w w' : W} (r : Rep K B ρ v w) (r' : Rep K B ρ v' w') (h : flatW w = true) (h' : flatW w' = true) : eqV v v' = eqW w w' := by
  cases r <;> first | (cases h; done) | (cases r' <;> first | (cases h'; done) | rfl | exact eqStr_beq _ _)
theorem RepL.flat : ∀ {vs : List V} {ws : List W}, RepL K B ρ vs ws → ws.all flatW = true → vs.all flatV = true
  | _, _, .nil, _ => rfl
  | _, _, .cons r t, h => by
    rw [List.all_cons, Bool.and_eq_true] at h ⊢
    exact ⟨(r.flat h.1).1, RepL.flat t h.2⟩
theorem RepL.flatAny {B' : Hp} {ρ' : List Addr} : ∀ {vs : List V} {ws : List W}, RepL K B ρ vs ws → ws.all flatW = true → RepL K B' ρ' vs ws
  | _, _, .nil, _ => .nil
  | _, _, .cons r t, h => by
    rw [List.all_cons, Bool.and_eq_true] at h
    refine .cons ?_ (RepL.flatAny t h.2)
    have q := h.1
    cases r <;> first | (cases q; done) | constructor
theorem inW_V {v : V} {w : W} (r : Rep K B ρ v w) (h : flatW w = true) : ∀ {vs : List V} {ws : List W}, RepL K B ρ vs ws → ws.all flatW = true → inV v vs = inW w ws
  | _, _, .nil, _ => rfl
  | _, _, .cons q t, hs => by
    rw [List.all_cons, Bool.and_eq_true] at hs
    have ih := inW_V r h t hs.2
    unfold inV inW at ih ⊢
    rw [List.any_cons, List.any_cons, ih, eqW_V q r hs.1 h]
end

/-! ### data -/
mutual
def toD : W → Option PyData
  | .non => some .none
  | .bl b => some (.bool b)
  | .int i => some (.int i)
  | .str s => some (.str s)
  | .tup xs => (toDs xs).map PyData.tuple
  | .lst xs => (toDs xs).map PyData.list
  | .frl xs => (toDs xs).map PyData.list
  | .ref _ => none
  | .obj _ _ => none
  | .dct _ => none
def toDs : List W → Option (List PyData)
  | [] => some []
  | x :: r => match toD x, toDs r with
    | some d, some ds => some (d :: ds)
    | _, _ => none
end
section
variable [Gam] {K : PySem.W.Frag} {B H : Hp} {ρ : List Addr}
mutual
theorem Rep.dp (s : Same B H) : ∀ {v : V} {w : W} {d : PyData}, Rep K B ρ v w → toD w = some d → Dp K H v d
  | _, _, _, .non, e => by cases e; exact .non
  | _, _, _, .bl b, e => by cases e; exact .bl b
  | _, _, _, .int b, e => by cases e; exact .int b
  | _, _, _, .str b, e => by cases e; exact .str b
  | _, .tup ws, d, .tup h r, e => by
    rw [toD] at e
    cases q : toDs ws with
    | none => rw [q] at e; cases e
    | some ds =>
      rw [q] at e
      cases e
      exact .tup (Same.tup s h) (RepL.dp s r q)
  | _, .lst ws, d, .lst h r, e => by
    rw [toD] at e
    cases q : toDs ws with
    | none => rw [q] at e; cases e
    | some ds =>
      rw [q] at e
      cases e
      exact .lst (SqL.of (s _ _ h)) (RepL.dp s r q)
  | _, .frl ws, d, .frl h r _, e => by
    rw [toD] at e
    cases q : toDs ws with
    | none => rw [q] at e; cases e
    | some ds =>
      rw [q] at e
      cases e
      exact .lst (s.seq h) (RepL.dp s r q)
  | _, .ref n, d, .ref h, e => by rw [toD] at e; cases e
  | _, .obj _ _, d, .obj _ _ _ _, e => by rw [toD] at e; cases e
  | _, .dct _, d, .dct _ _ _, e => by rw [toD] at e; cases e
theorem RepL.dp (s : Same B H) : ∀ {vs : List V} {ws : List W} {ds : List PyData}, RepL K B ρ vs ws → toDs ws = some ds → DpAll K H vs ds
  | _, [], _, .nil, e => by
    rw [toDs] at e
    cases e
    exact .nil
  | _, w :: ws, ds, .cons h r, e => by
    rw [toDs] at e
    cases q1 : toD w with
    | none => rw [q1] at e; cases e
    | some d =>
      cases q2 : toDs ws with
      | none => rw [q1, q2] at e; cases e
      | some ds' =>
        rw [q1, q2] at e
        cases e
        exact .cons (Rep.dp s h q1) (RepL.dp s r q2)
end
end

/-! ### reading cells -/
def rd (S : Sto) : W → W
  | .ref n => match S[n]? with
    | some (.lst ws) => .lst ws
    | _ => .ref n
  | w => w
/-- the items of a list -/
def seqL (S : Sto) : W → Option (List W)
  | .lst ws => some ws
  | .frl ws => some ws
  | .ref n => match S[n]? with
    | some (.lst ws) => some ws
    | _ => none
  | _ => none
def seqT : W → Option (List W)
  | .tup ws => some ws
  | _ => none
section
variable [Gam] {K : PySem.W.Frag} {B H : Hp} {ρ : List Addr} {S : Sto}
theorem seqL_ok (s : SR K ρ S B H) {v : V} {w : W} {ws : List W} (r : Rep K B ρ v w) (e : seqL S w = some ws) : ∃ a xs, v = .ref a ∧ SqL K H a xs ∧ RepL K B ρ xs ws := by
  cases r with
  | lst h q => cases e; exact ⟨_, _, rfl, SqL.of (s.same _ _ h), q⟩
  | frl h q _ => cases e; exact ⟨_, _, rfl, s.same.seq h, q⟩
  | @ref n a h =>
    unfold seqL at e
    cases q : S[n]? with
    | none => simp only [q] at e; cases e
    | some o =>
      simp only [q] at e
      cases o with
      | lst zs =>
        cases e
        obtain ⟨u, hu, ro⟩ := s.at h q
        cases ro with
        | lst rr => exact ⟨_, _, rfl, SqL.of hu, rr⟩
      | _ => cases e
  | _ => cases e
theorem seqT_ok (s : SR K ρ S B H) {v : V} {w : W} {ws : List W} (r : Rep K B ρ v w) (e : seqT w = some ws) : ∃ a xs, v = .ref a ∧ SqT K H a xs ∧ RepL K B ρ xs ws := by
  cases r with
  | tup h q => cases e; exact ⟨_, _, rfl, Same.tup s.same h, q⟩
  | _ => cases e
/-- the data of a value, a cell's too -/
def datS (S : Sto) : W → Option PyData
  | .ref n => match S[n]? with
    | some (.lst ws) => (toDs ws).map PyData.list
    | _ => none
  | w => toD w
theorem datS_ok (s : SR K ρ S B H) {v : V} {w : W} {d : PyData} (r : Rep K B ρ v w) (e : datS S w = some d) : Dp K H v d := by
  cases r with
  | @ref n a h =>
    unfold datS at e
    cases q : S[n]? with
    | none => simp only [q] at e; cases e
    | some o =>
      simp only [q] at e
      cases o with
      | lst zs =>
        cases q2 : toDs zs with
        | none => simp only [q2] at e; cases e
        | some ds =>
          simp only [q2] at e
          cases e
          obtain ⟨u, hu, ro⟩ := s.at h q
          cases ro with
          | lst rr => exact .lst (SqL.of hu) (RepL.dp s.same rr q2)
      | _ => simp only [q] at e; cases e
  | non => exact Rep.dp (ρ := ρ) s.same (.non) e
  | bl b => exact Rep.dp (ρ := ρ) s.same (.bl b) e
  | int b => exact Rep.dp (ρ := ρ) s.same (.int b) e
  | str b => exact Rep.dp (ρ := ρ) s.same (.str b) e
  | tup h q => exact Rep.dp s.same (.tup h q) e
  | lst h q => exact Rep.dp s.same (.lst h q) e
  | frl h q f => exact Rep.dp s.same (.frl h q f) e
  | obj _ _ _ _ => exact nomatch e
  | dct _ _ _ => exact nomatch e
end

/-! ### dicts -/
def seqD (S : Sto) : W → Option (List (Key × W))
  | .dct ks => some ks
  | .ref n => match S[n]? with
    | some (.dct ks) => some ks
    | some (.imd ks) => some ks
    | some (.lck ks) => some ks
    | _ => none
  | _ => none
def keyW : W → Option Key
  | .int i => some (.inl i)
  | .str s => some (.inr s)
  | _ => none
def findK {β : Type} (ks : List (Key × β)) (k : Key) : Option β := (ks.find? fun kv => decide (kv.1 = k)).map (·.2)
def storeK {β : Type} (ks : List (Key × β)) (k : Key) (v : β) : List (Key × β) := if (ks.any fun kv => decide (kv.1 = k)) = true then ks.map (fun kv => if kv.1 = k then (kv.1, v) else kv) else ks ++ [(k, v)]
section
variable [Gam] {K : PySem.W.Frag} {B H : Hp} {ρ : List Addr} {S : Sto}
theorem seqD_ok (s : SR K ρ S B H) {v : V} {w : W} {ks : List (Key × W)} (r : Rep K B ρ v w) (e : seqD S w = some ks) : ∃ a kv, v = .ref a ∧ L2.Rd H a (.dK kv) ∧ kv.map Prod.fst = ks.map Prod.fst ∧ RepL K B ρ (kv.map Prod.snd) (ks.map Prod.snd) := by
  cases r with
  | dct h e0 rr => cases e; exact ⟨_, _, rfl, Same.rd s.same h, e0, rr⟩
  | @ref n a h =>
    unfold seqD at e
    cases q : S[n]? with
    | none => simp only [q] at e; cases e
    | some o =>
      simp only [q] at e
      cases o with
      | dct ks' =>
        cases e
        obtain ⟨u, hu, ro⟩ := s.at h q
        cases ro with
        | dct e0 rr => exact ⟨_, _, rfl, .inl hu, e0, rr⟩
      | imd ks' =>
        cases e
        obtain ⟨kv, h1, e0, rr⟩ := s.cell n a _ h q
        exact ⟨a, kv, rfl, Same.rd s.same h1, e0, rr⟩
      | lck ks' =>
        cases e
        obtain ⟨_, o, kv, h1, e0, rr⟩ := s.cell n a _ h q
        exact ⟨a, kv, rfl, .inr ⟨o, h1⟩, e0, rr⟩
      | _ => cases e
  | _ => cases e
theorem keyW_ok {v : V} {w : W} {k : Key} (r : Rep K B ρ v w) (e : keyW w = some k) : v = kV k := by
  cases r with
  | int i => cases e; rfl
  | str i => cases e; rfl
  | _ => cases e
theorem find_ok {k : Key} : ∀ {kv : List (Key × V)} {ks : List (Key × W)}, kv.map Prod.fst = ks.map Prod.fst → RepL K B ρ (kv.map Prod.snd) (ks.map Prod.snd) →
    (∀ w, findK ks k = some w → ∃ v, valV kv k = some v ∧ Rep K B ρ v w) ∧ (valV kv k).isSome = (findK ks k).isSome
  | [], [], _, _ => ⟨fun w h => by (cases h), rfl⟩
  | [], _ :: _, e, _ => by cases e
  | _ :: _, [], e, _ => by cases e
  | (x, v) :: kv, (y, w) :: ks, e, r => by
    injection e with e1 e2
    have e1 : x = y := e1
    subst e1
    cases r with
    | cons r1 r2 =>
      obtain ⟨h1, h2⟩ := find_ok (k := k) e2 r2
      unfold findK valV at h1 h2 ⊢
      rw [List.find?_cons, List.find?_cons]
      by_cases h : x = k
      · simp only [h, decide_true]
        exact ⟨fun w' hw => by cases hw; exact ⟨v, rfl, r1⟩, rfl⟩
      · simp only [h, decide_false]
        exact ⟨h1, h2⟩
end

/-! ### the operations, semantically -/
def opW (X : Cx) (f : Value → Value → Sem Value) : R2 := fun x y H Q => ∀ pins s σ v u, Inv X pins σ H s → RelV x v → RelV y u → wpAny (model X.prog X.w) X.A (f v u) (EP X pins σ Q) X.xe s
theorem opW_r {X : Cx} {f : Value → Value → Sem Value} : OpR X f (opW X f) := fun pins s σ H x y v u Q I rx ry h => h pins s σ v u I rx ry
theorem opW_of {X : Cx} {f : Value → Value → Sem Value} {r : R2} (h : OpR X f r) {x y : V} {H : Hp} {Q : VK} (q : r x y H Q) : opW X f x y H Q := fun pins s σ v u I rx ry => h pins s σ H x y v u Q I rx ry q
def unW (X : Cx) (f : Value → Sem Value) : V → Hp → VK → Prop := fun x H Q => ∀ pins s σ v, Inv X pins σ H s → RelV x v → wpAny (model X.prog X.w) X.A (f v) (EP X pins σ Q) X.xe s
theorem unW_r {X : Cx} {f : Value → Sem Value} : UnR X f (unW X f) := fun pins s σ H x v Q I rx h => h pins s σ v I rx
theorem unW_of {X : Cx} {f : Value → Sem Value} {r : V → Hp → VK → Prop} (h : UnR X f r) {x : V} {H : Hp} {Q : VK} (q : r x H Q) : unW X f x H Q := fun pins s σ v I rx => h pins s σ H x v Q I rx q
def callW (X : Cx) (f : Value) : List V → Hp → VK → Prop := fun xs H Q => ∀ pins s σ us, Inv X pins σ H s → Vals xs us → wpAny (model X.prog X.w) X.A (call f us) (EP X pins σ Q) X.xe s
theorem callW_r {X : Cx} {f : Value} : CallR X f (callW X f) := fun pins s σ H xs us Q I r h => h pins s σ us I r
theorem callW_of {X : Cx} {f : Value} {r : List V → Hp → VK → Prop} (h : CallR X f r) {xs : List V} {H : Hp} {Q : VK} (q : r xs H Q) : callW X f xs H Q := fun pins s σ us I rx => h pins s σ H xs us Q I rx q
def ixW (X : Cx) : R2 := fun x y H Q => ∀ value slice pins s σ v u, Inv X pins σ H s → RelV x v → RelV y u → subscripted slice false v u = operate [v, u] (getItem v u) → wpAny (model X.prog X.w) X.A (subscriptTail value slice v u) (EP X pins σ Q) X.xe s
theorem ixW_r {X : Cx} : IxR X (ixW X) := fun value slice pins s σ H x y v u Q I rx ry h hs => h value slice pins s σ v u I rx ry hs
theorem ixW_of {X : Cx} {r : R2} (h : IxR X r) {x y : V} {H : Hp} {Q : VK} (q : r x y H Q) : ixW X x y H Q := fun value slice pins s σ v u I rx ry hs => h value slice pins s σ H x y v u Q I rx ry q hs

/-- what is asked of a value that comes back -/
def Val [Gam] (K : PySem.W.Frag) (w : W) (S : Sto) (Q : VK) (ρ : List Addr) (B H : Hp) : Prop := ∀ ρ' B' H' v, Ext ρ B H ρ' B' H' → SR K ρ' S B' H' → Rep K B' ρ' v w → Q v H'
section
variable [Gam] {K : PySem.W.Frag} {B H : Hp} {ρ : List Addr} {S : Sto} {Q : VK}
theorem Val.here {v : V} {w : W} (k : Val K w S Q ρ B H) (s : SR K ρ S B H) (r : Rep K B ρ v w) : Q v H := k _ _ _ _ Ext.refl s r
theorem Val.newL {ws : List W} {xs : List V} {p : Addr} (k : Val K (.lst ws) S Q ρ B H) (s : SR K ρ S B H) (r : RepL K B ρ xs ws) (h : H p = none) : Q (.ref p) (upd H p (.lst xs)) :=
  k _ _ _ _ (Ext.fresh s.same h) (s.fresh h) (.lst upd_same (r.mono (fun c u q => by rw [upd_ne (ne_of_none q (s.same.free h))]; exact q) ⟨[], by simp⟩))
theorem Val.newT {ws : List W} {xs : List V} {p : Addr} (k : Val K (.tup ws) S Q ρ B H) (s : SR K ρ S B H) (r : RepL K B ρ xs ws) (h : H p = none) : Q (.ref p) (upd H p (.tup xs)) :=
  k _ _ _ _ (Ext.fresh s.same h) (s.fresh h) (.tup (SqT.of upd_same) (r.mono (fun c u q => by rw [upd_ne (ne_of_none q (s.same.free h))]; exact q) ⟨[], by simp⟩))
end

/-! ### binary operators -/
def small (n : Nat) : Bool := decide (n ≤ 100000)
theorem small_line {n : Nat} (h : small n = true) : n ≤ sizeLine := Nat.le_trans (of_decide_eq_true h) (by decide)
theorem small_lt {n : Nat} (h : small (n + 1) = true) : n < sizeLine := Nat.lt_of_lt_of_le (Nat.lt_of_succ_le (of_decide_eq_true h)) (by decide)
/-- a list of one's own: a cell's, or one that is never changed -/
def lstE (S : Sto) : W → Option (List W)
  | .lst ws => some ws
  | .ref n => (match S[n]? with
    | some (.lst ws) => some ws
    | _ => none)
  | _ => none
theorem lstE_ok [Gam] {K : PySem.W.Frag} {ρ : List Addr} {S : Sto} {B H : Hp} {v : V} {w : W} {ws : List W} (s : SR K ρ S B H) (r : Rep K B ρ v w) (e : lstE S w = some ws) : ∃ a xs, v = .ref a ∧ H a = some (.lst xs) ∧ RepL K B ρ xs ws := by
  cases r with
  | lst h q => cases e; exact ⟨_, _, rfl, s.same _ _ h, q⟩
  | @ref n a h =>
    have e' : (match S[n]? with
      | some (.lst ws) => some ws
      | _ => none) = some ws := e
    clear e
    split at e'
    · rename_i ws' q
      cases e'
      obtain ⟨u, hu, ro⟩ := s.at h q
      cases ro with
      | lst rr => exact ⟨_, _, rfl, hu, rr⟩
    · cases e'
  | _ => cases e
def binop (S : Sto) : Operator → W → W → Option W
  | .Add, .int a, .int b => some (.int (a + b))
  | .Sub, .int a, .int b => some (.int (a - b))
  | .Mult, .int a, .int b => if (-(2 ^ 64) < a ∧ a < 2 ^ 64) ∨ (-(2 ^ 64) < b ∧ b < 2 ^ 64) then some (.int (a * b)) else none
  | .Mod, .int a, .int b => if 0 < b then some (.int (a % b)) else none
  | .FloorDiv, .int a, .int b => if 0 < b ∧ b < 1073741824 then some (.int (a / b)) else none
  | .Pow, .int a, .int b => if 0 ≤ b ∧ b ≤ 1000000 ∧ a.natAbs < 2 ^ 64 then some (.int (a ^ b.toNat)) else none
  | .Mult, .str a, .int b => if 0 ≤ b ∧ b ≤ 1000 ∧ a.length ≤ 1000 then some (.str (PySem.Txt.mul a b)) else none
  | .Add, .str a, .str b => if small (a.length + b.length) then some (.str (appS a b)) else none
  | .Add, .tup a, .tup b => if small (a.length + b.length) then some (.tup (a ++ b)) else none
  | .Add, x, y => (match lstE S x, lstE S y with
    | some a, some b => if small (a.length + b.length) then some (.lst (a ++ b)) else none
    | _, _ => none)
  | _, _, _ => none
theorem binop_ok [Gam] {X : Cx} {op : Operator} {B H : Hp} {ρ : List Addr} {S : Sto} {Q : VK} {x y : V} {a b c : W} (s : SR X.K ρ S B H) (rx : Rep X.K B ρ x a) (ry : Rep X.K B ρ y b) (e : binop S op a b = some c) (k : Val X.K c S Q ρ B H) :
    opW X (binaryOp op) x y H Q := by
  unfold binop at e
  split at e
  · cases e; cases rx; cases ry
    exact opW_of op_add ⟨_, _, rfl, rfl, k.here s (.int _)⟩
  · cases e; cases rx; cases ry
    exact opW_of op_sub ⟨_, _, rfl, rfl, k.here s (.int _)⟩
  · split at e
    · rename_i hc
      cases e; cases rx; cases ry
      exact opW_of op_mul ⟨_, _, rfl, rfl, hc, k.here s (.int _)⟩
    · cases e
  · split at e
    · rename_i hc
      cases e; cases rx; cases ry
      exact opW_of op_mod ⟨_, _, rfl, rfl, hc, k.here s (.int _)⟩
    · cases e
  · split at e
    · rename_i hc
      cases e; cases rx; cases ry
      exact opW_of op_fdiv ⟨_, _, rfl, rfl, hc, k.here s (.int _)⟩
    · cases e
  · split at e
    · rename_i hc
      cases e; cases rx; cases ry
      exact opW_of op_pow ⟨_, _, rfl, rfl, hc, k.here s (.int _)⟩
    · cases e
  · split at e
    · rename_i hc
      cases e; cases rx; cases ry
      exact opW_of op_mulS ⟨_, _, rfl, rfl, hc, k.here s (.str _)⟩
    · cases e
  · split at e
    · rename_i hc
      cases e; cases rx; cases ry
      rw [appS_eq] at k
      exact opW_of op_add_str ⟨_, _, rfl, rfl, small_line hc, k.here s (.str _)⟩
    · cases e
  · split at e
    · rename_i hc
      cases e
      cases rx with
      | tup h1 r1 =>
        cases ry with
        | tup h2 r2 =>
          refine opW_of op_catA ⟨_, _, _, _, rfl, rfl, Same.tup s.same h1, Same.tup s.same h2, by rw [r1.length, r2.length]; exact small_line hc, fun e => ?_, fun _ e => ?_, fun _ _ p hp => k.newT s (r1.append r2) hp⟩
          · subst e
            cases r1
            exact k.here s (.tup h2 r2)
          · subst e
            cases r2
            rw [List.append_nil] at k
            exact k.here s (.tup h1 r1)
    · cases e
  · split at e
    · rename_i h1 h2
      split at e
      · rename_i hc
        cases e
        obtain ⟨a1, xs, rfl, k1, r1⟩ := lstE_ok s rx h1
        obtain ⟨a2, ys, rfl, k2, r2⟩ := lstE_ok s ry h2
        exact opW_of op_cat ⟨_, _, _, _, rfl, rfl, k1, k2, by rw [r1.length, r2.length]; exact small_line hc, fun p hp => k.newL s (r1.append r2) hp⟩
      · cases e
    · cases e
  · cases e

/-! ### comparisons -/
def scalW : W → W → Bool
  | .non, .non => true | .non, .int _ => true | .int _, .non => true | .non, .bl _ => true | .bl _, .non => true | .non, .str _ => true | .str _, .non => true
  | .int _, .int _ => true | .bl _, .bl _ => true | .str _, .str _ => true
  | .int _, .str _ => true | .str _, .int _ => true | .bl _, .str _ => true | .str _, .bl _ => true
  | _, _ => false
/-- x == y -/
def eqS0 (S : Sto) (x y : W) : Option Bool :=
  if scalW x y = true then some (eqW x y)
  else match datS S x, datS S y with
    | some d, some e => if SeqAt.shaped d = true ∧ SeqAt.shaped e = true then some (PyData.eqv d e) else none
    | _, _ => none
/-- two lists of different length -/
def eqLen (S : Sto) (x y : W) : Option Bool := match seqL S x, seqL S y with
  | some a, some b => if a.length = b.length then none else some false
  | _, _ => none
def eqS (S : Sto) (x y : W) : Option Bool := match seqD S x, seqD S y with
  | some a, some b => if a.length = b.length then (if a.length = 0 then some true else none) else some false
  | _, _ => (match eqS0 S x y with
    | some c => some c
    | none => eqLen S x y)
theorem scal_ok [Gam] {K : PySem.W.Frag} {B : Hp} {ρ : List Addr} {x y : V} {a b : W} (rx : Rep K B ρ x a) (ry : Rep K B ρ y b) (h : scalW a b = true) : scal x y = true ∧ decide (x = y) = eqW a b := by
  cases rx <;> cases ry <;> first
    | (cases h; done)
    | (refine ⟨rfl, ?_⟩; first | exact dec_int | exact dec_bl | exact dec_str.trans (eqStr_beq _ _) | exact decide_eq_false (fun z => nomatch z) | exact decide_eq_true rfl)
def signOf (s : Str) : Option Nat := match s.cps.toList with
  | [c] => some c
  | _ => none
theorem signOf_eq {s : Str} {c : Nat} (h : signOf s = some c) : s = ⟨#[c]⟩ := by
  unfold signOf at h
  split at h
  · rename_i d e
    cases h
    obtain ⟨cs⟩ := s
    have e' : cs.toList = [c] := e
    have : cs = #[c] := by
      apply Array.ext'
      rw [e']
    rw [this]
  · cases h
def inS0 (S : Sto) (x y : W) : Option Bool := match x, y with
  | .str a, .str z => (match signOf a with
    | some c => some (hasN c z.cps.toList)
    | none => some (txtHas z a))
  | _, _ => (match (seqL S y).orElse (fun _ => seqT y) with
    | some ws => if flatW x = true ∧ ws.all flatW = true then some (inW x ws) else (match datS S x, datS S y with
      | some d, some (.list ds) => if SeqAt.shaped d = true ∧ SeqAt.shaped (.list ds) = true then some (ds.any fun z => PyData.eqv z d) else none
      | _, _ => none)
    | none => none)
def inS (S : Sto) (x y : W) : Option Bool := match seqD S y, keyW x with
  | some ks, some k => some (findK ks k).isSome
  | _, _ => inS0 S x y
def isNonW : W → Bool
  | .non => true
  | _ => false
def cmpop (S : Sto) : CmpOp → W → W → Option Bool
  | .Eq, x, y => eqS S x y
  | .NotEq, x, y => (eqS S x y).map (!·)
  | .In, x, y => inS S x y
  | .NotIn, x, y => (inS S x y).map (!·)
  | .Lt, .int a, .int b => some (decide (a < b))
  | .LtE, .int a, .int b => some (decide (a ≤ b))
  | .Gt, .int a, .int b => some (decide (b < a))
  | .GtE, .int a, .int b => some (decide (b ≤ a))
  | .Lt, .str a, .str b => some (decide (a.cps.toList < b.cps.toList))
  | .Is, x, .non => some (isNonW x)
  | .IsNot, x, .non => some (!isNonW x)
  | _, _, _ => none
theorem isNon_ok [Gam] {K : PySem.W.Frag} {B : Hp} {ρ : List Addr} {x : V} {a : W} (rx : Rep K B ρ x a) : decide (x = .non) = isNonW a := by
  cases rx <;> first | exact decide_eq_true rfl | exact decide_eq_false (fun z => nomatch z)
theorem eqS0_ok [Gam] {X : Cx} {B H : Hp} {ρ : List Addr} {S : Sto} {Q : VK} {x y : V} {a b : W} {c : Bool} (hu : X.A.units + 65 < cLine) (s : SR X.K ρ S B H) (rx : Rep X.K B ρ x a) (ry : Rep X.K B ρ y b) (e : eqS0 S a b = some c) :
    (Val X.K (.bl c) S Q ρ B H → opW X (compareOp .Eq) x y H Q) ∧ (Val X.K (.bl (!c)) S Q ρ B H → opW X (compareOp .NotEq) x y H Q) := by
  unfold eqS0 at e
  split at e
  · rename_i hs
    cases e
    obtain ⟨h1, h2⟩ := scal_ok rx ry hs
    exact ⟨fun k => opW_of op_eq ⟨h1, by rw [h2]; exact k.here s (.bl _)⟩, fun k => opW_of op_ne ⟨h1, by rw [h2]; exact k.here s (.bl _)⟩⟩
  · split at e
    · rename_i d1 d2 q1 q2
      split at e
      · rename_i hs
        cases e
        exact ⟨fun k => opW_of (op_eqD (by omega)) ⟨d1, d2, datS_ok s rx q1, datS_ok s ry q2, hs.1, hs.2, k.here s (.bl _)⟩, fun k => opW_of (op_neD (by omega)) ⟨d1, d2, datS_ok s rx q1, datS_ok s ry q2, hs.1, hs.2, k.here s (.bl _)⟩⟩
      · cases e
    · cases e
theorem eqLen_ok [Gam] {X : Cx} {B H : Hp} {ρ : List Addr} {S : Sto} {Q : VK} {x y : V} {a b : W} {c : Bool} (hu : X.A.units + 65 < cLine) (s : SR X.K ρ S B H) (rx : Rep X.K B ρ x a) (ry : Rep X.K B ρ y b) (e : eqLen S a b = some c) :
    (Val X.K (.bl c) S Q ρ B H → opW X (compareOp .Eq) x y H Q) ∧ (Val X.K (.bl (!c)) S Q ρ B H → opW X (compareOp .NotEq) x y H Q) := by
  unfold eqLen at e
  split at e
  · rename_i l1 l2 q1 q2
    split at e
    · cases e
    · rename_i hl
      cases e
      obtain ⟨p, xs, rfl, h1, r1⟩ := seqL_ok s rx q1
      obtain ⟨p', ys, rfl, h2, r2⟩ := seqL_ok s ry q2
      have n1 := r1.length
      have n2 := r2.length
      refine ⟨fun k pins s1 σ v u I rv ru => ?_, fun k pins s1 σ v u I rv ru => ?_⟩
      · cases (show v = Value.ref p from rv)
        cases (show u = Value.ref p' from ru)
        obtain ⟨its, ri, pl, _⟩ := I.list h1
        obtain ⟨its2, ri2, pl2, _⟩ := I.list h2
        have n3 := ri.length
        have n4 := ri2.length
        exact SeqAt.RcAt.lists_lengths (A := X.A) pl.isList pl2.isList (by simp only [List.size_toArray, bne_iff_ne, ne_eq]; omega) (by omega) X.prog X.w X.xe _ ⟨.bl false, H, I, rfl, k.here s (.bl _)⟩
      · cases (show v = Value.ref p from rv)
        cases (show u = Value.ref p' from ru)
        obtain ⟨its, ri, pl, _⟩ := I.list h1
        obtain ⟨its2, ri2, pl2, _⟩ := I.list h2
        have n3 := ri.length
        have n4 := ri2.length
        exact SeqAt.RcNeAt.lists_lengths (A := X.A) pl.isList pl2.isList (by simp only [List.size_toArray, bne_iff_ne, ne_eq]; omega) (by omega) X.prog X.w X.xe _ ⟨.bl true, H, I, rfl, k.here s (.bl _)⟩
  · cases e
theorem eqS_ok [Gam] {X : Cx} {B H : Hp} {ρ : List Addr} {S : Sto} {Q : VK} {x y : V} {a b : W} {c : Bool} (hu : X.A.units + 65 < cLine) (s : SR X.K ρ S B H) (rx : Rep X.K B ρ x a) (ry : Rep X.K B ρ y b) (e : eqS S a b = some c) :
    (Val X.K (.bl c) S Q ρ B H → opW X (compareOp .Eq) x y H Q) ∧ (Val X.K (.bl (!c)) S Q ρ B H → opW X (compareOp .NotEq) x y H Q) := by
  unfold eqS at e
  split at e
  · rename_i k1 k2 q1 q2
    obtain ⟨p, kv, rfl, h1, e1, r1⟩ := seqD_ok s rx q1
    obtain ⟨p', kv', rfl, h2, e2, r2⟩ := seqD_ok s ry q2
    have l1 := congrArg List.length e1
    have l2 := congrArg List.length e2
    simp only [List.length_map] at l1 l2
    split at e
    · rename_i hl
      split at e
      · rename_i hz
        cases e
        have z1 : kv = [] := List.length_eq_zero_iff.mp (by omega)
        have z2 : kv' = [] := List.length_eq_zero_iff.mp (by omega)
        subst z1 z2
        exact ⟨fun k => opW_of (op_eqDict0 (by omega)) ⟨p, p', rfl, rfl, h1, h2, k.here s (.bl _)⟩, fun k => opW_of (op_neDict0 (by omega)) ⟨p, p', rfl, rfl, h1, h2, k.here s (.bl _)⟩⟩
      · cases e
    · rename_i hl
      cases e
      exact ⟨fun k => opW_of (op_eqDictL (by omega)) ⟨p, p', kv, kv', rfl, rfl, h1, h2, by omega, k.here s (.bl _)⟩, fun k => opW_of (op_neDictL (by omega)) ⟨p, p', kv, kv', rfl, rfl, h1, h2, by omega, k.here s (.bl _)⟩⟩
  · split at e
    · rename_i c' h
      cases e
      exact eqS0_ok hu s rx ry h
    · exact eqLen_ok hu s rx ry e
theorem inS0_ok [Gam] {X : Cx} {B H : Hp} {ρ : List Addr} {S : Sto} {Q : VK} {x y : V} {a b : W} {c : Bool} (hu : X.A.units + 65 < cLine) (s : SR X.K ρ S B H) (rx : Rep X.K B ρ x a) (ry : Rep X.K B ρ y b) (e : inS0 S a b = some c) :
    (Val X.K (.bl c) S Q ρ B H → opW X (compareOp .In) x y H Q) ∧ (Val X.K (.bl (!c)) S Q ρ B H → opW X (compareOp .NotIn) x y H Q) := by
  unfold inS0 at e
  split at e
  · rename_i sa sz
    cases rx; cases ry
    split at e
    · rename_i cc hc
      cases e
      have q := signOf_eq hc
      subst q
      rw [← hasN_dec]
      exact ⟨fun k => opW_of op_in_sign ⟨cc, sz, rfl, rfl, k.here s (.bl _)⟩, fun k => opW_of op_notIn_sign ⟨cc, sz, rfl, rfl, k.here s (.bl _)⟩⟩
    · cases e
      rw [txtHas_eq]
      exact ⟨fun k => opW_of op_in_str ⟨_, _, rfl, rfl, k.here s (.bl _)⟩, fun k => opW_of op_notIn_str ⟨_, _, rfl, rfl, k.here s (.bl _)⟩⟩
  · split at e
    · rename_i ws hw
      have hseq : ∃ p xs, y = .ref p ∧ (SqL X.K H p xs ∨ SqT X.K H p xs) ∧ RepL X.K B ρ xs ws := by
        cases q : seqL S b with
        | some ws' =>
          rw [q] at hw
          cases hw
          obtain ⟨p, xs, e1, e2, e3⟩ := seqL_ok s ry q
          exact ⟨p, xs, e1, .inl e2, e3⟩
        | none =>
          rw [q] at hw
          obtain ⟨p, xs, e1, e2, e3⟩ := seqT_ok s ry (show seqT b = some ws from hw)
          exact ⟨p, xs, e1, .inr e2, e3⟩
      obtain ⟨p, xs, ey, hq, rr⟩ := hseq
      split at e
      · rename_i hf
        cases e
        have fx := rx.flat hf.1
        have fl := rr.flat hf.2
        have hv := inW_V rx hf.1 rr hf.2
        refine ⟨fun k => opW_of op_in_seq ⟨p, xs, ey, hq, fx.1, fl, ?_⟩, fun k => opW_of op_notIn_seq ⟨p, xs, ey, hq, fx.1, fl, ?_⟩⟩
        · rw [hv]
          exact k.here s (.bl _)
        · rw [hv]
          exact k.here s (.bl _)
      · split at e
        · rename_i d ds q1 q2
          split at e
          · rename_i hs
            cases e
            exact ⟨fun k => opW_of (op_inD hu) ⟨d, ds, datS_ok s rx q1, datS_ok s ry q2, hs.1, hs.2, k.here s (.bl _)⟩, fun k => opW_of (op_notInD hu) ⟨d, ds, datS_ok s rx q1, datS_ok s ry q2, hs.1, hs.2, k.here s (.bl _)⟩⟩
          · cases e
        · cases e
    · cases e
theorem inS_ok [Gam] {X : Cx} {B H : Hp} {ρ : List Addr} {S : Sto} {Q : VK} {x y : V} {a b : W} {c : Bool} (hu : X.A.units + 65 < cLine) (s : SR X.K ρ S B H) (rx : Rep X.K B ρ x a) (ry : Rep X.K B ρ y b) (e : inS S a b = some c) :
    (Val X.K (.bl c) S Q ρ B H → opW X (compareOp .In) x y H Q) ∧ (Val X.K (.bl (!c)) S Q ρ B H → opW X (compareOp .NotIn) x y H Q) := by
  unfold inS at e
  split at e
  · rename_i ks k q1 q2
    cases e
    obtain ⟨p, kv, rfl, h1, e1, r1⟩ := seqD_ok s ry q1
    cases keyW_ok rx q2
    have z := (find_ok (k := k) e1 r1).2
    refine ⟨fun k' => opW_of (op_inDict (by omega)) ⟨p, _, rfl, (.inl ⟨kv, k, h1, rfl, rfl⟩), ?_⟩, fun k' => opW_of (op_notInDict (by omega)) ⟨p, _, rfl, (.inl ⟨kv, k, h1, rfl, rfl⟩), ?_⟩⟩
    · rw [z]
      exact k'.here s (.bl _)
    · rw [z]
      exact k'.here s (.bl _)
  · exact inS0_ok hu s rx ry e
theorem cmpop_ok [Gam] {X : Cx} {op : CmpOp} {B H : Hp} {ρ : List Addr} {S : Sto} {Q : VK} {x y : V} {a b : W} {c : Bool} (hu : X.A.units + 65 < cLine) (s : SR X.K ρ S B H) (rx : Rep X.K B ρ x a) (ry : Rep X.K B ρ y b) (e : cmpop S op a b = some c)
    (k : Val X.K (.bl c) S Q ρ B H) : opW X (compareOp op) x y H Q := by
  unfold cmpop at e
  split at e
  · exact (eqS_ok hu s rx ry e).1 k
  · cases q : eqS S a b with
    | none => rw [q] at e; cases e
    | some d => rw [q] at e; cases e; exact (eqS_ok hu s rx ry q).2 k
  · exact (inS_ok hu s rx ry e).1 k
  · cases q : inS S a b with
    | none => rw [q] at e; cases e
    | some d => rw [q] at e; cases e; exact (inS_ok hu s rx ry q).2 k
  · cases e; cases rx; cases ry
    exact opW_of op_lt ⟨_, _, rfl, rfl, k.here s (.bl _)⟩
  · cases e; cases rx; cases ry
    exact opW_of op_le ⟨_, _, rfl, rfl, k.here s (.bl _)⟩
  · cases e; cases rx; cases ry
    exact opW_of op_gt ⟨_, _, rfl, rfl, k.here s (.bl _)⟩
  · cases e; cases rx; cases ry
    exact opW_of op_ge ⟨_, _, rfl, rfl, k.here s (.bl _)⟩
  · cases e; cases rx; cases ry
    exact opW_of op_lt_str ⟨_, _, rfl, rfl, k.here s (.bl _)⟩
  · cases e; cases ry
    exact opW_of op_isN ⟨rfl, by rw [isNon_ok rx]; exact k.here s (.bl _)⟩
  · cases e; cases ry
    exact opW_of op_notN ⟨rfl, by rw [isNon_ok rx]; exact k.here s (.bl _)⟩
  · cases e
end Mi

set_option Elab.async false
set_option linter.all false
set_option maxRecDepth 100000
set_option maxHeartbeats 4000000
/-! Mi3: the evaluator. -/
noncomputable section
namespace Mi
open PySem PySem.Spec PyProof.Rows L2

/-! ### what is known of a program, of a def -/
/-- a def that calls what it is handed and tells what comes of it -/
structure Told where
  N : List Str
  sc : Scope
  body : List Stmt
/-- cst: names of the module that hold plain values; ar: own defs, how many arguments; free: names that the module does not hold -/
structure Pg where
  cst : Str → Option W
  ar : Str → Option Nat
  free : List Str
  /-- class, name: its objects may have it as an attribute of their own -/
  fld : Str → Str → Bool := fun _ _ => false
  /-- class, method: how many parameters behind self -/
  mt : Str → Str → Option Nat := fun _ _ => none
  /-- a class that is called: how many parameters behind self; is an object never changed behind its __init__? -/
  new : Str → Option (Nat × Bool) := fun _ => none
  /-- a class of exceptions with an __init__ that keeps what it is given: under which names -/
  xc : Str → Option (List Str) := fun _ => none
  /-- a class of the text -/
  exk : Str → Bool := fun _ => false
  /-- is an exception of class c caught under the name x? -/
  exm : Str → Str → Option Bool := fun _ _ => none
  /-- an exception of class c may have the attribute f -/
  exf : Str → Str → Bool := fun _ _ => false
  /-- isinstance(e, t), e an exception of class c -/
  exi : Str → Str → Option Bool := fun _ _ => none
  /-- isinstance(x, t), x of the class or type c -/
  isi : Str → Str → Option Bool := fun _ _ => none
  /-- the defaults of a class's __init__, from the last parameters -/
  dfl : Str → List W := fun _ => []
  /-- an object of the first class on the left, of the second on the right: the first class's own == is asked -/
  eq : Str → Str → Bool := fun _ _ => false
  /-- defs that are handed a lambda -/
  told : Str → Option Told := fun _ => none
/-- N: names by slot; sc: the scope; fn: names whose cells are this frame's own; mut: names whose displays are cells -/
structure Gm where
  N : List Str
  sc : Scope
  fn : Str → Bool
  muts : List Str
  top : Bool := false
  /-- may an own == be asked here? -/
  own : Bool := false
  /-- may a lambda be made here? -/
  lam : Bool := false
inductive Out' where
  | next (env : Env')
  | ret (w : W)
  | brk (env : Env')
  | cont (env : Env')
structure Evs where
  e : Gm → Env' → Sto → Expr → R W
  t : Gm → Env' → Sto → Expr → R Bool
  s : Gm → Env' → Sto → Stmt → R Out'

def slotOf : List Str → Str → Option Nat
  | [], _ => none
  | y :: r, x => if x = y then some 0 else (slotOf r x).map Nat.succ
theorem slotOf_get : ∀ {N : List Str} {x : Str} {i : Nat}, slotOf N x = some i → N[i]? = some x
  | [], _, _, h => by cases h
  | y :: r, x, i, h => by
    unfold slotOf at h
    split at h
    · rename_i e
      cases h
      rw [e]
      rfl
    · cases q : slotOf r x with
      | none => rw [q] at h; cases h
      | some j =>
        rw [q] at h
        cases h
        exact (slotOf_get q : r[j]? = some x)
def visB (sc : Scope) (x : Str) : Bool := match sc.names.lookup x with
  | some .local => true
  | some .cell => true
  | some .free => true
  | _ => false
def gloB (sc : Scope) (x : Str) : Bool := match sc.names.lookup x with
  | some .globalImplicit => true
  | _ => false
def locB (g : Gm) (x : Str) : Bool := match g.sc.names.lookup x with
  | some .local => true
  | some .cell => g.fn x
  | _ => false
def odd (x : Str) : Bool := (x == ("__debug__" : Str)) || (x == ("__classdict__" : Str)) || (x == ("__name__" : Str))

def nameE (pg : Pg) (g : Gm) (env : Env') (S : Sto) (x : Str) : R W :=
  guard' (!odd x) (if visB g.sc x = true then (match slotOf g.N x with
    | some i => (match env[i]? with
      | some (some w) => .ok w S
      | _ => .bad)
    | none => .bad)
  else guard' (gloB g.sc x) (lift (pg.cst x) S))

/-! ### texts in order -/
def leS (a b : Str) : Bool := !Spec.ltCps b.cps.toList a.cps.toList
def insS (x : Str) : List Str → List Str
  | [] => [x]
  | y :: r => if leS x y = true then x :: y :: r else y :: insS x r
def sortStr : List Str → List Str
  | [] => []
  | x :: r => insS x (sortStr r)
theorem leS_iff (a b : Str) : leS a b = true ↔ a.cps.toList ≤ b.cps.toList := by
  unfold leS
  rw [ltCps_eq]
  simp [List.not_lt]
theorem leS_trans {a b c : Str} (h1 : leS a b = true) (h2 : leS b c = true) : leS a c = true := (leS_iff a c).mpr (List.le_trans ((leS_iff a b).mp h1) ((leS_iff b c).mp h2))
theorem leS_total {a b : Str} (h : ¬ leS a b = true) : leS b a = true := by
  rcases List.le_total a.cps.toList b.cps.toList with z | z
  · exact absurd ((leS_iff a b).mpr z) h
  · exact (leS_iff b a).mpr z
theorem leS_anti {a b : Str} (h1 : leS a b = true) (h2 : leS b a = true) : a = b := by
  have z := List.le_antisymm ((leS_iff a b).mp h1) ((leS_iff b a).mp h2)
  obtain ⟨x⟩ := a
  obtain ⟨y⟩ := b
  congr 1
  exact Array.ext' z
theorem insS_perm (x : Str) : ∀ l, (insS x l).Perm (x :: l)
  | [] => .refl _
  | y :: r => by
    unfold insS
    split
    · exact .refl _
    · exact ((insS_perm x r).cons y).trans (.swap x y r)
theorem sortStr_perm : ∀ l, (sortStr l).Perm l
  | [] => .refl _
  | x :: r => (insS_perm x (sortStr r)).trans ((sortStr_perm r).cons x)
theorem insS_up (x : Str) : ∀ {l : List Str}, l.Pairwise (fun a b => leS a b = true) → (insS x l).Pairwise (fun a b => leS a b = true)
  | [], _ => List.pairwise_singleton _ _
  | y :: r, h => by
    obtain ⟨h1, h2⟩ := List.pairwise_cons.mp h
    unfold insS
    split
    · rename_i c
      refine List.pairwise_cons.mpr ⟨fun z hz => ?_, h⟩
      rcases List.mem_cons.mp hz with e | e
      · rw [e]; exact c
      · exact leS_trans c (h1 z e)
    · rename_i c
      refine List.pairwise_cons.mpr ⟨fun z hz => ?_, insS_up x h2⟩
      rcases List.mem_cons.mp ((insS_perm x r).mem_iff.mp hz) with e | e
      · rw [e]; exact leS_total c
      · exact h1 z e
theorem sortStr_up : ∀ l, (sortStr l).Pairwise (fun a b => leS a b = true)
  | [] => .nil
  | x :: r => insS_up x (sortStr_up r)
theorem rising_up : ∀ {l : List Str} {p : Str}, risingS p l = true → (p :: l).Pairwise (fun a b => leS a b = true)
  | [], p, _ => List.pairwise_singleton _ _
  | x :: r, p, h => by
    have h' : (!Spec.ltCps x.cps.toList p.cps.toList && risingS x r) = true := h
    rw [Bool.and_eq_true] at h'
    have ih := rising_up h'.2
    obtain ⟨i1, i2⟩ := List.pairwise_cons.mp ih
    refine List.pairwise_cons.mpr ⟨fun z hz => ?_, ih⟩
    rcases List.mem_cons.mp hz with e | e
    · rw [e]; exact h'.1
    · exact leS_trans (show leS p x = true from h'.1) (i1 z e)
theorem sortStr_one {xs ys : List Str} (p : ys.Perm xs) (h : sortedS ys = true) : ys = sortStr xs := by
  have up : ys.Pairwise (fun a b => leS a b = true) := by
    cases ys with
    | nil => exact .nil
    | cons y r => exact rising_up h
  exact List.Perm.eq_of_pairwise (fun a b _ _ h1 h2 => leS_anti h1 h2) up (sortStr_up xs) (p.trans (sortStr_perm xs).symm)

/-! ### dicts whose keys are tuples -/
def allZ {α : Type} (f : α → α → Bool) : List α → List α → Bool
  | [], [] => true
  | x :: xs, y :: ys => f x y && allZ f xs ys
  | _, _ => false
def eqNK : Nat → NestedKey → NestedKey → Bool
  | 0, _, _ => false
  | n + 1, a, b => match a, b with
    | .none, .none => true
    | .num i, .num j => decide (i = j)
    | .text x, .text y => eqStr x y
    | .tup xs, .tup ys => allZ (eqNK n) xs ys
    | _, _ => false
/-- where a key stands -/
def idxN : List (NestedKey × W) → NestedKey → Option Nat
  | [], _ => none
  | x :: r, k => if eqNK 10 x.1 k = true then some 0 else (idxN r k).map Nat.succ
def isTupN : NestedKey → Bool
  | .tup _ => true
  | _ => false
/-- a tuple as a key -/
def nkT (w : W) : Option NestedKey := match nkW 8 w with
  | some k => if isTupN k = true then some k else none
  | none => none
def kdS (S : Sto) : W → Option (List (NestedKey × W) × List W)
  | .ref n => (match S[n]? with
    | some (.kd ks vs) => some (ks, vs)
    | _ => none)
  | _ => none
def findN (ks : List (NestedKey × W)) (vs : List W) (k : NestedKey) : Option W := match idxN ks k with
  | some i => vs[i]?
  | none => none
def storeN (ks : List (NestedKey × W)) (vs : List W) (k : NestedKey) (kw v : W) : List (NestedKey × W) × List W := match idxN ks k with
  | some i => (ks, vs.set i v)
  | none => (ks ++ [(k, kw)], vs ++ [v])
/-! ### data in order -/
def insW (x : W) : List W → List W
  | [] => [x]
  | y :: r => (match ltW y x with
    | some true => y :: insW x r
    | _ => x :: y :: r)
def sortW : List W → List W
  | [] => []
  | x :: r => insW x (sortW r)
def rising : List W → Bool
  | [] => true
  | x :: r => r.all (fun y => ltW x y == some true) && rising r
def tupD (w : W) : Bool := match w with
  | .tup (_ :: _) => true
  | _ => false
/-- the keys in order: all alike, no two the same -/
def sortN (ws : List W) : Option (List W) := if (decide (ws.length < 64) && (ws.all tupD && (ws.all (fun a => ws.all fun b => (ltW a b).isSome) && rising (sortW ws)))) = true then some (sortW ws) else none
/-! ### built-in calls -/
def strsW : List W → Option (List Str)
  | [] => some []
  | .str z :: r => (strsW r).map (z :: ·)
  | _ => none
def keyStrs {β : Type} : List (Key × β) → Option (List Str)
  | [] => some []
  | (.inr x, _) :: r => (keyStrs r).map (x :: ·)
  | _ => none
def bools : List W → Option (List Bool)
  | [] => some []
  | .bl b :: r => (bools r).map (b :: ·)
  | _ => none
def lenW (S : Sto) (w : W) : Option Int := match w with
  | .str z => if small z.length then some (z.length : Int) else none
  | w => (match seqL S w with
    | some ws => some (ws.length : Int)
    | none => (seqT w).map fun ws => (ws.length : Int))
/-- len -/
def lenD (S : Sto) (w : W) : Option Int := match seqD S w with
  | some ks => some (ks.length : Int)
  | none => lenW S w
/-- pairs put into a dict, one behind the other -/
def mergeW (acc : List (Key × W)) : List (Key × W) → List (Key × W)
  | [] => acc
  | kv :: r => mergeW (storeK acc kv.1 kv.2) r
def pairsW : List W → Option (List (Key × W))
  | [] => some []
  | .tup [k, v] :: r => (match keyW k, pairsW r with
    | some k, some ps => some ((k, v) :: ps)
    | _, _ => none)
  | _ => none
/-- what dict(w) holds -/
def dictOf (S : Sto) (w : W) : Option (List (Key × W)) := match seqD S w with
  | some ks => some ks
  | none => (match seqL S w with
    | some ws => (pairsW ws).map (mergeW [])
    | none => none)
def keyOfW : Key → W
  | .inl i => .int i
  | .inr s => .str s
def bcall (S : Sto) (f : Str) (ws : List W) : Option W :=
  if f = "len" then (match ws with
    | [w] => (lenD S w).map .int
    | _ => none)
  else if f = "int" then (match ws with
    | [.int i] => some (.int i)
    | [.str a] => if a.length ≤ 640 then (PySem.intText? a).map .int else none
    | _ => none)
  else if f = "str" then (match ws with
    | [.int i] => if i.natAbs.log2 < 1920 then some (.str (toString i)) else none
    | _ => none)
  else if f = "all" then (match ws with
    | [w] => (match seqL S w with
      | some xs => (bools xs).map fun bs => .bl (bs.all id)
      | none => none)
    | _ => none)
  else if f = "any" then (match ws with
    | [w] => (match seqL S w with
      | some xs => (bools xs).map fun bs => .bl (bs.any id)
      | none => none)
    | _ => none)
  else if f = "min" then (match ws with
    | [.int i, .int j] => some (.int (if j < i then j else i))
    | _ => none)
  else if f = "max" then (match ws with
    | [.int i, .int j] => some (.int (if j > i then j else i))
    | [.int i, .int j, .int k] => some (.int (max (max i j) k))
    | _ => none)
  else if f = "list" then (match ws with
    | [w] => (match seqL S w with
      | some xs => some (.lst xs)
      | none => (match seqD S w with
        | some ks => some (.lst (ks.map fun p => keyOfW p.1))
        | none => (seqT w).map .lst))
    | _ => none)
  else if f = "tuple" then (match ws with
    | [w] => (match seqL S w with
      | some xs => some (.tup xs)
      | none => (seqT w).map .tup)
    | _ => none)
  else if f = "sorted" then (match ws with
    | [w] => (match seqD S w with
      | some ks => (match keyStrs ks with
        | some xs => if xs.length < 64 then some (.lst ((sortStr xs).map W.str)) else none
        | none => none)
      | none => if (kdS S w).isSome = true then ((kdS S w).bind fun p => sortN (p.1.map Prod.snd)).map .lst else (match seqL S w with
        | some us => (match strsW us with
          | some xs => if xs.length < 64 then some (.lst ((sortStr xs).map W.str)) else none
          | none => none)
        | none => (match seqT w with
          | some us => (match strsW us with
            | some xs => if xs.length < 64 then some (.lst ((sortStr xs).map W.str)) else none
            | none => none)
          | none => none)))
    | _ => none)
  else if f = "dict" then (match ws with
    | [w] => (dictOf S w).map .dct
    | _ => none)
  else none

def known (f : Str) : Bool := decide (f = "dict") || decide (f = "sorted") || decide (f = "len") || decide (f = "int") || decide (f = "str") || decide (f = "all") || decide (f = "any") || decide (f = "min") || decide (f = "max") || decide (f = "list") || decide (f = "tuple")

/-! ### subscripts -/
def ixS0 (S : Sto) (x i : W) : Option W := match i with
  | .int k => (match x with
    | .str z => if small z.length then (atI z.cps.toList k).map fun c => .str ⟨#[c]⟩ else none
    | x => (match seqL S x with
      | some ws => atI ws k
      | none => (match seqT x with
        | some ws => atI ws k
        | none => none)))
  | _ => none
def ixK (S : Sto) (x i : W) : Option W := match kdS S x with
  | some (ks, vs) => (match nkT i with
    | some k => findN ks vs k
    | none => none)
  | none => ixS0 S x i
def ixS (S : Sto) (x i : W) : Option W := match seqD S x, keyW i with
  | some ks, some k => findK ks k
  | _, _ => ixK S x i
def cutW (ws : List W) (lo hi : Option Int) : List W := (ws.drop (HT.sIx ws.length 0 lo)).take (HT.sIx ws.length ws.length hi - HT.sIx ws.length 0 lo)
def slS (S : Sto) (x : W) (lo hi : Option Int) : Option W := match x with
  | .str z => if small z.length then some (.str (cutS z lo hi)) else none
  | x => (match seqL S x with
    | some ws => some (.lst (cutW ws lo hi))
    | none => (seqT x).map fun ws => .tup (cutW ws lo hi))
def plainIx : Expr → Bool
  | .Slice .. => false
  | _ => true

/-! ### truth -/
def dctCell (S : Sto) : W → Option (List (Key × W))
  | .ref n => (match S[n]? with
    | some (.dct ks) => some ks
    | _ => none)
  | _ => none
def truth (S : Sto) : W → Option Bool
  | .non => some false
  | .bl b => some b
  | .int i => some (i != 0)
  | .str z => if small z.length then some ((z.length : Int) != 0) else none
  | w => (match seqL S w with
    | some ws => some (!ws.isEmpty)
    | none => (match seqT w with
      | some ws => some (!ws.isEmpty)
      | none => (match dctCell S w with
        | some ks => some (!ks.isEmpty)
        | none => none)))

/-! ### rows of parts -/
def notStar : Expr → Bool
  | .Starred .. => false
  | _ => true
def mapR0 (f : Expr → Sto → R W) : List Expr → Sto → R (List W)
  | [], S => .ok [] S
  | e :: es, S => (f e S).bind fun w S1 => (mapR0 f es S1).bind fun ws S2 => .ok (w :: ws) S2
def mapR (f : Expr → Sto → R W) (es : List Expr) (S : Sto) : R (List W) := guard' (es.all notStar) (mapR0 f es S)
/-- no call of super -/
def ownB : Expr → Bool
  | .Name .. => true
  | .Attribute .. => true
  | .Subscript .. => true
  | .IfExp .. => true
  | .Call (.Attribute ..) _ _ _ => true
  | .Call (.Name _ _) (_ :: _) _ _ => true
  | .Constant (.str _) _ _ => true
  | _ => false
/-- o, where e is o.values() -/
def valsOf : Expr → Option Expr
  | .Call (.Attribute o m ap) [] [] cp => if (decide (m = "values") && (ownB o && (ap.endLine == cp.line))) = true then some o else none
  | _ => none
/-- what stands behind a star -/
def starW (f : Expr → Sto → R W) (e : Expr) (S : Sto) : R W := match valsOf e with
  | some o => (f o S).bind fun w S1 => (match seqD S1 w with
    | some ks => .ok (.tup (ks.map Prod.snd)) S1
    | none => .bad)
  | none => f e S
/-- displays: with starred parts -/
def mapS (f : Expr → Sto → R W) : List Expr → Sto → R (List W)
  | [], S => .ok [] S
  | .Starred e _ :: es, S => (starW f e S).bind fun w S1 => (match (seqL S1 w).orElse (fun _ => seqT w) with
    | some xs => (mapS f es S1).bind fun ws S2 => .ok (xs ++ ws) S2
    | none => .bad)
  | e :: es, S => (f e S).bind fun w S1 => (mapS f es S1).bind fun ws S2 => .ok (w :: ws) S2
def allR (f : Expr → Sto → R Bool) (op : BoolOp) : List Expr → Sto → R Bool
  | [], _ => .bad
  | [a], S => f a S
  | a :: b :: r, S => (f a S).bind fun c S1 => (match op, c with
    | .And, true => allR f op (b :: r) S1
    | .And, false => .ok false S1
    | .Or, true => .ok true S1
    | .Or, false => allR f op (b :: r) S1)
def valR (f : Expr → Sto → R W) (op : BoolOp) : List Expr → Sto → R W
  | [], _ => .bad
  | [a], S => f a S
  | a :: b :: r, S => (f a S).bind fun w S1 => (match w with
    | .bl c => (match op, c with
      | .And, true => valR f op (b :: r) S1
      | .And, false => .ok (.bl false) S1
      | .Or, true => .ok (.bl true) S1
      | .Or, false => valR f op (b :: r) S1)
    | w => (match truth S1 w with
      | some c => (match op, c with
        | .And, true => valR f op (b :: r) S1
        | .And, false => .ok w S1
        | .Or, true => .ok w S1
        | .Or, false => valR f op (b :: r) S1)
      | none => .bad))
def seqR (f : Env' → Sto → Stmt → R Out') : List Stmt → Env' → Sto → R Out'
  | [], env, S => .ok (.next env) S
  | s :: r, env, S => (f env S s).bind fun o S1 => (match o with
    | .next env1 => seqR f r env1 S1
    | .ret w => .ok (.ret w) S1
    | .brk e => .ok (.brk e) S1
    | .cont e => .ok (.cont e) S1)

/-- a dict's pairs, as they are written -/
def pairR (f : Expr → Sto → R W) : List (Option Expr) → List Expr → Sto → R (List (Key × W))
  | [], [], S => .ok [] S
  | some k :: ks, v :: vs, S => (f k S).bind fun x S1 => (f v S1).bind fun y S2 => (match keyW x with
    | some kk => (pairR f ks vs S2).bind fun ps S3 => .ok ((kk, y) :: ps) S3
    | none => .bad)
  | _, _, _ => .bad
def dispG (ks : List (Option Expr)) (vs : List Expr) : Bool := ks.all (·.isSome) && (decide (ks.length = vs.length) && decide (ks.length ≤ 15))
/-! ### targets -/
def bindN (g : Gm) (x : Str) (w : W) (env : Env') : Option Env' := if locB g x = true then (slotOf g.N x).map fun i => env.set i (some w) else none
def bindIx : List Nat → List W → Env' → Option Env'
  | [], [], env => some env
  | i :: r, w :: ws, env => bindIx r ws (env.set i (some w))
  | _, _, _ => none
def bindTs (ix : List Nat) (w : W) (env : Env') : Option Env' := match seqT w with
  | some ws => bindIx ix ws env
  | none => none
def nameIx (g : Gm) : Expr → Option Nat
  | .Name x _ => if locB g x = true then slotOf g.N x else none
  | _ => none
def namesIx (g : Gm) : List Expr → Option (List Nat)
  | [] => some []
  | e :: r => match nameIx g e, namesIx g r with
    | some i, some is => some (i :: is)
    | _, _ => none
def bindT (g : Gm) (tg : Expr) (w : W) (env : Env') : Option Env' := match tg with
  | .Name x _ => bindN g x w env
  | .Tuple es _ _ => (match namesIx g es with
    | some ix => bindTs ix w env
    | none => none)
  | _ => none
def nameOk (g : Gm) : Expr → Bool
  | .Name x _ => locB g x && (slotOf g.N x).isSome
  | _ => false
def tgOk (g : Gm) : Expr → Bool
  | .Name x p => nameOk g (.Name x p)
  | .Tuple es _ _ => es.all (nameOk g)
  | _ => false
/-- nothing may leave from here -/
def noExc {α : Type} (r : R α) : R α := match r with
  | .ok a S => .ok a S
  | _ => .bad

/-! ### loops -/
def forR (body : Env' → Sto → R Out') (bnd : W → Env' → Option Env') (chk : Sto → Bool) : List W → Env' → Sto → R Out'
  | [], env, S => guard' (chk S) (.ok (.next env) S)
  | w :: ws, env, S => guard' (chk S) (match bnd w env with
    | none => .bad
    | some env1 => (body env1 S).bind fun o S1 => (match o with
      | .next env2 => forR body bnd chk ws env2 S1
      | .cont env2 => forR body bnd chk ws env2 S1
      | .brk env2 => .ok (.next env2) S1
      | .ret v => .ok (.ret v) S1))
def whileR (test : Env' → Sto → R Bool) (body : Env' → Sto → R Out') : Nat → Env' → Sto → R Out'
  | 0, _, _ => .bad
  | m + 1, env, S => (test env S).bind fun c S1 => (match c with
    | false => .ok (.next env) S1
    | true => (body env S1).bind fun o S2 => (match o with
      | .next env2 => whileR test body m env2 S2
      | .cont env2 => whileR test body m env2 S2
      | .brk env2 => .ok (.next env2) S2
      | .ret v => .ok (.ret v) S2))
def strW (z : Str) : List W := z.cps.toList.map fun c => .str ⟨#[c]⟩
def enumW (n : Nat) : List W → List W
  | [] => []
  | w :: ws => .tup [.int (n : Int), w] :: enumW (n + 1) ws
def isName (e : Expr) (x : Str) : Bool := match e with
  | .Name y _ => decide (y = x)
  | _ => false
def notSet : Expr → Bool
  | .Set .. => false
  | _ => true
/-! ### sameness of what a cell holds -/
mutual
def eqF : Nat → W → W → Bool
  | 0, _, _ => false
  | f + 1, a, b => match a, b with
    | .non, .non => true
    | .bl x, .bl y => decide (x = y)
    | .int x, .int y => decide (x = y)
    | .str x, .str y => eqStr x y
    | .tup x, .tup y => eqFs f x y
    | .lst x, .lst y => eqFs f x y
    | .frl x, .frl y => eqFs f x y
    | .ref x, .ref y => decide (x = y)
    | .obj c fs, .obj c' fs' => decide (c = c') && (decide (fs.map Prod.fst = fs'.map Prod.fst) && eqFs f (fs.map Prod.snd) (fs'.map Prod.snd))
    | .dct fs, .dct fs' => decide (fs.map Prod.fst = fs'.map Prod.fst) && eqFs f (fs.map Prod.snd) (fs'.map Prod.snd)
    | _, _ => false
def eqFs : Nat → List W → List W → Bool
  | 0, _, _ => false
  | _ + 1, [], [] => true
  | f + 1, a :: as, b :: bs => eqF f a b && eqFs f as bs
  | _ + 1, _, _ => false
end
theorem pairs_eq {κ : Type} : ∀ {a b : List (κ × W)}, a.map Prod.fst = b.map Prod.fst → a.map Prod.snd = b.map Prod.snd → a = b
  | [], [], _, _ => rfl
  | [], _ :: _, e, _ => by cases e
  | _ :: _, [], e, _ => by cases e
  | (x, v) :: a, (y, w) :: b, e, e' => by
    injection e with e1 e2
    injection e' with e3 e4
    have e1 : x = y := e1
    have e3 : v = w := e3
    rw [e1, e3, pairs_eq e2 e4]
mutual
theorem eqF_ok : ∀ {f : Nat} {a b : W}, eqF f a b = true → a = b
  | 0, _, _, h => by cases h
  | f + 1, a, b, h => by
    unfold eqF at h
    split at h
    · rfl
    · rw [of_decide_eq_true h]
    · rw [of_decide_eq_true h]
    · rw [eqStr_iff.mp h]
    · rw [eqFs_ok h]
    · rw [eqFs_ok h]
    · rw [eqFs_ok h]
    · rw [of_decide_eq_true h]
    · rw [Bool.and_eq_true, Bool.and_eq_true] at h
      rw [of_decide_eq_true h.1, pairs_eq (of_decide_eq_true h.2.1) (eqFs_ok h.2.2)]
    · rw [Bool.and_eq_true] at h
      rw [pairs_eq (of_decide_eq_true h.1) (eqFs_ok h.2)]
    · cases h
theorem eqFs_ok : ∀ {f : Nat} {a b : List W}, eqFs f a b = true → a = b
  | 0, _, _, h => by cases h
  | f + 1, [], [], _ => rfl
  | f + 1, [], _ :: _, h => by cases h
  | f + 1, _ :: _, [], h => by cases h
  | f + 1, a :: as, b :: bs, h => by
    unfold eqFs at h
    rw [Bool.and_eq_true] at h
    rw [eqF_ok h.1, eqFs_ok h.2]
end
/-- the cell n holds the list ws -/
def sameL (n : Nat) (ws : List W) (S : Sto) : Bool := match S[n]? with
  | some (.lst ws') => eqFs 100000 ws ws'
  | _ => false
abbrev Itm := List W × (Sto → Bool)
def still (ws : List W) : Itm := (ws, fun _ => true)
/-- what a list, a tuple, a text gives -/
def walkW (w : W) (S1 : Sto) : R Itm := match w with
  | .lst ws => .ok (still ws) S1
  | .frl ws => .ok (still ws) S1
  | .tup ws => .ok (still ws) S1
  | .str z => .ok (still (strW z)) S1
  | .ref n => (match S1[n]? with
    | some (.lst ws) => .ok (ws, sameL n ws) S1
    | _ => .bad)
  | _ => .bad
def isTupE : Expr → Bool
  | .Tuple .. => true
  | _ => false
/-- .. with their places -/
def enumWk (w : W) (S1 : Sto) : R Itm := match w with
  | .str z => .ok (still (enumW 0 (strW z))) S1
  | .lst ws => .ok (still (enumW 0 ws)) S1
  | .frl ws => .ok (still (enumW 0 ws)) S1
  | .tup ws => .ok (still (enumW 0 ws)) S1
  | .ref n => (match S1[n]? with
    | some (.lst ws) => .ok (enumW 0 ws, sameL n ws) S1
    | _ => .bad)
  | _ => .bad
/-- the items of what a for walks -/
def evIter (pg : Pg) (g : Gm) (f : Expr → Sto → R W) (tg iter : Expr) (S : Sto) : R Itm := match iter with
  | .Call (.Name "range" _) [a] [] _ => guard' (gloB g.sc "range" && pg.free.contains "range") ((mapR f [a] S).bind fun ws S1 => (match ws with
    | [.int n] => guard' (decide (-(2 ^ 62) ≤ n ∧ n < 2 ^ 62)) (.ok (still ((List.range n.toNat).map fun i : Nat => W.int ((0 : Int) + (i : Int)))) S1)
    | _ => .bad))
  | .Call (.Name "range" _) [a, b] [] _ => guard' (gloB g.sc "range" && pg.free.contains "range") ((mapR f [a, b] S).bind fun ws S1 => (match ws with
    | [.int m, .int n] => guard' (decide (-(2 ^ 62) ≤ m ∧ m < 2 ^ 62 ∧ -(2 ^ 62) ≤ n ∧ n < 2 ^ 62)) (.ok (still ((List.range (n - m).toNat).map fun i : Nat => W.int (m + (i : Int)))) S1)
    | _ => .bad))
  | .Call (.Name "enumerate" _) [a] [] _ => guard' (gloB g.sc "enumerate" && pg.free.contains "enumerate" && isTupE tg && notStar a) ((f a S).bind fun w S1 => enumWk w S1)
  | e => guard' (notSet e) ((f e S).bind fun w S1 => walkW w S1)
/-- a list that was made: a value, or a cell -/
def laidR (fl : Bool) (acc : List W) (S : Sto) : R W := match fl with
  | false => .ok (.lst acc) S
  | true => .ok (.ref S.length) (S ++ [SO.lst acc])
def lcR (fl : Bool) (step : W → Sto → R (Option W)) (chk : Sto → Bool) : List W → List W → Sto → R W
  | [], acc, S => guard' (chk S) (laidR fl acc S)
  | w :: ws, acc, S => guard' (chk S) ((step w S).bind fun o S1 => (match o with
    | none => lcR fl step chk ws acc S1
    | some y => guard' (small (acc.length + 1)) (lcR fl step chk ws (acc ++ [y]) S1)))
/-- a dict's comprehension -/
def dcR (step : W → Sto → R (Option (W × W))) (chk : Sto → Bool) : List W → List (Key × W) → Sto → R W
  | [], acc, S => guard' (chk S) (.ok (.dct acc) S)
  | w :: ws, acc, S => guard' (chk S) ((step w S).bind fun o S1 => (match o with
    | none => dcR step chk ws acc S1
    | some (k, y) => (match keyW k with
      | some k => guard' (small (acc.length + 1)) (dcR step chk ws (storeK acc k y) S1)
      | none => .bad)))
/-- the names of a target -/
def tgNames : Expr → List Str
  | .Name x _ => [x]
  | .Tuple es _ _ => es.filterMap fun | .Name x _ => some x | _ => none
  | _ => []
def ownOf (N : List Str) (tg : Expr) : List (Str × Nat) := (tgNames tg).filterMap fun x => (slotOf N x).map fun i => (x, i)
def blkG (g : Gm) (scope : Scope) : Gm := { g with top := false, lam := false, sc := relS scope g.sc, fn := fun x => scope.names.lookup x == some .cell }
def wipeE (env : Env') : List Nat → Env'
  | [] => env
  | v :: vs => (wipeE env vs).set v none

/-! ### what is left of cells -/
mutual
def frzW (S : Sto) (n0 : Nat) : Nat → W → Option W
  | 0, _ => none
  | f + 1, w => match w with
    | .ref n => if n < n0 then some (.ref n) else (match S[n]? with
      | some (.lst ws) => (frzs S n0 f ws).map .lst
      | some (.ins c fs) => (frzs S n0 f (fs.map Prod.snd)).map fun ws => .obj c ((fs.map Prod.fst).zip ws)
      | some (.dct ks) => (frzs S n0 f (ks.map Prod.snd)).map fun ws => .dct ((ks.map Prod.fst).zip ws)
      | some (.imd ks) => (frzs S n0 f (ks.map Prod.snd)).map fun ws => .dct ((ks.map Prod.fst).zip ws)
      | some (.lck _) => none
      | some (.kd _ _) => none
      | none => none)
    | .tup ws => (frzs S n0 f ws).map .tup
    | .lst ws => (frzs S n0 f ws).map .lst
    | .frl ws => some (.frl ws)
    | .obj c fs => (frzs S n0 f (fs.map Prod.snd)).map fun ws => .obj c ((fs.map Prod.fst).zip ws)
    | .dct ks => (frzs S n0 f (ks.map Prod.snd)).map fun ws => .dct ((ks.map Prod.fst).zip ws)
    | w => some w
def frzs (S : Sto) (n0 : Nat) : Nat → List W → Option (List W)
  | 0, _ => none
  | _ + 1, [] => some []
  | f + 1, w :: ws => match frzW S n0 f w, frzs S n0 f ws with
    | some x, some xs => some (x :: xs)
    | _, _ => none
end
def frzO (S : Sto) (n0 : Nat) : SO → Option SO
  | .lst ws => (frzs S n0 100000 ws).map .lst
  | .ins c fs => (frzs S n0 100000 (fs.map Prod.snd)).map fun ws => .ins c ((fs.map Prod.fst).zip ws)
  | .dct ks => (frzs S n0 100000 (ks.map Prod.snd)).map fun ws => .dct ((ks.map Prod.fst).zip ws)
  | .imd ks => (frzs S n0 100000 (ks.map Prod.snd)).map fun ws => .imd ((ks.map Prod.fst).zip ws)
  | .lck ks => (frzs S n0 100000 (ks.map Prod.snd)).map fun ws => .lck ((ks.map Prod.fst).zip ws)
  | .kd ks vs => (frzs S n0 100000 vs).map fun ws => .kd ks ws
def frzS (S : Sto) (n0 : Nat) : List SO → Option (List SO)
  | [] => some []
  | o :: r => match frzO S n0 o, frzS S n0 r with
    | some x, some xs => some (x :: xs)
    | _, _ => none
def exitW (n0 : Nat) (w : W) (S : Sto) : R W :=
  if S.length = n0 then .ok w S
  else match frzW S n0 100000 w, frzS S n0 (S.take n0) with
    | some w', some S' => .ok w' S'
    | _, _ => .bad
/-! ### objects -/
def mName (c m : Str) : Str := c ++ ("." ++ m)
def objS (S : Sto) : W → Option (Str × List (Str × W))
  | .obj c fs => some (c, fs)
  | .ref n => (match S[n]? with
    | some (.ins c fs) => some (c, fs)
    | _ => none)
  | _ => none
def putW (f : Str) (w : W) : List (Str × W) → List (Str × W)
  | [] => [(f, w)]
  | (g, x) :: r => if g = f then (g, w) :: r else (g, x) :: putW f w r
/-- a callee's answer, seen by the caller -/
def back (env : Env') (r : R W) : R W := match r with
  | .ok w S => .ok w S
  | .exc c fs _ S => .exc c fs env S
  | .bad => .bad
/-- what a class that is called hands back -/
def mkR (env : Env') (n : Nat) (c : Str) (fz : Bool) (r : R W) : R W := (back env r).bind fun w S => (match w with
  | .non => (match fz with
    | true => exitW n (.ref n) S
    | false => .ok (.ref n) S)
  | _ => .bad)

/-- the built-in types that have names here -/
def tyB (c : Str) : Option String := if c = "NoneType" then some "NoneType" else if c = "bool" then some "bool" else if c = "int" then some "int" else if c = "str" then some "str" else if c = "tuple" then some "tuple" else if c = "list" then some "list" else if c = "dict" then some "dict" else none
def ownC (c : Str) : Option Str := match tyB c with
  | some _ => none
  | none => some c
/-- the type of a value, by its name -/
def tyW (S : Sto) : W → Option Str
  | .non => some "NoneType"
  | .bl _ => some "bool"
  | .int _ => some "int"
  | .str _ => some "str"
  | .tup _ => some "tuple"
  | .lst _ => some "list"
  | .dct _ => some "dict"
  | .obj c _ => ownC c
  | .ref n => (match S[n]? with
    | some (.lst _) => some "list"
    | some (.dct _) => some "dict"
    | some (.imd _) => some "dict"
    | some (.lck _) => some "dict"
    | some (.ins c _) => ownC c
    | some (.kd _ _) => none
    | none => none)
  | .frl _ => none
def nameOf : Expr → Option Str
  | .Name x _ => some x
  | _ => none
def namesOf : List Expr → Option (List Str)
  | [] => some []
  | e :: es => match nameOf e, namesOf es with
    | some x, some xs => some (x :: xs)
    | _, _ => none
def isiAny (pg : Pg) (t : Str) : List Str → Option Bool
  | [] => some false
  | c :: r => match pg.isi t c, isiAny pg t r with
    | some b1, some b2 => some (b1 || b2)
    | _, _ => none
def isNameG (g : Gm) : Expr → Bool
  | .Name x _ => gloB g.sc x && !odd x
  | _ => false
/-- a list's append -/
def bmeth (S : Sto) (m : Str) (x : W) (ws : List W) : Option (W × Sto) := match x, ws with
  | .ref n, [y] => if m = "append" then (match S[n]? with
    | some (.lst zs) => if small (zs.length + 1) then some (.non, S.set n (.lst (zs ++ [y]))) else none
    | _ => none) else none
  | _, _ => none
/-- texts' methods of one argument -/
def bmStr (S : Sto) (m : Str) (a : Str) (y : W) : Option W :=
  if m = "split" then (match y with
    | .str b => if !(b.length == 0) && small (a.length + 2) then some (.lst ((txtSplit a b).map W.str)) else none
    | _ => none)
  else if m = "find" then (match y with
    | .str b => some (.int (txtFind a b))
    | _ => none)
  else if m = "startswith" then (match y with
    | .str b => some (.bl (Txt.startswith a b))
    | _ => none)
  else if m = "join" then (match (seqL S y).orElse (fun _ => seqT y) with
    | some ws => (match strsW ws with
      | some ys => if (ys.map (·.length)).sum + ys.length * a.length ≤ 16777216 then some (.str (joinF a ys)) else none
      | none => none)
    | none => none)
  else none
def isAppend (m : Str) : Bool := decide (m = "append")

def isStrM (m : Str) : Bool := decide (m = "split") || (decide (m = "find") || (decide (m = "startswith") || decide (m = "join")))
/-- methods of built-in types -/
def methR (E : Evs) (g : Gm) (env : Env') (S1 : Sto) (m : Str) (as : List Expr) (x : W) : R W := match x, as with
  | .str z, [e1] => guard' (isStrM m) ((E.e g env S1 e1).bind fun y S2 => lift (bmStr S2 m z y) S2)
  | x, [e1, e2] => guard' (decide (m = "get") && (seqD S1 x).isSome) ((E.e g env S1 e1).bind fun k S2 => (E.e g env S2 e2).bind fun d S3 => (match keyW k, seqD S3 x with
    | some kk, some ks => .ok ((findK ks kk).getD d) S3
    | _, _ => .bad))
  | x, as => guard' (isAppend m && ((!as.isEmpty) && (seqL S1 x).isSome)) ((mapR (fun e S => E.e g env S e) as S1).bind fun ws S2 => (match bmeth S2 m x ws with
    | some (w, S3) => .ok w S3
    | none => .bad))

/-! ### walks of dicts -/
/-- a name, an attribute of a name -/
def pathN (g : Gm) (env : Env') (x : Str) : Option W := if (!odd x) = true ∧ visB g.sc x = true then (match slotOf g.N x with
  | some i => (match env[i]? with
    | some (some w) => some w
    | _ => none)
  | none => none) else none
def pathW (pg : Pg) (g : Gm) (env : Env') (S : Sto) : Expr → Option W
  | .Name x _ => pathN g env x
  | .Attribute (.Name x _) f _ => (match pathN g env x with
    | some w => (match objS S w with
      | some (c, fs) => if pg.fld c f = true then fs.lookup f else none
      | none => none)
    | none => none)
  | .Subscript (.Name x _) (.Constant (.str k) _ _) _ => (match pathN g env x with
    | some w => (match seqD S w with
      | some ks => findK ks (.inr k)
      | none => none)
    | none => none)
  | _ => none
/-- a dict, to be walked: a cell does not change meanwhile -/
def dictAt (S : Sto) : W → Option (List (Key × W) × Sto)
  | .dct ks => some (ks, S)
  | .ref n => (match S[n]? with
    | some (.dct ks) => some (ks, S.set n (.lck ks))
    | some (.imd ks) => some (ks, S)
    | some (.lck ks) => some (ks, S)
    | _ => none)
  | _ => none
/-- what is walked: 0 its keys, 1 its values, 2 its pairs -/
def walkOf : Expr → Expr × Nat
  | .Call (.Attribute p m ap) [] [] cp => if (ap.endLine == cp.line) = true then (if m = "values" then (p, 1) else if m = "items" then (p, 2) else (.Call (.Attribute p m ap) [] [] cp, 0)) else (.Call (.Attribute p m ap) [] [] cp, 0)
  | e => (e, 0)
def itemsOf (ks : List (Key × W)) : Nat → List W
  | 0 => ks.map fun p => keyOfW p.1
  | 1 => ks.map Prod.snd
  | _ => ks.map fun p => .tup [keyOfW p.1, p.2]
/-- a cell's dict that may change -/
def liveD (S : Sto) : W → Option Nat
  | .ref n => (match S[n]? with
    | some (.dct _) => some n
    | _ => none)
  | _ => none
def dFlag (pg : Pg) (g : Gm) (env : Env') (S : Sto) (iter : Expr) : Option Nat := match pathW pg g env S (walkOf iter).1 with
  | some w => liveD S w
  | none => none
/-- a cell's dict is unlocked behind its walk -/
def unlR {α : Type} (n : Nat) (r : R α) : R α := match r with
  | .ok a S => (match S[n]? with
    | some (.lck ks) => .ok a (S.set n (.dct ks))
    | _ => .bad)
  | .exc c fs e S => .exc c fs e S
  | .bad => .bad
def dWalk (pg : Pg) (g : Gm) (env : Env') (S : Sto) (tg iter : Expr) : Option (List W × Sto) := match walkOf iter with
  | (p, k) => (match pathW pg g env S p with
    | some w => (match dictAt S w with
      | some (ks, S1) => if k = 2 ∧ isTupE tg = false then none else some (itemsOf ks k, S1)
      | none => none)
    | none => none)

/-- a list or a tuple of texts -/
def seqX (S : Sto) (w : W) : Option (List Str) := match (seqL S w).orElse (fun _ => seqT w) with
  | some ws => strsW ws
  | none => none
/-! ### one step deeper -/
/-- a turn of a comprehension -/
def lcStep (E : Evs) (g : Gm) (env : Env') (elt tg : Expr) (ifs : List Expr) (scope : Scope) : W → Sto → R (Option W) := fun w S => (match bindT (blkG g scope) tg w (wipeE env ((ownOf g.N tg).map (·.2))) with
        | none => .bad
        | some env1 => (match ifs with
          | [] => (noExc (E.e (blkG g scope) env1 S elt)).bind fun y S2 => .ok (some y) S2
          | [c] => (noExc (E.t (blkG g scope) env1 S c)).bind fun b S2 => (match b with
            | true => (noExc (E.e (blkG g scope) env1 S2 elt)).bind fun y S3 => .ok (some y) S3
            | false => .ok none S2)
          | _ => .bad))
/-- what a comprehension must be -/
def lcG (g : Gm) (tg iter : Expr) (ifs : List Expr) (scope : Scope) : Bool := notSet iter && blkC g.N g.sc scope (ownOf g.N tg) && tgOk (blkG g scope) tg && decide (ifs.length ≤ 1)
/-- a comprehension that walks no dict -/
def lcE (pg : Pg) (E : Evs) (g : Gm) (env : Env') (S : Sto) (fl : Bool) (elt tg iter : Expr) (ifs : List Expr) (scope : Scope) : R W :=
  guard' (lcG g tg iter ifs scope) ((evIter pg g (fun e S => E.e g env S e) tg iter S).bind fun items S1 => lcR fl (lcStep E g env elt tg ifs scope) items.2 items.1 [] S1)
/-! ### own == -/
def difL (f : W → W → Bool) : List W → List W → Bool
  | [], [] => false
  | x :: xs, y :: ys => f x y || difL f xs ys
  | _, _ => true
def refW : W → Bool
  | .tup _ => true
  | .lst _ => true
  | .dct _ => true
  | .obj _ _ => true
  | _ => false
/-- surely not one and the same -/
def difW : Nat → W → W → Bool
  | 0, _, _ => false
  | _ + 1, .non, .non => false
  | _ + 1, .bl a, .bl b => a != b
  | _ + 1, .int a, .int b => a != b
  | _ + 1, .str a, .str b => !eqStr a b
  | n + 1, .tup xs, .tup ys => difL (difW n) xs ys
  | n + 1, .lst xs, .lst ys => difL (difW n) xs ys
  | n + 1, .obj _ fs, .obj _ gs => difL (difW n) (fs.map Prod.snd) (gs.map Prod.snd)
  | n + 1, .dct ks, .dct ls => !decide (ks.map Prod.fst = ls.map Prod.fst) || difL (difW n) (ks.map Prod.snd) (ls.map Prod.snd)
  | _ + 1, x, y => (flatW x && flatW y) || ((flatW x && refW y) || (refW x && flatW y))
def eqL (f : W → W → Option Bool) : List W → List W → Option Bool
  | [], [] => some true
  | [], _ :: _ => some false
  | _ :: _, [] => some false
  | x :: xs, y :: ys => match f x y with
    | some true => eqL f xs ys
    | some false => some false
    | none => none
def eqD (f : W → W → Option Bool) : List (Key × W) → List (Key × W) → Option Bool
  | [], _ => some true
  | (k, x) :: r, ls => match findK ls k with
    | none => some false
    | some y => match f x y with
      | some true => eqD f r ls
      | some false => some false
      | none => none
/-- == inside a list, a tuple or a dict -/
def itmX (f : W → W → Option Bool) (x y : W) : Option Bool :=
  if scalW x y = true then some (eqW x y)
  else match f x y with
    | some b => if (refW x && refW y && (b || difW 50 x y)) = true then some b else none
    | none => none
/-- == of values down to own == -/
def eqX (q : Str → Str → Bool) (cl : Str → List W → Sto → R W) : Nat → W → W → Option Bool
  | 0, _, _ => none
  | n + 1, .tup xs, .tup ys => eqL (itmX (eqX q cl n)) xs ys
  | n + 1, .lst xs, .lst ys => if xs.length = ys.length then eqL (itmX (eqX q cl n)) xs ys else some false
  | n + 1, .dct ks, .dct ls => if ks.length = ls.length then eqD (itmX (eqX q cl n)) ks ls else some false
  | n + 1, .obj c fs, .obj d gs => match q c d with
    | true => match frzW [] 0 100000 (.obj c fs), frzW [] 0 100000 (.obj d gs) with
      | some x, some y => match cl (mName c "__eq__") [x, y] [] with
        | .ok (.bl b) _ => some b
        | _ => none
      | _, _ => none
    | false => none
  | _, _, _ => none
def neX (q : Str → Str → Bool) (cl : Str → List W → Sto → R W) : W → W → Option Bool
  | .obj c fs, .obj d gs => (eqX q cl 1 (.obj c fs) (.obj d gs)).map (!·)
  | .tup xs, .tup ys => (eqL (itmX (eqX q cl 6)) xs ys).map (!·)
  | _, _ => none
/-- x in a list -/
def inL (f : W → W → Option Bool) (x : W) : List W → Option Bool
  | [] => some false
  | y :: r => match f y x with
    | some true => some true
    | some false => inL f x r
    | none => none
/-- a comparison down to own == -/
def cmpO (q : Str → Str → Bool) (cl : Str → List W → Sto → R W) (S : Sto) (op : CmpOp) (x y : W) : Option Bool := match op with
  | .Eq => eqX q cl 7 x y
  | .NotEq => neX q cl x y
  | .In => (match seqL S y with
    | some ys => inL (itmX (eqX q cl 4)) x ys
    | none => none)
  | _ => none
/-- .. the cells as they stand -/
def cmpZ (q : Str → Str → Bool) (cl : Str → List W → Sto → R W) (S : Sto) (op : CmpOp) (x y : W) : Option Bool := match frzW S 0 100000 x, frzW S 0 100000 y with
  | some x', some y' => cmpO q cl [] op x' y'
  | _, _ => none
/-- a comparison, own == too -/
def cmpX (own : Bool) (q : Str → Str → Bool) (cl : Str → List W → Sto → R W) (S : Sto) (op : CmpOp) (x y : W) : Option Bool := match own with
  | false => cmpop S op x y
  | true => match cmpop S op x y with
    | some c => some c
    | none => match cmpO q cl S op x y with
      | some c => some c
      | none => cmpZ q cl S op x y
def stepE0 (pg : Pg) (cl : Str → List W → Sto → R W) (E : Evs) (g : Gm) (env : Env') (S : Sto) (e : Expr) : R W := match e with
  | .Name x _ => nameE pg g env S x
  | .Constant c _ _ => (match c with
    | .int i => .ok (.int i) S
    | .bool b => .ok (.bl b) S
    | .none => .ok .non S
    | .str s => .ok (.str s) S
    | _ => .bad)
  | .Tuple es _ _ => (mapS (fun e S => E.e g env S e) es S).bind fun ws S1 => guard' (small ws.length) (.ok (.tup ws) S1)
  | .List es _ => (mapS (fun e S => E.e g env S e) es S).bind fun ws S1 => guard' (small ws.length) (.ok (.lst ws) S1)
  | .BinOp a op b _ => (E.e g env S a).bind fun x S1 => (E.e g env S1 b).bind fun y S2 => lift (binop S2 op x y) S2
  | .UnaryOp .Not a _ => (E.e g env S a).bind fun x S1 => (match x with
    | .bl b => .ok (.bl (!b)) S1
    | _ => .bad)
  | .UnaryOp .USub a _ => (E.e g env S a).bind fun x S1 => (match x with
    | .int i => .ok (.int (-i)) S1
    | _ => .bad)
  | .BoolOp op es _ => valR (fun e S => E.e g env S e) op es S
  | .Compare a [op] [b] _ => guard' (!behindInMarks op b) ((E.e g env S a).bind fun x S1 => (E.e g env S1 b).bind fun y S2 => (lift (cmpX g.own pg.eq cl S2 op x y) S2).bind fun c S3 => .ok (.bl c) S3)
  | .Compare a [op, op'] [b, c] _ => guard' (!lastMarks [op, op'] [b, c]) ((E.e g env S a).bind fun x S1 => (E.e g env S1 b).bind fun y S2 => (lift (cmpX g.own pg.eq cl S2 op x y) S2).bind fun d S3 => (match d with
    | false => .ok (.bl false) S3
    | true => (E.e g env S3 c).bind fun z S4 => (lift (cmpX g.own pg.eq cl S4 op' y z) S4).bind fun d' S5 => .ok (.bl d') S5))
  | .IfExp t a b _ => (E.t g env S t).bind fun c S1 => (match c with
    | true => E.e g env S1 a
    | false => E.e g env S1 b)
  | .Subscript a (.Slice lo hi none _) _ => (E.e g env S a).bind fun x S1 => (partR E g env S1 lo).bind fun l S2 => (partR E g env S2 hi).bind fun h S3 => lift (slS S3 x l h) S3
  | .Subscript a i _ => guard' (plainIx i) ((E.e g env S a).bind fun x S1 => (E.e g env S1 i).bind fun y S2 => lift (ixS S2 x y) S2)
  | .ListComp elt [⟨tg, iter, ifs, 0⟩] scope _ => (match dWalk pg g env S tg iter with
    | some (items, S1) => guard' (lcG g tg iter ifs scope) (match dFlag pg g env S iter with
      | some n => unlR n (noExc (lcR false (lcStep E g env elt tg ifs scope) (fun _ => true) items [] S1))
      | none => noExc (lcR false (lcStep E g env elt tg ifs scope) (fun _ => true) items [] S1))
    | none => lcE pg E g env S false elt tg iter ifs scope)
  | .Dict [] [] _ => (match g.muts.contains "{}" with
    | true => .ok (.ref S.length) (S ++ [SO.dct []])
    | false => .ok (.dct []) S)
  | .Dict (k0 :: ks) vs _ => guard' (dispG (k0 :: ks) vs) ((pairR (fun e S => E.e g env S e) (k0 :: ks) vs S).bind fun ps S1 => guard' (decide (ps.length ≤ 15)) (.ok (.dct (mergeW [] ps)) S1))
  | .DictComp kx vx [⟨tg, iter, ifs, 0⟩] scope _ => guard' (notSet iter && blkC g.N g.sc scope (ownOf g.N tg) && tgOk (blkG g scope) tg && decide (ifs.length ≤ 1)) ((evIter pg g (fun e S => E.e g env S e) tg iter S).bind fun items S1 =>
      dcR (fun w S => (match bindT (blkG g scope) tg w (wipeE env ((ownOf g.N tg).map (·.2))) with
        | none => .bad
        | some env1 => (match ifs with
          | [] => (noExc (E.e (blkG g scope) env1 S kx)).bind fun k S2 => (noExc (E.e (blkG g scope) env1 S2 vx)).bind fun y S3 => .ok (some (k, y)) S3
          | [c] => (noExc (E.t (blkG g scope) env1 S c)).bind fun b S2 => (match b with
            | true => (noExc (E.e (blkG g scope) env1 S2 kx)).bind fun k S3 => (noExc (E.e (blkG g scope) env1 S3 vx)).bind fun y S4 => .ok (some (k, y)) S4
            | false => .ok none S2)
          | _ => .bad))) items.2 items.1 [] S1)
  | .Attribute o f _ => guard' (ownB o) ((E.e g env S o).bind fun x S1 => (match objS S1 x with
    | some (c, fs) => guard' (pg.fld c f) (lift (fs.lookup f) S1)
    | none => .bad))
  | .Call (.Attribute o m ap) as [] p => guard' (ownB o && as.all notStar && decide (as.length < 30) && (ap.endLine == p.line)) ((noExc (E.e g env S o)).bind fun x S1 => (match objS S1 x with
    | some (c, fs) => (match pg.mt c m with
      | some n => guard' ((fs.lookup m).isNone) ((mapR (fun e S => E.e g env S e) as S1).bind fun ws S2 => guard' (decide (ws.length = n)) (back env (cl (mName c m) (x :: ws) S2)))
      | none => .bad)
    | none => methR E g env S1 m as x))
  | .Call (.Name "isinstance" _) [a, .Name t _] [] _ => guard' (gloB g.sc "isinstance" && pg.free.contains "isinstance" && notStar a && gloB g.sc t && !odd t) ((E.e g env S a).bind fun w S1 => (match tyW S1 w with
    | some ty => (lift (pg.isi ty t) S1).bind fun b S2 => .ok (.bl b) S2
    | none => .bad))
  | .Call (.Name "isinstance" _) [a, .Tuple ts _ _] [] _ => guard' (gloB g.sc "isinstance" && pg.free.contains "isinstance" && notStar a && ts.all (isNameG g) && decide (ts.length ≤ 20)) ((E.e g env S a).bind fun w S1 => (match tyW S1 w, namesOf ts with
    | some ty, some (n1 :: ns) => (lift (isiAny pg ty (n1 :: ns)) S1).bind fun b S2 => .ok (.bl b) S2
    | _, _ => .bad))
  | .Call (.Name "len" _) [.Call (.Name "set" _) [a] [] _] [] _ => guard' (gloB g.sc "len" && gloB g.sc "set" && pg.free.contains "len" && pg.free.contains "set" && notStar a) ((E.e g env S a).bind fun w S1 => (match seqX S1 w with
    | some xs => guard' (decide (xs.length < 64)) (.ok (.int (cntS xs xs.length : Nat)) S1)
    | none => .bad))
  | .Call (.Name f _) (a :: as) [] _ => guard' (gloB g.sc f && !odd f && ((pg.ar f).isSome || ((pg.new f).isSome || (known f && pg.free.contains f)))) ((mapR (fun e S => E.e g env S e) (a :: as) S).bind fun ws S1 => (match pg.ar f with
    | some n => guard' (decide (ws.length = n)) (match cl f ws S1 with
      | .ok w S2 => .ok w S2
      | .exc c fs _ S2 => .exc c fs env S2
      | .bad => .bad)
    | none => (match pg.new f with
      | some (n, fz) => guard' (decide ((ws ++ (pg.dfl f).drop ((pg.dfl f).length + (a :: as).length - n)).length = n)) (mkR env S1.length f fz (cl (mName f "__init__") (.ref S1.length :: (ws ++ (pg.dfl f).drop ((pg.dfl f).length + (a :: as).length - n))) (S1 ++ [SO.ins f []])))
      | none => lift (bcall S1 f ws) S1)))
  | .Call (.Name f _) [] [] _ => guard' (gloB g.sc f && !odd f) (match pg.ar f with
    | some n => guard' (decide (0 = n)) (back env (cl f [] S))
    | none => (match pg.new f with
      | some (n, fz) => guard' (decide (0 = n)) (mkR env S.length f fz (cl (mName f "__init__") [.ref S.length] (S ++ [SO.ins f []])))
      | none => .bad))
  | _ => .bad
where
  partR (E : Evs) (g : Gm) (env : Env') (S : Sto) (o : Option Expr) : R (Option Int) := match o with
    | none => .ok none S
    | some e => (E.e g env S e).bind fun w S1 => (match w with
      | .int i => .ok (some i) S1
      | _ => .bad)
def plainT : Expr → Bool
  | .BoolOp .. => false
  | .IfExp .. => false
  | .Compare .. => false
  | .UnaryOp .Not _ _ => false
  | _ => true
def stepT (pg : Pg) (cl : Str → List W → Sto → R W) (E : Evs) (g : Gm) (env : Env') (S : Sto) (e : Expr) : R Bool := match e with
  | .UnaryOp .Not a _ => (E.t g env S a).bind fun b S1 => .ok (!b) S1
  | .BoolOp op es _ => allR (fun e S => E.t g env S e) op es S
  | .Compare a [op] [b] _ => guard' (!behindInMarks op b) ((E.e g env S a).bind fun x S1 => (E.e g env S1 b).bind fun y S2 => lift (cmpX g.own pg.eq cl S2 op x y) S2)
  | .Compare a [op, op'] [b, c] _ => guard' (!lastMarks [op, op'] [b, c]) ((E.e g env S a).bind fun x S1 => (E.e g env S1 b).bind fun y S2 => (lift (cmpX g.own pg.eq cl S2 op x y) S2).bind fun d S3 => (match d with
    | false => .ok false S3
    | true => (E.e g env S3 c).bind fun z S4 => lift (cmpX g.own pg.eq cl S4 op' y z) S4))
  | e => guard' (plainT e) ((E.e g env S e).bind fun w S1 => lift (truth S1 w) S1)
def isComp : Expr → Bool
  | .ListComp .. => true
  | .SetComp .. => true
  | .DictComp .. => true
  | _ => false
def isTup : Expr → Bool
  | .Tuple .. => true
  | _ => false
def nextN (g : Gm) (x : Str) (w : W) (env : Env') (S : Sto) : R Out' := match bindN g x w env with
  | some env1 => .ok (.next env1) S
  | none => .bad
/-! ### what an except clause hands back: n the caught exception, of class c, with attributes fs -/
mutual
def suE (pg : Pg) (g : Gm) (n c : Str) (fs : List (Str × W)) : Nat → Expr → Option W
  | 0, _ => none
  | k + 1, e => match e with
    | .Constant v _ _ => (match v with
      | .int i => some (.int i)
      | .bool b => some (.bl b)
      | .none => some .non
      | .str s => some (.str s)
      | _ => none)
    | .Attribute (.Name y _) f _ => if y = n ∧ pg.exf c f = true then fs.lookup f else none
    | .Tuple es _ _ => (match es.all notStar, suEs pg g n c fs k es with
      | true, some ws => if small ws.length then some (.tup ws) else none
      | _, _ => none)
    | .IfExp t a b _ => (match suT pg g n c t with
      | some true => suE pg g n c fs k a
      | some false => suE pg g n c fs k b
      | none => none)
    | _ => none
def suEs (pg : Pg) (g : Gm) (n c : Str) (fs : List (Str × W)) : Nat → List Expr → Option (List W)
  | 0, _ => none
  | _ + 1, [] => some []
  | k + 1, e :: es => match suE pg g n c fs k e, suEs pg g n c fs k es with
    | some w, some ws => some (w :: ws)
    | _, _ => none
def suT (pg : Pg) (g : Gm) (n c : Str) : Expr → Option Bool
  | .Call (.Name f _) [.Name y _, .Name t _] [] _ => if f = "isinstance" ∧ y = n ∧ gloB g.sc f = true ∧ pg.free.contains f = true ∧ gloB g.sc t = true ∧ odd t = false then pg.exi c t else none
  | _ => none
end
/-- a test in a clause -/
def suB (pg : Pg) (g : Gm) (n c : Str) (fs : List (Str × W)) (S : Sto) : Expr → Option Bool
  | .Compare a [op] [b] _ => (match behindInMarks op b, suE pg g n c fs 50 a, suE pg g n c fs 50 b with
    | false, some x, some y => cmpop S op x y
    | _, _, _ => none)
  | _ => none
def hdOk (pg : Pg) (g : Gm) : ExceptHandler → Bool
  | .ExceptHandler (some (.Name x _)) (some n) [.If _ [.Return (some _) _] [] _] _ => gloB g.sc x && !odd x && pg.exk x && (slotOf g.N n).isSome && (g.sc.names.lookup n == some .local) && !odd n
  | .ExceptHandler (some (.Name x _)) (some n) [.Return (some _) _] _ => gloB g.sc x && !odd x && pg.exk x && (slotOf g.N n).isSome && (g.sc.names.lookup n == some .local) && !odd n
  | _ => false
def hdR (pg : Pg) (g : Gm) (c : Str) (fs : List (Str × W)) (env : Env') (S : Sto) : List ExceptHandler → R Out'
  | [] => .exc c fs env S
  | .ExceptHandler (some (.Name x _)) (some n) [.Return (some e) _] _ :: r => (match pg.exm c x with
    | some true => guard' (decide ((slotOf g.N n).getD 0 < env.length)) ((lift (suE pg g n c fs 50 e) S).bind fun w S1 => .ok (.ret w) S1)
    | some false => hdR pg g c fs env S r
    | none => .bad)
  | .ExceptHandler (some (.Name x _)) (some n) [.If t [.Return (some e) _] [] _] _ :: r => (match pg.exm c x with
    | some true => guard' (decide ((slotOf g.N n).getD 0 < env.length)) (match suB pg g n c fs S t with
      | some true => (lift (suE pg g n c fs 50 e) S).bind fun w S1 => .ok (.ret w) S1
      | some false => .ok (.next (env.set ((slotOf g.N n).getD 0) none)) S
      | none => .bad)
    | some false => hdR pg g c fs env S r
    | none => .bad)
  | _ => .bad
def tryR (pg : Pg) (g : Gm) (hds : List ExceptHandler) (r : R Out') : R Out' := match r with
  | .ok o S => .ok o S
  | .exc c fs env S => hdR pg g c fs env S hds
  | .bad => .bad
/-- a value; a display that becomes a cell where fl says so -/
def valC0 (pg : Pg) (E : Evs) (g : Gm) (env : Env') (S : Sto) (fl : Bool) (e : Expr) : R W := match fl, e with
  | true, .List es _ => (mapS (fun e S => E.e g env S e) es S).bind fun ws S1 => guard' (small ws.length) (.ok (.ref S1.length) (S1 ++ [SO.lst ws]))
  | true, .Dict [] [] _ => .ok (.ref S.length) (S ++ [SO.dct []])
  | true, .Dict (k0 :: ks) vs _ => guard' (dispG (k0 :: ks) vs) ((pairR (fun e S => E.e g env S e) (k0 :: ks) vs S).bind fun ps S1 => guard' (decide (ps.length ≤ 15)) (.ok (.ref S1.length) (S1 ++ [SO.dct (mergeW [] ps)])))
  | true, .Call (.Attribute o "split" ap) [a] [] cp => guard' (ownB o && notStar a && (ap.endLine == cp.line)) ((E.e g env S o).bind fun x S1 => (match x with
    | .str z => (E.e g env S1 a).bind fun y S2 => (match y with
      | .str b => guard' (!(b.length == 0) && small (z.length + 2)) (.ok (.ref S2.length) (S2 ++ [SO.lst ((txtSplit z b).map W.str)]))
      | _ => .bad)
    | _ => .bad))
  | true, .Call (.Name "dict" dp) [a] [] cp => guard' (gloB g.sc "dict" && pg.free.contains "dict" && notStar a) ((E.e g env S a).bind fun w S1 => (match dictOf S1 w with
    | some ks => .ok (.ref S1.length) (S1 ++ [SO.dct ks])
    | none => .bad))
  | true, .BinOp a .Add b _ => (E.e g env S a).bind fun x S1 => (E.e g env S1 b).bind fun y S2 => (match lstE S2 x, lstE S2 y with
    | some xs, some ys => guard' (small (xs.length + ys.length)) (.ok (.ref S2.length) (S2 ++ [SO.lst (xs ++ ys)]))
    | _, _ => lift (binop S2 .Add x y) S2)
  | _, e => E.e g env S e
/-- .. in either part of a conditional expression, too -/
def valC (pg : Pg) (E : Evs) (g : Gm) (env : Env') (S : Sto) (fl : Bool) (e : Expr) : R W := match fl, e with
  | true, .IfExp t a b _ => (E.t g env S t).bind fun c S1 => (match c with
    | true => valC0 pg E g env S1 true a
    | false => valC0 pg E g env S1 true b)
  | fl, e => valC0 pg E g env S fl e
/-- names that are stored from the right -/
def swB (g : Gm) (ts : List (Str × Pos)) (vs : List Expr) : Bool :=
  ((if g.sc.kind.isAnnotationScope then ScopeKind.function else g.sc.kind) == .function) && ts.all (fun t => (g.sc.names.lookup t.1 == some .local) && (t.2.line == ((ts.head?.map (·.2.line)).getD 0)) && (slotOf g.N t.1).isSome) && (decide ((ts.map Prod.fst).Nodup) && decide ((ts.map Prod.fst).eraseDups.length = (ts.map Prod.fst).length)) && vs.all notStar && !(vs.all (foldedForSure 8)) && !(vs.all (constantsAlone 8))
/-- one of the names is none that is stored from the right -/
def nsw (g : Gm) (es : List Expr) : Bool := es.any fun e => match e with
  | .Name x _ => !(g.sc.names.lookup x == some .local)
  | _ => true
/-- a tuple's parts into names -/
def genT (E : Evs) (g : Gm) (env : Env') (S : Sto) (es : List Expr) (k : Nat) (p : Pos) (e : Expr) : R Out' := guard' (!isComp e && tgOk g (.Tuple es k p)) ((E.e g env S e).bind fun w S1 => (match bindT g (.Tuple es k p) w env with
    | some env1 => .ok (.next env1) S1
    | none => .bad))
/-- an item of [d[k] for k in d] -/
def kdItem (g : Gm) (env : Env') (S : Sto) (scope : Scope) (tg : Expr) (d1 k1 : Str) (kw : W) : Option W := match bindT (blkG g scope) tg kw (wipeE env ((ownOf g.N tg).map (·.2))) with
  | some env1 => (match pathN (blkG g scope) env1 d1, pathN (blkG g scope) env1 k1 with
    | some x, some y => (match kdS S x, nkT y with
      | some p, some k => findN p.1 p.2 k
      | _, _ => none)
    | _, _ => none)
  | none => none
/-- d's keys, where d is a dict whose keys are tuples -/
def kdOf (g : Gm) (env : Env') (S : Sto) : Expr → Option (List (NestedKey × W) × List W)
  | .Name d _ => (match pathN g env d with
    | some w => kdS S w
    | none => none)
  | _ => none
def lkE (pg : Pg) (E : Evs) (g : Gm) (env : Env') (S : Sto) (fl : Bool) (elt tg iter : Expr) (ifs : List Expr) (scope : Scope) : R W := match elt, iter, ifs with
  | .Subscript (.Name d1 q1) (.Name k1 q2) q3, .Name d2 q, [] => (match decide (d1 = d2) with
    | true => (match kdOf g env S (.Name d2 q) with
      | some p => guard' (!fl && (lcG g tg (.Name d2 q) [] scope && decide (p.1.length < 90000))) (lift ((mapO (fun x => kdItem g env S scope tg d1 k1 x.2) p.1).map W.lst) S)
      | none => lcE pg E g env S fl (.Subscript (.Name d1 q1) (.Name k1 q2) q3) tg (.Name d2 q) [] scope)
    | false => lcE pg E g env S fl (.Subscript (.Name d1 q1) (.Name k1 q2) q3) tg (.Name d2 q) [] scope)
  | elt, iter, ifs => lcE pg E g env S fl elt tg iter ifs scope
def stepS (pg : Pg) (cl : Str → List W → Sto → R W) (E : Evs) (g : Gm) (env : Env') (S : Sto) (st : Stmt) : R Out' := match st with
  | .Return (some e) _ => (valC pg E g env S (g.muts.contains "return") e).bind fun w S1 => .ok (.ret w) S1
  | .Return none _ => .ok (.ret .non) S
  | .Pass _ => .ok (.next env) S
  | .Break _ => .ok (.brk env) S
  | .Continue _ => .ok (.cont env) S
  | .Expr e _ => guard' (!isComp e) ((E.e g env S e).bind fun _ S1 => .ok (.next env) S1)
  | .If c a b _ => (E.t g env S c).bind fun d S1 => (match d with
    | true => seqR (fun env S s => E.s g env S s) a env S1
    | false => seqR (fun env S s => E.s g env S s) b env S1)
  | .Assign [.Name x p] e _ => guard' (nameOk g (.Name x p)) (match e with
    | .ListComp elt [⟨tg, iter, ifs, 0⟩] sc q => (lkE pg E g env S (g.muts.contains x) elt tg iter ifs sc).bind fun w S1 => nextN g x w env S1
    | .DictComp kx vx [⟨tg, iter, ifs, 0⟩] sc q => (stepE0 pg cl E g env S (.DictComp kx vx [⟨tg, iter, ifs, 0⟩] sc q)).bind fun w S1 => nextN g x w env S1
    | .Dict [] [] q => (match g.muts.contains (x ++ ":k") with
      | true => guard' g.own (nextN g x (.ref S.length) env (S ++ [SO.kd [] []]))
      | false => (valC pg E g env S (g.muts.contains x) (.Dict [] [] q)).bind fun w S1 => nextN g x w env S1)
    | e => guard' (!isComp e) ((valC pg E g env S (g.muts.contains x) e).bind fun w S1 => nextN g x w env S1))
  | .Assign [.Attribute o x _] e _ => ((valC pg E g env S (g.muts.contains ("." ++ x)) e).bind fun y S1 => (E.e g env S1 o).bind fun z S2 => (match z with
    | .ref n => (match S2[n]? with
      | some (.ins c fs) => guard' (pg.fld c x && decide (fs.length < 1000)) (.ok (.next env) (S2.set n (SO.ins c (putW x y fs))))
      | _ => .bad)
    | _ => .bad))
  | .Assign [.Subscript o i _] e _ => guard' (plainIx i) ((valC pg E g env S (g.muts.contains "[]") e).bind fun y S1 => (E.e g env S1 o).bind fun x S2 => (E.e g env S2 i).bind fun k S3 => (match x with
    | .ref n => (match S3[n]? with
      | some (.lst ws) => (match k with
        | .int j => (match ixN ws.length j with
          | some j => .ok (.next env) (S3.set n (SO.lst (ws.set j y)))
          | none => .bad)
        | _ => .bad)
      | some (.dct ks) => (match keyW k with
        | some k => guard' (small (ks.length + 1)) (.ok (.next env) (S3.set n (SO.dct (storeK ks k y))))
        | none => .bad)
      | some (.kd ks vs) => (match nkT k with
        | some q => guard' (g.own && decide (ks.length < 90000)) (.ok (.next env) (S3.set n (SO.kd (storeN ks vs q k y).1 (storeN ks vs q k y).2)))
        | none => .bad)
      | _ => .bad)
    | _ => .bad))
  | .Assign [.Tuple [.Name x px, .Name y py] k p] (.Tuple [a, b] k2 p2) _ => (match swB g [(x, px), (y, py)] [a, b] with
    | true => (valC pg E g env S (g.muts.contains x) a).bind fun v S1 => (valC pg E g env S1 (g.muts.contains y) b).bind fun w S2 => .ok (.next ((env.set ((slotOf g.N x).getD 0) (some v)).set ((slotOf g.N y).getD 0) (some w))) S2
    | false => guard' (nsw g [.Name x px, .Name y py]) (genT E g env S [.Name x px, .Name y py] k p (.Tuple [a, b] k2 p2)))
  | .Assign [.Tuple [.Name x px, .Name y py, .Name z pz] k p] (.Tuple [a, b, c] k2 p2) _ => (match swB g [(x, px), (y, py), (z, pz)] [a, b, c] with
    | true => (valC pg E g env S (g.muts.contains x) a).bind fun u S1 => (valC pg E g env S1 (g.muts.contains y) b).bind fun v S2 => (valC pg E g env S2 (g.muts.contains z) c).bind fun w S3 =>
      .ok (.next (((env.set ((slotOf g.N x).getD 0) (some u)).set ((slotOf g.N y).getD 0) (some v)).set ((slotOf g.N z).getD 0) (some w))) S3
    | false => guard' (nsw g [.Name x px, .Name y py, .Name z pz]) (genT E g env S [.Name x px, .Name y py, .Name z pz] k p (.Tuple [a, b, c] k2 p2)))
  | .Assign [.Tuple es k p] e _ => guard' (!isTup e) (genT E g env S es k p e)
  | .AugAssign (.Name x p) .Add e _ => guard' (nameOk g (.Name x p)) (match env[(slotOf g.N x).getD 0]? with
    | some (some (.int a)) => (E.e g env S e).bind fun w S1 => (match w with
      | .int b => nextN g x (.int (a + b)) env S1
      | _ => .bad)
    | some (some (.ref n)) => (E.e g env S e).bind fun w S1 => (match S1[n]?, lstE S1 w with
      | some (.lst xs), some ys => guard' (small (xs.length + ys.length)) (nextN g x (.ref n) env (S1.set n (SO.lst (xs ++ ys))))
      | _, _ => .bad)
    | _ => .bad)
  | .AugAssign (.Subscript o i _) .Add e _ => guard' (plainIx i) ((E.e g env S o).bind fun x S1 => (E.e g env S1 i).bind fun y S2 => (match x, y with
    | .ref n, .int k => (match S2[n]? with
      | some (.lst ws) => (match decide (0 ≤ k ∧ k < 2 ^ 62), ws[k.toNat]? with
        | true, some (.int a) => (E.e g env S2 e).bind fun w S3 => (match w, S3[n]? with
          | .int b, some (.lst ws') => guard' (decide (k.toNat < ws'.length)) (.ok (.next env) (S3.set n (SO.lst (ws'.set k.toNat (.int (a + b))))))
          | _, _ => .bad)
        | _, _ => .bad)
      | _ => .bad)
    | _, _ => .bad))
  | .Raise (some (.Call (.Name c _) (a :: as) [] _)) none _ => guard' (gloB g.sc c && !odd c) (match pg.xc c with
    | some ns => (mapR (fun e S => E.e g env S e) (a :: as) S).bind fun ws S1 => guard' (decide (ws.length = ns.length) && decide (ws.length ≤ 1000)) (.exc c (ns.zip ws).reverse env S1)
    | none => .bad)
  | .Try body (h0 :: hds) [] [] _ => guard' (g.top && (h0 :: hds).all (hdOk pg g)) (tryR pg g (h0 :: hds) (seqR (fun env S s => E.s g env S s) body env S))
  | .For tg iter body [] _ => guard' (notSet iter && tgOk g tg) (match dWalk pg g env S tg iter with
    | some (items, S1) => (match dFlag pg g env S iter with
      | some n => unlR n (forR (fun env S => seqR (fun env S s => E.s g env S s) body env S) (bindT g tg) (fun _ => true) items env S1)
      | none => noExc (forR (fun env S => seqR (fun env S s => E.s g env S s) body env S) (bindT g tg) (fun _ => true) items env S1))
    | none => (evIter pg g (fun e S => E.e g env S e) tg iter S).bind fun items S1 => forR (fun env S => seqR (fun env S s => E.s g env S s) body env S) (bindT g tg) items.2 items.1 env S1)
  | .While c body [] _ => whileR (fun env S => E.t g env S c) (fun env S => seqR (fun env S s => E.s g env S s) body env S) 100000 env S
  | _ => .bad
/-! ### lambdas -/
def bareP (pg : Pg) : Pg := { cst := pg.cst, ar := fun _ => none, free := pg.free, exk := pg.exk, exm := pg.exm, exf := pg.exf, exi := pg.exi }
def toldG (t : Told) : Gm := { N := t.N, sc := t.sc, fn := fun _ => true, muts := [], top := true }
def lamGm (g : Gm) (scope : Scope) : Gm := { N := g.N, sc := scope, fn := fun _ => false, muts := [], own := g.own }
def tailW : Expr → Option W
  | .Constant .none _ _ => some .non
  | .Constant (.str s) _ _ => some (.str s)
  | _ => none
/-- what is told of a lambda's answer -/
def toldX (pg : Pg) (t : Told) (hds : List ExceptHandler) (w0 : W) (n0 : Nat) (r : R W) : R W := match r with
  | .ok _ S => exitW n0 w0 S
  | .exc c fs _ S => (match hdR (bareP pg) (toldG t) c fs (t.N.map fun _ => none) S hds with
    | .ok (.ret w) S2 => exitW n0 w S2
    | .ok (.next _) S2 => exitW n0 w0 S2
    | _ => .bad)
  | .bad => .bad
def toldR (pg : Pg) (t : Told) (n0 : Nat) (r : R W) : R W := match t.body with
  | [.Try [.Expr (.Call (.Name a _) [] [] _) _] (h0 :: hds) [] [] _, .Return (some e) _] => guard' ((h0 :: hds).all (hdOk (bareP pg) (toldG t)) && (t.N[0]? == some a) && !odd a) (match tailW e with
    | some w0 => toldX pg t (h0 :: hds) w0 n0 r
    | none => .bad)
  | _ => .bad
def replG (x y z : Str) : Bool := decide (x.length + (x.length + 1) * z.length ≤ 16777216) && (decide (1 ≤ y.length) && decide (Builtin.Str.strKind y = 1))
def replF (x y z : Str) : Str := joinF z (txtSplit x y)
/-- what an item of a walk gives -/
def keyC (cl : Str → List W → Sto → R W) (f : Str) (w : W) : Option W := match frzW [] 0 100000 w with
  | some x => (match cl f [x] [] with
    | .ok k [] => some k
    | _ => none)
  | none => none
def minL (key : W → Option W) : W → W → List W → Option W
  | b, _, [] => some b
  | b, kb, w :: ws => match key w with
    | some k => (match ltW k kb with
      | some true => minL key w k ws
      | some false => minL key b kb ws
      | none => none)
    | none => none
def minR (key : W → Option W) : List W → Option W
  | [] => none
  | w :: ws => match key w with
    | some k => minL key w k ws
    | none => none
def minG (pg : Pg) (g : Gm) (f : Str) (o : Expr) : Bool := gloB g.sc "min" && (pg.free.contains "min" && (notStar o && (gloB g.sc f && (!odd f && decide (pg.ar f = some 1)))))
/-- a call over the empty store that answers something flat -/
def isoR (r : R W) (S : Sto) : R W := match r with
  | .ok w [] => guard' (flatW w) (.ok w S)
  | _ => .bad
def stepE1 (pg : Pg) (cl : Str → List W → Sto → R W) (E : Evs) (g : Gm) (env : Env') (S : Sto) (e : Expr) : R W := match e with
  | .Call (.Name f p) (a :: as) [] q => (match g.muts.contains ("iso:" ++ f) with
    | true => guard' (gloB g.sc f && (!odd f && (g.own && (pg.ar f).isSome))) ((mapR (fun e S => E.e g env S e) (a :: as) S).bind fun ws S1 => (match pg.ar f, frzs S1 0 100000 ws with
      | some n, some ws' => guard' (decide (ws.length = n)) (isoR (cl f ws' []) S1)
      | _, _ => .bad))
    | false => stepE0 pg cl E g env S (.Call (.Name f p) (a :: as) [] q))
  | e => stepE0 pg cl E g env S e
def stepE (pg : Pg) (cl : Str → List W → Sto → R W) (E : Evs) (g : Gm) (env : Env') (S : Sto) (e : Expr) : R W := match e with
  | .Call (.Name f _) [.Lambda ⟨[], [], none, [], [], none, []⟩ body scope _] [] _ => (match pg.told f with
    | some t => guard' (gloB g.sc f && !odd f && g.lam && LamX.lamSB g.sc scope) (toldR pg t S.length (E.e (lamGm g scope) env S body))
    | none => .bad)
  | .BinOp (.Constant (.str a) _ _) .Add (.Call (.Attribute o "replace" ap) [.Constant (.str y) _ _, .Constant (.str z) _ _] [] cp) _ => guard' (ownB o && (!(y == z) && (ap.endLine == cp.line))) ((E.e g env S o).bind fun x S1 => (match x with
    | .str x => guard' (replG x y z) (lift (binop S1 .Add (.str a) (.str (replF x y z))) S1)
    | _ => .bad))
  | .Call (.Attribute o "find" ap) [e1, e2] [] cp => guard' (ownB o && (notStar e1 && (notStar e2 && (ap.endLine == cp.line)))) ((E.e g env S o).bind fun x S1 => (match x with
    | .str x => (E.e g env S1 e1).bind fun y S2 => (match y with
      | .str y => (E.e g env S2 e2).bind fun k S3 => (match k with
        | .int k => .ok (.int (Txt.find3 x y k)) S3
        | _ => .bad)
      | _ => .bad)
    | _ => .bad))
  | .Dict [none, some k] [e, v] _ => guard' (dispG [some k] [v]) ((E.e g env S e).bind fun w S1 => (match seqD S1 w with
    | some ks => (pairR (fun e S => E.e g env S e) [some k] [v] S1).bind fun ps S2 => guard' (decide (ks.length ≤ 90000) && decide (ps.length ≤ 15)) (.ok (.dct (mergeW (mergeW [] ks) (mergeW [] ps))) S2)
    | none => .bad))
  | .Call (.Name "tuple" _) [.Call (.Attribute o "items" ap) [] [] cp] [] _ => guard' (gloB g.sc "tuple" && (pg.free.contains "tuple" && (ownB o && (ap.endLine == cp.line)))) ((E.e g env S o).bind fun w S1 => (match seqD S1 w with
    | some ks => guard' (decide (ks.length ≤ 90000)) (.ok (.tup (itemsOf ks 2)) S1)
    | none => .bad))
  | .Call (.Name "min" _) [o] [⟨some "key", .Name f _, _⟩] _ => guard' (minG pg g f o) ((E.e g env S o).bind fun w S1 => (match seqL S1 w with
    | some ws => lift (minR (keyC cl f) ws) S1
    | none => .bad))
  | e => stepE1 pg cl E g env S e
def ev (pg : Pg) (cl : Str → List W → Sto → R W) : Nat → Evs
  | 0 => ⟨fun _ _ _ _ => .bad, fun _ _ _ _ => .bad, fun _ _ _ _ => .bad⟩
  | n + 1 => ⟨stepE pg cl (ev pg cl n), stepT pg cl (ev pg cl n), stepS pg cl (ev pg cl n)⟩
end Mi

set_option Elab.async false
set_option linter.all false
set_option maxRecDepth 100000
set_option maxHeartbeats 4000000
/-! Mi4: what the evaluator says is what happens: words, parts. -/
noncomputable section
namespace Mi
open PySem PySem.Spec PyProof.Rows L2
variable [Gam]

/-! ### weakest words -/
section
variable {X : Cx} {e : Expr} {es : List Expr} {st : Stmt} {sts : List Stmt} {σ : L2.St} {H : Hp}
def wE (X : Cx) (e : Expr) : TE := fun σ H Q => ∀ pins s, Inv X pins σ H s → wpAny (model X.prog X.w) X.A (eval e X.env) (EP X pins σ Q) X.xe s
theorem pwE : PE X e (wE X e) := ⟨fun pins s _ _ _ I h => h pins s I⟩
theorem wE_of {t : TE} (h : PE X e t) {Q : VK} (q : t σ H Q) : wE X e σ H Q := fun pins s I => h.run pins s σ H Q I q
def wT (X : Cx) (e : Expr) : TT := fun σ H Q => ∀ pins s, Inv X pins σ H s → wpAny (model X.prog X.w) X.A (isTrue e X.env (eval e X.env)) (TP X pins σ Q) X.xe s
theorem pwT : PT X e (wT X e) := ⟨fun pins s _ _ _ I h => h pins s I⟩
theorem wT_of {t : TT} (h : PT X e t) {Q : Bool → Hp → Prop} (q : t σ H Q) : wT X e σ H Q := fun pins s I => h.run pins s σ H Q I q
def wW (X : Cx) (e : Expr) : TT := fun σ H Q => ∀ whole pins s, Inv X pins σ H s → wpAny (model X.prog X.w) X.A (isTrue e X.env whole) (TP X pins σ Q) X.xe s
theorem pwW : PW X e (wW X e) := ⟨fun wh pins s _ _ _ I h => h wh pins s I⟩
theorem wW_of {t : TT} (h : PW X e t) {Q : Bool → Hp → Prop} (q : t σ H Q) : wW X e σ H Q := fun wh pins s I => h.run wh pins s σ H Q I q
def wA (X : Cx) (es : List Expr) : TA := fun σ H Q => ∀ pos pins s, Inv X pins σ H s → wpAny (model X.prog X.w) X.A (spliced (backTo pos (starEach es X.env))) (AP X pins σ Q) X.xe s
theorem pwA : PA X es (wA X es) := ⟨fun pos pins s _ _ _ I h => h pos pins s I⟩
theorem wA_of {t : TA} (h : PA X es t) {Q : List V → Hp → Prop} (q : t σ H Q) : wA X es σ H Q := fun pos pins s I => h.run pos pins s σ H Q I q
theorem wA_mono {P P' : List V → Hp → Prop} (h : wA X es σ H P) (f : ∀ vs H, P vs H → P' vs H) : wA X es σ H P' := fun pos pins s I => thn (h pos pins s I) fun us s' ⟨vs, H', I', r, q⟩ => ⟨vs, H', I', r, f _ _ q⟩
def wS (X : Cx) (st : Stmt) : TS := fun D σ H => ∀ pins s, Inv X pins σ H s → wpAny (model X.prog X.w) X.A (exec st X.env) (SP X pins D) X.xe s
theorem pwS : PS X st (wS X st) := ⟨fun pins s _ _ _ I h => h pins s I⟩
theorem wS_of {t : TS} (h : PS X st t) {D : Ends} (q : t D σ H) : wS X st D σ H := fun pins s I => h.run pins s σ H D I q
def wSs (X : Cx) (sts : List Stmt) : TS := fun D σ H => ∀ pins s, Inv X pins σ H s → wpAny (model X.prog X.w) X.A (execs sts X.env) (SP X pins D) X.xe s
theorem pwSs : PSs X sts (wSs X sts) := ⟨fun pins s _ _ _ I h => h pins s I⟩
theorem wSs_of {t : TS} (h : PSs X sts t) {D : Ends} (q : t D σ H) : wSs X sts D σ H := fun pins s I => h.run pins s σ H D I q
end

/-! ### slots -/
structure Sl (K : PySem.W.Frag) (B : Hp) (ρ : List Addr) (σ : L2.St) (env : Env') : Prop where
  len : σ.length = env.length
  at_ : ∀ (i : Nat) (w : W), env[i]? = some (some w) → ∃ v, σ[i]? = some (some v) ∧ Rep K B ρ v w
theorem Sl.mono {K : PySem.W.Frag} {B B' H H' : Hp} {ρ ρ' : List Addr} {σ : L2.St} {env : Env'} (s : Sl K B ρ σ env) (e : Ext ρ B H ρ' B' H') : Sl K B' ρ' σ env :=
  ⟨s.len, fun i w h => by
    obtain ⟨v, h1, h2⟩ := s.at_ i w h
    exact ⟨v, h1, h2.mono e.b e.pre⟩⟩
theorem Sl.set {K : PySem.W.Frag} {B : Hp} {ρ : List Addr} {σ : L2.St} {env : Env'} (s : Sl K B ρ σ env) {v : V} {w : W} (r : Rep K B ρ v w) (i : Nat) : Sl K B ρ (σ.set i (some v)) (env.set i (some w)) := by
  refine ⟨by simp [s.len], fun j x h => ?_⟩
  by_cases hj : i = j
  · subst hj
    by_cases hi : i < env.length
    · rw [List.getElem?_set_self hi] at h
      cases h
      exact ⟨v, by rw [List.getElem?_set_self (by rw [s.len]; exact hi)], r⟩
    · rw [List.getElem?_eq_none (by simp; omega)] at h
      cases h
  · rw [List.getElem?_set_ne hj] at h
    rw [List.getElem?_set_ne hj]
    exact s.at_ j x h
theorem Sl.wipe {K : PySem.W.Frag} {B : Hp} {ρ : List Addr} {σ : L2.St} {env : Env'} (s : Sl K B ρ σ env) : ∀ vs : List Nat, Sl K B ρ (wipe σ vs) (wipeE env vs)
  | [] => s
  | v :: vs => by
    have ih := Sl.wipe s vs
    unfold L2.wipe wipeE
    refine ⟨by simp [ih.len], fun j x h => ?_⟩
    by_cases hj : v = j
    · subst hj
      by_cases hi : v < (wipeE env vs).length
      · rw [List.getElem?_set_self hi] at h
        cases h
      · rw [List.getElem?_eq_none (by simp; omega)] at h
        cases h
    · rw [List.getElem?_set_ne hj] at h
      rw [List.getElem?_set_ne hj]
      exact ih.at_ j x h

/-! ### what is let out -/
inductive RepF (K : PySem.W.Frag) (B : Hp) (ρ : List Addr) : List (Str × V) → List (Str × W) → Prop
  | nil : RepF K B ρ [] []
  | cons {x : Str} {v : V} {w : W} {fv : List (Str × V)} {fs : List (Str × W)} : Rep K B ρ v w → RepF K B ρ fv fs → RepF K B ρ ((x, v) :: fv) ((x, w) :: fs)
def ExP (K : PySem.W.Frag) (mg : Str → Option Value) (Wx : WX) : Str → List (Str × W) → Env' → List Addr → Hp → Hp → Prop := fun c fs env ρ' B' H' =>
  ∀ σ' C d fv, Sl K B' ρ' σ' env → mg c = some (.ref C) → H' d = some (.xd fv) → RepF K B' ρ' fv fs → Wx (.ref C) (some d) σ' H'
/-- what a def promises: what the evaluator's call says -/
def SpF (K : PySem.W.Frag) (mg : Str → Option Value) (cl : Str → List W → Sto → R W) (f : Str) (n : Nat) : Sp := fun vs H Q E => vs.length = n ∧ ∃ ρ S B ws, SR K ρ S B H ∧ RepL K B ρ vs ws ∧
  Hold K (cl f ws S) ρ B H (fun w S' ρ' B' H' => ∀ v, Rep K B' ρ' v w → Q v H') (fun c fs _ ρ' B' H' => ∀ C d fv, mg c = some (.ref C) → H' d = some (.xd fv) → RepF K B' ρ' fv fs → E (.ref C) (some d) H')

/-! ### where the evaluator stands -/
/-- what the __init__ of an exception promises: it keeps what it is given under the names -/
def SpI (K : PySem.W.Frag) (ns : List Str) : Sp := fun vs H Q _ => vs.length = ns.length + 1 ∧ ∃ a C us, vs = .ref a :: us ∧ OexC K C ∧ (∀ f ∈ ns, PySem.W.findIn K (.ref C) f = some none) ∧ H a = some (exo a C none) ∧
  ∀ dx, H dx = none → dx ≠ a → Q .non (upd (upd H dx (exd dx (ns.zip us).reverse)) a (exo a C (some dx)))
/-- what isinstance asks of a class -/
structure IsC (K : PySem.W.Frag) (C : Addr) : Prop where
  cl : Cls K C
  ha : PySem.W.findIn K (.ref C) "__class__" = some (some (.builtin "object.__class__"))
  hn : PySem.W.specialIn K (.builtin "object.__class__") "__get__" = some (some (.builtin "getset_descriptor.__get__"))
  htk : PySem.W.takesIn K (.builtin "object.__class__") = some true
  hm : PySem.W.mroIn K C (.type "object") = some true
/-- a type by its name -/
def TyN (K : PySem.W.Frag) (c : Str) (u : Value) : Prop := match tyB c with
  | some n => u = .type n
  | none => ∃ C, Gam.cls c = some C ∧ u = .ref C ∧ IsC K C
/-- the last parameters' defaults are known -/
def Dfl (K : PySem.W.Frag) (fd : FuncData) (ps : List Str) (dws : List W) : Prop := ∃ (ds : List Value) (dv : List V), Binds K fd ps ds ∧ Vals dv ds ∧ ∀ B ρ, RepL K B ρ dv dws
/-- what must be known of the classes with an own == -/
def EqsOk (q : Str → Str → Bool) (cl : Str → List W → Sto → R W) (X : Cx) : Prop := ∀ c d, q c d = true → Gam.tabs = [] ∧ ∃ C D f fd k ps, Gam.cls c = some C ∧ Gam.cls d = some D ∧ PySem.W.notFirst X.K C (.ref D) = true ∧
  PySem.W.findIn X.K (.ref C) "__eq__" = some (some (.ref f)) ∧ PySem.W.isFn X.K (.ref f) = true ∧ PySem.W.findIn X.K (.ref C) "__ne__" = some (some (.builtin "object.__ne__")) ∧ PySem.W.mroIn X.K C (.type "object") = some true ∧
  FnOk X.prog X.w X.K X.mg X.base (L2.CX X.prog X.w) k f fd ps (SpF X.K X.mg cl (mName c "__eq__") 2) ∧ Binds X.K fd ps [] ∧ Room (k + 7) X.A
def EqsL (lv : Nat) (q : Str → Str → Bool) (cl : Str → List W → Sto → R W) (X : Cx) : Prop := ∀ c d, q c d = true → Gam.tabs = [] ∧ ∃ C D f fd k ps, Gam.cls c = some C ∧ Gam.cls d = some D ∧ PySem.W.notFirst X.K C (.ref D) = true ∧
  PySem.W.findIn X.K (.ref C) "__eq__" = some (some (.ref f)) ∧ PySem.W.isFn X.K (.ref f) = true ∧ PySem.W.findIn X.K (.ref C) "__ne__" = some (some (.builtin "object.__ne__")) ∧ PySem.W.mroIn X.K C (.type "object") = some true ∧
  FnOk X.prog X.w X.K X.mg X.base (L2.CX X.prog X.w) k f fd ps (SpF X.K X.mg cl (mName c "__eq__") 2) ∧ Binds X.K fd ps [] ∧ k + 7 ≤ lv
/-- what is known of a def that is handed a lambda -/
structure ToldOk (K : PySem.W.Frag) (mg : Str → Option Value) (f : Str) (t : Told) : Prop where
  ex : ∃ (g : Addr) (a : Str) (pr : Arguments) (fd : FuncData) (dvs : List V), mg f = some (.ref g) ∧ FunD K f f pr t.body t.sc dvs [] g fd ∧ L2.Binds K fd [a] [] ∧ FnScope t.N [a] t.sc ∧ t.N[0]? = some a ∧ Vis t.sc a
/-- where lambdas are made -/
def LamOk (lv : Nat) (X : Cx) : Prop := Room (lv + 2) X.A ∧ ∃ c P, X.env.code = .ref c ∧ LamX.TabB X.base X.mg c P ∧ (P, X.env.qual ++ "<lambda>") ∈ Gam.tabs ∧ ∀ p ∈ Gam.tabs, p.1 = P → p.2 = X.env.qual ++ "<lambda>"
structure CxL (lv : Nat) (pg : Pg) (cl : Str → List W → Sto → R W) (g : Gm) (Wx : WX) (X : Cx) : Prop where
  N : X.N = g.N
  nd : X.N.Nodup
  sc : X.env.scope = g.sc
  fn : X.fn = g.fn
  calm : X.calm = true
  un : X.A.units + 65 < cLine
  pass : PassesOwn (model X.prog X.w) X.A X.env X.xe
  tk : Takes X Wx
  cst : ∀ x w, pg.cst x = some w → ∃ u v, X.mg x = some u ∧ RelV v u ∧ ∀ B, Rep X.K B [] v w
  fns : ∀ f n, pg.ar f = some n → ∃ a fd k ps, ps.length = n ∧ FnOk X.prog X.w X.K X.mg X.base (L2.CX X.prog X.w) k a fd ps (SpF X.K X.mg cl f n) ∧ X.mg f = some (.ref a) ∧ PySem.W.keepIn X.K (.ref a) = true ∧ Binds X.K fd ps [] ∧ k + 7 ≤ lv
  free : ∀ f ∈ pg.free, X.mg f = none
  flds : ∀ c f, pg.fld c f = true → ∃ C, Gam.cls c = some C ∧ Cls X.K C ∧ NoAttr X.K C f
  xcs : ∀ c ns, pg.xc c = some ns → ∃ C a fd k ps, X.mg c = some (.ref C) ∧ OexC X.K C ∧ (∀ f ∈ ns, PySem.W.findIn X.K (.ref C) f = some none) ∧ PySem.W.findIn X.K (.ref C) "__init__" = some (some (.ref a)) ∧ PySem.W.typeIn X.K (.ref a) = some (.type "function") ∧
    FnOk X.prog X.w X.K X.mg X.base (L2.CX X.prog X.w) k a fd ps (SpI X.K ns) ∧ Binds X.K fd ps [] ∧ k + 1 ≤ lv
  top : g.top = true → X.stack = X.env :: X.outer ∧ X.env.frame = some X.env.locals
  exk : ∀ x, pg.exk x = true → ∃ C, X.mg x = some (.ref C)
  exm : ∀ c x b, pg.exm c x = some b → ∃ C Cx, X.mg c = some (.ref C) ∧ X.mg x = some (.ref Cx) ∧ PySem.W.exmOne X.K (.ref C) (.ref Cx) = some b
  exf : ∀ c f, pg.exf c f = true → ∃ C, X.mg c = some (.ref C) ∧ XfC X.K C ∧ PySem.W.findIn X.K (.ref C) f = some none
  exi : ∀ c t b, pg.exi c t = some b → ∃ C cv, X.mg c = some (.ref C) ∧ ExcC X.K C ∧ PySem.W.kitOne X.K (.ref C) cv = some b ∧ ((∃ Ct, X.mg t = some (.ref Ct) ∧ cv = .ref Ct) ∨ (X.mg t = none ∧ ∃ T, bootBuiltins t = some (.type T) ∧ cv = .type T))
  isi : ∀ c t b, pg.isi c t = some b → ∃ u cv, TyN X.K c u ∧ PySem.W.kitOne X.K u cv = some b ∧ ((∃ Ct, X.mg t = some (.ref Ct) ∧ cv = .ref Ct) ∨ (X.mg t = none ∧ ∃ T, bootBuiltins t = some (.type T) ∧ cv = .type T))
  mts : ∀ c m n, pg.mt c m = some n → ∃ C a fd k ps, Gam.cls c = some C ∧ Cls X.K C ∧ Meth X.K C m a ∧ FnOk X.prog X.w X.K X.mg X.base (L2.CX X.prog X.w) k a fd ps (SpF X.K X.mg cl (mName c m) (n + 1)) ∧ Binds X.K fd ps [] ∧ k ≤ lv
  news : ∀ c n fz, pg.new c = some (n, fz) → ∃ C a fd k ps, Gam.cls c = some C ∧ X.mg c = some (.ref C) ∧ Mk X.K C a ∧ FnOk X.prog X.w X.K X.mg X.base (L2.CX X.prog X.w) k a fd ps (SpF X.K X.mg cl (mName c "__init__") (n + 1)) ∧ (∀ j, Dfl X.K fd ps ((pg.dfl c).drop j)) ∧ k + 1 ≤ lv
  eqs : EqsL lv pg.eq cl X
  ownT : g.own = true → Gam.tabs = []
  rm : Room lv X.A
  wd : Gam.wd = X.w
  lam : g.lam = true → LamOk lv X
  told : ∀ f t, pg.told f = some t → ToldOk X.K X.mg f t
def CxOk (pg : Pg) (cl : Str → List W → Sto → R W) (g : Gm) (Wx : WX) (X : Cx) : Prop := ∃ lv, CxL lv pg cl g Wx X
section
variable {pg : Pg} {cl : Str → List W → Sto → R W} {g : Gm} {Wx : WX} {X : Cx}
theorem CxOk.N (C : CxOk pg cl g Wx X) : X.N = g.N := C.elim fun _ c => c.N
theorem CxOk.nd (C : CxOk pg cl g Wx X) : X.N.Nodup := C.elim fun _ c => c.nd
theorem CxOk.sc (C : CxOk pg cl g Wx X) : X.env.scope = g.sc := C.elim fun _ c => c.sc
theorem CxOk.fn (C : CxOk pg cl g Wx X) : X.fn = g.fn := C.elim fun _ c => c.fn
theorem CxOk.calm (C : CxOk pg cl g Wx X) : X.calm = true := C.elim fun _ c => c.calm
theorem CxOk.un (C : CxOk pg cl g Wx X) : X.A.units + 65 < cLine := C.elim fun _ c => c.un
theorem CxOk.pass (C : CxOk pg cl g Wx X) : PassesOwn (model X.prog X.w) X.A X.env X.xe := C.elim fun _ c => c.pass
theorem CxOk.tk (C : CxOk pg cl g Wx X) : Takes X Wx := C.elim fun _ c => c.tk
theorem CxOk.cst (C : CxOk pg cl g Wx X) : ∀ x w, pg.cst x = some w → ∃ u v, X.mg x = some u ∧ RelV v u ∧ ∀ B, Rep X.K B [] v w := C.elim fun _ c => c.cst
theorem CxOk.fns (C : CxOk pg cl g Wx X) : ∀ f n, pg.ar f = some n → ∃ a fd k ps, ps.length = n ∧ FnOk X.prog X.w X.K X.mg X.base (L2.CX X.prog X.w) k a fd ps (SpF X.K X.mg cl f n) ∧ X.mg f = some (.ref a) ∧ PySem.W.keepIn X.K (.ref a) = true ∧ Binds X.K fd ps [] ∧ Room (k + 7) X.A := fun f n h => by
  obtain ⟨lv, c⟩ := C
  obtain ⟨a, fd, k, ps, h1, h2, h3, h4, h5, h6⟩ := c.fns f n h
  exact ⟨a, fd, k, ps, h1, h2, h3, h4, h5, c.rm.mono h6⟩
theorem CxOk.free (C : CxOk pg cl g Wx X) : ∀ f ∈ pg.free, X.mg f = none := C.elim fun _ c => c.free
theorem CxOk.flds (C : CxOk pg cl g Wx X) : ∀ c f, pg.fld c f = true → ∃ C, Gam.cls c = some C ∧ Cls X.K C ∧ NoAttr X.K C f := C.elim fun _ c => c.flds
theorem CxOk.xcs (C : CxOk pg cl g Wx X) : ∀ c ns, pg.xc c = some ns → ∃ C a fd k ps, X.mg c = some (.ref C) ∧ OexC X.K C ∧ (∀ f ∈ ns, PySem.W.findIn X.K (.ref C) f = some none) ∧ PySem.W.findIn X.K (.ref C) "__init__" = some (some (.ref a)) ∧ PySem.W.typeIn X.K (.ref a) = some (.type "function") ∧ FnOk X.prog X.w X.K X.mg X.base (L2.CX X.prog X.w) k a fd ps (SpI X.K ns) ∧ Binds X.K fd ps [] ∧ Room (k + 1) X.A := fun f n h => by
  obtain ⟨lv, c⟩ := C
  obtain ⟨C, a, fd, k, ps, h1, h2, h3, h4, h5, h6, h7, h8⟩ := c.xcs f n h
  exact ⟨C, a, fd, k, ps, h1, h2, h3, h4, h5, h6, h7, c.rm.mono h8⟩
theorem CxOk.top (C : CxOk pg cl g Wx X) : g.top = true → X.stack = X.env :: X.outer ∧ X.env.frame = some X.env.locals := C.elim fun _ c => c.top
theorem CxOk.exk (C : CxOk pg cl g Wx X) : ∀ x, pg.exk x = true → ∃ C, X.mg x = some (.ref C) := C.elim fun _ c => c.exk
theorem CxOk.exm (C : CxOk pg cl g Wx X) : ∀ c x b, pg.exm c x = some b → ∃ C Cx, X.mg c = some (.ref C) ∧ X.mg x = some (.ref Cx) ∧ PySem.W.exmOne X.K (.ref C) (.ref Cx) = some b := C.elim fun _ c => c.exm
theorem CxOk.exf (C : CxOk pg cl g Wx X) : ∀ c f, pg.exf c f = true → ∃ C, X.mg c = some (.ref C) ∧ XfC X.K C ∧ PySem.W.findIn X.K (.ref C) f = some none := C.elim fun _ c => c.exf
theorem CxOk.exi (C : CxOk pg cl g Wx X) : ∀ c t b, pg.exi c t = some b → ∃ C cv, X.mg c = some (.ref C) ∧ ExcC X.K C ∧ PySem.W.kitOne X.K (.ref C) cv = some b ∧ ((∃ Ct, X.mg t = some (.ref Ct) ∧ cv = .ref Ct) ∨ (X.mg t = none ∧ ∃ T, bootBuiltins t = some (.type T) ∧ cv = .type T)) := C.elim fun _ c => c.exi
theorem CxOk.isi (C : CxOk pg cl g Wx X) : ∀ c t b, pg.isi c t = some b → ∃ u cv, TyN X.K c u ∧ PySem.W.kitOne X.K u cv = some b ∧ ((∃ Ct, X.mg t = some (.ref Ct) ∧ cv = .ref Ct) ∨ (X.mg t = none ∧ ∃ T, bootBuiltins t = some (.type T) ∧ cv = .type T)) := C.elim fun _ c => c.isi
theorem CxOk.mts (C : CxOk pg cl g Wx X) : ∀ c m n, pg.mt c m = some n → ∃ C a fd k ps, Gam.cls c = some C ∧ Cls X.K C ∧ Meth X.K C m a ∧ FnOk X.prog X.w X.K X.mg X.base (L2.CX X.prog X.w) k a fd ps (SpF X.K X.mg cl (mName c m) (n + 1)) ∧ Binds X.K fd ps [] ∧ Room k X.A := fun f m n h => by
  obtain ⟨lv, c⟩ := C
  obtain ⟨C, a, fd, k, ps, h1, h2, h3, h4, h5, h6⟩ := c.mts f m n h
  exact ⟨C, a, fd, k, ps, h1, h2, h3, h4, h5, c.rm.mono h6⟩
theorem CxOk.news (C : CxOk pg cl g Wx X) : ∀ c n fz, pg.new c = some (n, fz) → ∃ C a fd k ps, Gam.cls c = some C ∧ X.mg c = some (.ref C) ∧ Mk X.K C a ∧ FnOk X.prog X.w X.K X.mg X.base (L2.CX X.prog X.w) k a fd ps (SpF X.K X.mg cl (mName c "__init__") (n + 1)) ∧ (∀ j, Dfl X.K fd ps ((pg.dfl c).drop j)) ∧ Room (k + 1) X.A := fun f m n h => by
  obtain ⟨lv, c⟩ := C
  obtain ⟨C, a, fd, k, ps, h1, h2, h3, h4, h5, h6⟩ := c.news f m n h
  exact ⟨C, a, fd, k, ps, h1, h2, h3, h4, h5, c.rm.mono h6⟩
theorem CxOk.eqs (C : CxOk pg cl g Wx X) : EqsOk pg.eq cl X := fun f m h => by
  obtain ⟨lv, c⟩ := C
  obtain ⟨g0, C, D, fa, fd, k, ps, h1, h2, h3, h4, h5, h6, h7, h8, h9, h10⟩ := c.eqs f m h
  exact ⟨g0, C, D, fa, fd, k, ps, h1, h2, h3, h4, h5, h6, h7, h8, h9, c.rm.mono h10⟩
theorem CxOk.wd (C : CxOk pg cl g Wx X) : Gam.wd = X.w := C.elim fun _ c => c.wd
theorem CxOk.ownT (C : CxOk pg cl g Wx X) : g.own = true → Gam.tabs = [] := C.elim fun _ c => c.ownT
end

def okE (K : PySem.W.Frag) (Q : VK) : W → Sto → List Addr → Hp → Hp → Prop := fun w _ ρ' B' H' => ∀ v, Rep K B' ρ' v w → Q v H'
def okT (Q : Bool → Hp → Prop) : Bool → Sto → List Addr → Hp → Hp → Prop := fun b _ _ _ H' => Q b H'
def okA (K : PySem.W.Frag) (Q : List V → Hp → Prop) : List W → Sto → List Addr → Hp → Hp → Prop := fun ws _ ρ' B' H' => ∀ vs, RepL K B' ρ' vs ws → Q vs H'
def okS (K : PySem.W.Frag) (D : Ends) : Out' → Sto → List Addr → Hp → Hp → Prop := fun o _ ρ' B' H' => match o with
  | .next env => ∀ σ', Sl K B' ρ' σ' env → D.nx σ' H'
  | .ret w => ∀ v, Rep K B' ρ' v w → D.rt v H'
  | .brk env => ∀ σ', Sl K B' ρ' σ' env → D.bk σ' H'
  | .cont env => ∀ σ', Sl K B' ρ' σ' env → D.ct σ' H'
/-- the evaluator is right -/
structure EvOk (pg : Pg) (cl : Str → List W → Sto → R W) (E : Evs) : Prop where
  e : ∀ {g : Gm} {Wx : WX} {X : Cx}, CxOk pg cl g Wx X → ∀ {e : Expr} {env : Env'} {S : Sto} {σ : L2.St} {ρ : List Addr} {B H : Hp} {Q : VK}, Sl X.K B ρ σ env → SR X.K ρ S B H → Hold X.K (E.e g env S e) ρ B H (okE X.K Q) (ExP X.K X.mg Wx) → wE X e σ H Q
  t : ∀ {g : Gm} {Wx : WX} {X : Cx}, CxOk pg cl g Wx X → ∀ {e : Expr} {env : Env'} {S : Sto} {σ : L2.St} {ρ : List Addr} {B H : Hp} {Q : Bool → Hp → Prop}, Sl X.K B ρ σ env → SR X.K ρ S B H → Hold X.K (E.t g env S e) ρ B H (okT Q) (ExP X.K X.mg Wx) → wT X e σ H Q
  s : ∀ {g : Gm} {Wx : WX} {X : Cx}, CxOk pg cl g Wx X → ∀ {st : Stmt} {env : Env'} {S : Sto} {σ : L2.St} {ρ : List Addr} {B H : Hp} {D : Ends}, Sl X.K B ρ σ env → SR X.K ρ S B H → Hold X.K (E.s g env S st) ρ B H (okS X.K D) (ExP X.K X.mg Wx) → wS X st D σ H

section
variable {pg : Pg} {cl : Str → List W → Sto → R W} {E : Evs} {g : Gm} {Wx : WX} {X : Cx}
/-- the next part -/
theorem EvOk.e' (h : EvOk pg cl E) (C : CxOk pg cl g Wx X) {β : Type} {e : Expr} {env : Env'} {S : Sto} {σ : L2.St} {ρ : List Addr} {B H : Hp} {Q : VK} {f : W → Sto → R β} {ok : β → Sto → List Addr → Hp → Hp → Prop} (sl : Sl X.K B ρ σ env) (sr : SR X.K ρ S B H)
    (hd : Hold X.K ((E.e g env S e).bind f) ρ B H ok (ExP X.K X.mg Wx)) (k : ∀ w S' ρ' B' H' v, Ext ρ B H ρ' B' H' → SR X.K ρ' S' B' H' → Sl X.K B' ρ' σ env → Rep X.K B' ρ' v w → Hold X.K (f w S') ρ' B' H' ok (ExP X.K X.mg Wx) → Q v H') : wE X e σ H Q :=
  h.e C sl sr (hd.bind.imp (fun w S' ρ' B' H' x s' q v r => k w S' ρ' B' H' v x s' (sl.mono x) r q) fun _ _ _ _ _ _ q => q)
theorem EvOk.t' (h : EvOk pg cl E) (C : CxOk pg cl g Wx X) {β : Type} {e : Expr} {env : Env'} {S : Sto} {σ : L2.St} {ρ : List Addr} {B H : Hp} {Q : Bool → Hp → Prop} {f : Bool → Sto → R β} {ok : β → Sto → List Addr → Hp → Hp → Prop} (sl : Sl X.K B ρ σ env) (sr : SR X.K ρ S B H)
    (hd : Hold X.K ((E.t g env S e).bind f) ρ B H ok (ExP X.K X.mg Wx)) (k : ∀ b S' ρ' B' H', Ext ρ B H ρ' B' H' → SR X.K ρ' S' B' H' → Sl X.K B' ρ' σ env → Hold X.K (f b S') ρ' B' H' ok (ExP X.K X.mg Wx) → Q b H') : wT X e σ H Q :=
  h.t C sl sr (hd.bind.imp (fun b S' ρ' B' H' x s' q => k b S' ρ' B' H' x s' (sl.mono x) q) fun _ _ _ _ _ _ q => q)
theorem Hold.here {K : PySem.W.Frag} {α : Type} {a : α} {S : Sto} {ρ : List Addr} {B H : Hp} {ok : α → Sto → List Addr → Hp → Hp → Prop} {ex : Str → List (Str × W) → Env' → List Addr → Hp → Hp → Prop} (h : Hold K (.ok a S) ρ B H ok ex) (s : SR K ρ S B H) : ok a S ρ B H := h ρ B H Ext.refl s
/-- a value at the end -/
theorem Hold.val {K : PySem.W.Frag} {w : W} {S : Sto} {ρ : List Addr} {B H : Hp} {Q : VK} {ex : Str → List (Str × W) → Env' → List Addr → Hp → Hp → Prop} (h : Hold K (.ok w S) ρ B H (okE K Q) ex) : Val K w S Q ρ B H :=
  fun ρ' B' H' v x s r => h ρ' B' H' x s v r

/-! ### rows of parts -/
theorem star_no {e : Expr} {es : List Expr} {env : Env} (h : notStar e = true) : starEach (e :: es) env = (false, eval e env) :: starEach es env := by
  cases e <;> first | rfl | cases h
theorem mapR0_ok (hE : EvOk pg cl E) (C : CxOk pg cl g Wx X) : ∀ {es : List Expr} {env : Env'} {S : Sto} {σ : L2.St} {ρ : List Addr} {B H : Hp} {Q : List V → Hp → Prop}, es.all notStar = true → Sl X.K B ρ σ env → SR X.K ρ S B H →
    Hold X.K (mapR0 (fun e S => E.e g env S e) es S) ρ B H (okA X.K Q) (ExP X.K X.mg Wx) → wA X es σ H Q
  | [], env, S, σ, ρ, B, H, Q, hs, sl, sr, h => wA_of pa_nil (h.here sr [] .nil)
  | e :: es, env, S, σ, ρ, B, H, Q, hs, sl, sr, h => by
    unfold mapR0 at h
    rw [List.all_cons, Bool.and_eq_true] at hs
    refine wA_of (pa_cons pwE pwA (star_no hs.1)) ?_
    refine hE.e' C sl sr h fun w S1 ρ1 B1 H1 v x s1 sl1 r q => ?_
    refine mapR0_ok hE C hs.2 sl1 s1 (q.bind.imp (fun ws S2 ρ2 B2 H2 x2 s2 q2 vs rs => ?_) fun _ _ _ _ _ _ z => z)
    exact q2.here s2 (v :: vs) (.cons (r.mono x2.b x2.pre) rs)
theorem mapR_ok (hE : EvOk pg cl E) (C : CxOk pg cl g Wx X) {es : List Expr} {env : Env'} {S : Sto} {σ : L2.St} {ρ : List Addr} {B H : Hp} {Q : List V → Hp → Prop} (sl : Sl X.K B ρ σ env) (sr : SR X.K ρ S B H)
    (h : Hold X.K (mapR (fun e S => E.e g env S e) es S) ρ B H (okA X.K Q) (ExP X.K X.mg Wx)) : wA X es σ H Q :=
  let ⟨h1, h2⟩ := h.grd
  mapR0_ok hE C h1 sl sr h2
theorem mapR_stars {K : PySem.W.Frag} {β : Type} {f : Expr → Sto → R W} {es : List Expr} {S : Sto} {k : List W → Sto → R β} {ρ : List Addr} {B H : Hp} {ok : β → Sto → List Addr → Hp → Hp → Prop} {ex : Str → List (Str × W) → Env' → List Addr → Hp → Hp → Prop}
    (h : Hold K ((mapR f es S).bind k) ρ B H ok ex) : ∀ e ∈ es, notStar e = true := by
  have q := h.bind.grd.1
  exact List.all_eq_true.mp q
theorem mapR_bind (hE : EvOk pg cl E) (C : CxOk pg cl g Wx X) {β : Type} {es : List Expr} {env : Env'} {S : Sto} {σ : L2.St} {ρ : List Addr} {B H : Hp} {Q : List V → Hp → Prop} {f : List W → Sto → R β} {ok : β → Sto → List Addr → Hp → Hp → Prop} (sl : Sl X.K B ρ σ env) (sr : SR X.K ρ S B H)
    (hd : Hold X.K ((mapR (fun e S => E.e g env S e) es S).bind f) ρ B H ok (ExP X.K X.mg Wx)) (k : ∀ ws S' ρ' B' H' vs, Ext ρ B H ρ' B' H' → SR X.K ρ' S' B' H' → Sl X.K B' ρ' σ env → RepL X.K B' ρ' vs ws → Hold X.K (f ws S') ρ' B' H' ok (ExP X.K X.mg Wx) → Q vs H') : wA X es σ H Q :=
  mapR_ok hE C sl sr (hd.bind.imp (fun ws S' ρ' B' H' x s' q vs r => k ws S' ρ' B' H' vs x s' (sl.mono x) r q) fun _ _ _ _ _ _ q => q)
theorem allR_ok (hE : EvOk pg cl E) (C : CxOk pg cl g Wx X) {op : BoolOp} {pos : Pos} : ∀ {es : List Expr} {env : Env'} {S : Sto} {σ : L2.St} {ρ : List Addr} {B H : Hp} {Q : Bool → Hp → Prop}, Sl X.K B ρ σ env → SR X.K ρ S B H →
    Hold X.K (allR (fun e S => E.t g env S e) op es S) ρ B H (okT Q) (ExP X.K X.mg Wx) → wW X (.BoolOp op es pos) σ H Q
  | [], env, S, σ, ρ, B, H, Q, sl, sr, h => h.elim
  | [a], env, S, σ, ρ, B, H, Q, sl, sr, h => by
    cases op with
    | And => exact wW_of (pw_and1 pwT) (hE.t C sl sr h)
    | Or => exact wW_of (pw_or1 pwT) (hE.t C sl sr h)
  | a :: b :: r, env, S, σ, ρ, B, H, Q, sl, sr, h => by
    unfold allR at h
    cases op with
    | And =>
      refine wW_of (pw_and pwT pwW) (hE.t' C sl sr h fun c S1 ρ1 B1 H1 x s1 sl1 q => ?_)
      cases c with
      | true => exact iteT (allR_ok hE C sl1 s1 q)
      | false => exact iteF (q.here s1)
    | Or =>
      refine wW_of (pw_or pwT pwW) (hE.t' C sl sr h fun c S1 ρ1 B1 H1 x s1 sl1 q => ?_)
      cases c with
      | true => exact iteT (q.here s1)
      | false => exact iteF (allR_ok hE C sl1 s1 q)
/-! ### truth -/
theorem dctCell_ok {K : PySem.W.Frag} {B H : Hp} {ρ : List Addr} {S : Sto} {v : V} {w : W} {ks : List (Key × W)} (s : SR K ρ S B H) (r : Rep K B ρ v w) (e : dctCell S w = some ks) : ∃ a kv, v = .ref a ∧ H a = some (.dK kv) ∧ kv.map Prod.fst = ks.map Prod.fst := by
  cases r with
  | @ref n a h =>
    unfold dctCell at e
    dsimp only at e
    split at e
    · rename_i ks' q
      cases e
      obtain ⟨u, hu, ro⟩ := s.at h q
      cases ro with
      | dct e0 rr => exact ⟨_, _, rfl, hu, e0⟩
    · cases e
  | _ => cases e
theorem truth_ok {K : PySem.W.Frag} {B H : Hp} {ρ : List Addr} {S : Sto} {v : V} {w : W} {b : Bool} (s : SR K ρ S B H) (r : Rep K B ρ v w) (e : truth S w = some b) : TruV K v H b := by
  have emp : ∀ {xs : List V} {ws : List W}, RepL K B ρ xs ws → (!ws.isEmpty) = !xs.isEmpty := fun r => by cases r <;> rfl
  unfold truth at e
  split at e
  · cases r; cases e; rfl
  · cases r; cases e; rfl
  · cases r; cases e; rfl
  · cases r
    split at e
    · rename_i hz
      cases e
      exact ⟨small_line hz, rfl⟩
    · cases e
  · split at e
    · rename_i ws hs
      cases e
      obtain ⟨p, xs, rfl, h1, h2⟩ := seqL_ok s r hs
      exact .inl ⟨xs, h1, emp h2⟩
    · cases q : seqT w with
      | none =>
        rw [q] at e
        replace e : (match dctCell S w with
          | some ks => some (!ks.isEmpty)
          | none => none) = some b := e
        split at e
        · rename_i ks hk
          cases e
          obtain ⟨a, kv, rfl, h1, h2⟩ := dctCell_ok s r hk
          refine .inr (.inr ⟨kv, h1, ?_⟩)
          cases kv with
          | nil => cases ks with
            | nil => rfl
            | cons _ _ => cases h2
          | cons _ _ => cases ks with
            | nil => cases h2
            | cons _ _ => rfl
        · cases e
      | some ws =>
        rw [q] at e
        cases e
        obtain ⟨p, xs, rfl, h1, h2⟩ := seqT_ok s r q
        exact .inr (.inl ⟨xs, h1, emp h2⟩)
theorem valR_ok (hE : EvOk pg cl E) (C : CxOk pg cl g Wx X) {op : BoolOp} {pos : Pos} : ∀ {es : List Expr} {env : Env'} {S : Sto} {σ : L2.St} {ρ : List Addr} {B H : Hp} {Q : VK}, Sl X.K B ρ σ env → SR X.K ρ S B H →
    Hold X.K (valR (fun e S => E.e g env S e) op es S) ρ B H (okE X.K Q) (ExP X.K X.mg Wx) → wE X (.BoolOp op es pos) σ H Q
  | [], env, S, σ, ρ, B, H, Q, sl, sr, h => h.elim
  | [a], env, S, σ, ρ, B, H, Q, sl, sr, h => wE_of (pe_one pwE) (hE.e C sl sr h)
  | a :: b :: r, env, S, σ, ρ, B, H, Q, sl, sr, h => by
    unfold valR at h
    cases op with
    | And =>
      refine wE_of (pe_andT pwE pwE) (hE.e' C sl sr h fun w S1 ρ1 B1 H1 v x s1 sl1 rv q => ?_)
      have go : ∀ {w : W}, Rep X.K B1 ρ1 v w → Hold X.K (match truth S1 w with
        | some c => (match BoolOp.And, c with
          | .And, true => valR (fun e S => E.e g env S e) BoolOp.And (b :: r) S1
          | .And, false => .ok w S1
          | .Or, true => .ok w S1
          | .Or, false => valR (fun e S => E.e g env S e) BoolOp.And (b :: r) S1)
        | none => .bad) ρ1 B1 H1 (okE X.K Q) (ExP X.K X.mg Wx) → ∃ k, TruV X.K v H1 k ∧ if k = true then wE X (.BoolOp .And (b :: r) pos) σ H1 Q else Q v H1 := fun {w} rv q => by
        cases z : truth S1 w with
        | none => rw [z] at q; exact q.elim
        | some c =>
          rw [z] at q
          refine ⟨c, truth_ok s1 rv z, ?_⟩
          cases c with
          | true => exact iteT (valR_ok hE C sl1 s1 q)
          | false => exact iteF (q.here s1 _ rv)
      cases w with
      | bl c =>
        cases rv
        refine ⟨c, rfl, ?_⟩
        cases c with
        | true => exact iteT (valR_ok hE C sl1 s1 q)
        | false => exact iteF (q.here s1 _ (.bl _))
      | _ => exact go rv q
    | Or =>
      refine wE_of (pe_orT pwE pwE) (hE.e' C sl sr h fun w S1 ρ1 B1 H1 v x s1 sl1 rv q => ?_)
      have go : ∀ {w : W}, Rep X.K B1 ρ1 v w → Hold X.K (match truth S1 w with
        | some c => (match BoolOp.Or, c with
          | .And, true => valR (fun e S => E.e g env S e) BoolOp.Or (b :: r) S1
          | .And, false => .ok w S1
          | .Or, true => .ok w S1
          | .Or, false => valR (fun e S => E.e g env S e) BoolOp.Or (b :: r) S1)
        | none => .bad) ρ1 B1 H1 (okE X.K Q) (ExP X.K X.mg Wx) → ∃ k, TruV X.K v H1 k ∧ if k = true then Q v H1 else wE X (.BoolOp .Or (b :: r) pos) σ H1 Q := fun {w} rv q => by
        cases z : truth S1 w with
        | none => rw [z] at q; exact q.elim
        | some c =>
          rw [z] at q
          refine ⟨c, truth_ok s1 rv z, ?_⟩
          cases c with
          | true => exact iteT (q.here s1 _ rv)
          | false => exact iteF (valR_ok hE C sl1 s1 q)
      cases w with
      | bl c =>
        cases rv
        refine ⟨c, rfl, ?_⟩
        cases c with
        | true => exact iteT (q.here s1 _ (.bl _))
        | false => exact iteF (valR_ok hE C sl1 s1 q)
      | _ => exact go rv q
theorem seqR_ok (hE : EvOk pg cl E) (C : CxOk pg cl g Wx X) : ∀ {sts : List Stmt} {env : Env'} {S : Sto} {σ : L2.St} {ρ : List Addr} {B H : Hp} {D : Ends}, Sl X.K B ρ σ env → SR X.K ρ S B H →
    Hold X.K (seqR (fun env S s => E.s g env S s) sts env S) ρ B H (okS X.K D) (ExP X.K X.mg Wx) → wSs X sts D σ H
  | [], env, S, σ, ρ, B, H, D, sl, sr, h => wSs_of pss_nil (h.here sr σ sl)
  | s :: r, env, S, σ, ρ, B, H, D, sl, sr, h => by
    unfold seqR at h
    refine wSs_of (pss_cons pwS pwSs) ?_
    refine hE.s C sl sr (h.bind.imp (fun o S1 ρ1 B1 H1 x s1 q => ?_) fun _ _ _ _ _ _ z => z)
    cases o with
    | next env1 => exact fun σ' sl' => seqR_ok hE C sl' s1 q
    | ret w => exact q.here s1
    | brk env1 => exact q.here s1
    | cont env1 => exact q.here s1
end
/-! ### displays -/
section
variable {pg : Pg} {cl : Str → List W → Sto → R W} {E : Evs} {g : Gm} {Wx : WX} {X : Cx}
theorem R.bind_assoc {α β γ : Type} (r : R α) (f : α → Sto → R β) (k : β → Sto → R γ) : (r.bind f).bind k = r.bind fun a S => (f a S).bind k := by
  cases r <;> rfl
theorem own_base {o : Expr} {f : Str} {env : Env} (h : ownB o = true) : ∀ x, attributeBase o f env x = x := by
  intro x
  unfold ownB at h
  split at h <;> first | rfl | cases h
theorem valsOf_eq {e o : Expr} (h : valsOf e = some o) : ∃ ap cp, e = .Call (.Attribute o "values" ap) [] [] cp ∧ ownB o = true ∧ (ap.endLine == cp.line) = true := by
  unfold valsOf at h
  split at h
  · rename_i o' m ap cp
    split at h
    · rename_i q
      cases h
      rw [Bool.and_eq_true, Bool.and_eq_true] at q
      obtain ⟨q1, q2, q3⟩ := q
      have q1 := of_decide_eq_true q1
      subst q1
      exact ⟨ap, cp, rfl, q2, q3⟩
    · cases h
  · cases h
theorem mapS_ok (hE : EvOk pg cl E) (C : CxOk pg cl g Wx X) : ∀ {es : List Expr} {env : Env'} {S : Sto} {σ : L2.St} {ρ : List Addr} {B H : Hp} {Q : List V → Hp → Prop}, Sl X.K B ρ σ env → SR X.K ρ S B H →
    Hold X.K (mapS (fun e S => E.e g env S e) es S) ρ B H (okA X.K Q) (ExP X.K X.mg Wx) → wA X es σ H Q
  | [], env, S, σ, ρ, B, H, Q, sl, sr, h => wA_of pa_nil (h.here sr [] .nil)
  | e :: es, env, S, σ, ρ, B, H, Q, sl, sr, h => by
    have plain : notStar e = true → Hold X.K ((E.e g env S e).bind fun w S1 => (mapS (fun e S => E.e g env S e) es S1).bind fun ws S2 => .ok (w :: ws) S2) ρ B H (okA X.K Q) (ExP X.K X.mg Wx) → wA X (e :: es) σ H Q := fun ns h => by
      refine wA_of (pa_cons pwE pwA (star_no ns)) (hE.e' C sl sr h fun w S1 ρ1 B1 H1 v x s1 sl1 r k => ?_)
      refine (show wA X es σ H1 _ from mapS_ok hE C sl1 s1 (k.bind.imp (fun ws S2 ρ2 B2 H2 x2 s2 k2 vs rs => ?_) fun _ _ _ _ _ _ z => z))
      exact k2.here s2 _ (.cons (r.mono x2.b x2.pre) rs)
    cases e with
    | Starred e p =>
      have h0 : Hold X.K ((starW (fun e S => E.e g env S e) e S).bind fun w S1 => (match (seqL S1 w).orElse (fun _ => seqT w) with
        | some xs => (mapS (fun e S => E.e g env S e) es S1).bind fun ws S2 => .ok (xs ++ ws) S2
        | none => .bad)) ρ B H (okA X.K Q) (ExP X.K X.mg Wx) := h
      cases qv : valsOf e with
      | some o =>
        obtain ⟨ap, cp, rfl, q2, q3⟩ := valsOf_eq qv
        unfold starW at h0
        rw [qv] at h0
        replace h0 : Hold X.K (((E.e g env S o).bind fun w S1 => (match seqD S1 w with
          | some ks => R.ok (.tup (ks.map Prod.snd)) S1
          | none => .bad)).bind fun w S1 => (match (seqL S1 w).orElse (fun _ => seqT w) with
          | some xs => (mapS (fun e S => E.e g env S e) es S1).bind fun ws S2 => .ok (xs ++ ws) S2
          | none => .bad)) ρ B H (okA X.K Q) (ExP X.K X.mg Wx) := h0
        rw [R.bind_assoc] at h0
        refine wA_of (pa_starV C.calm pwE pwA (own_base q2 _) q3) (hE.e' C sl sr h0 fun w S1 ρ1 B1 H1 v x s1 sl1 r k => ?_)
        cases qd : seqD S1 w with
        | none => rw [qd] at k; exact k.elim
        | some ks =>
          rw [qd] at k
          replace k : Hold X.K ((mapS (fun e S => E.e g env S e) es S1).bind fun ws S2 => R.ok (ks.map Prod.snd ++ ws) S2) ρ1 B1 H1 (okA X.K Q) (ExP X.K X.mg Wx) := k
          obtain ⟨a, kv, rfl, hd, e0, rs⟩ := seqD_ok s1 r qd
          refine ⟨a, kv, rfl, hd, (show wA X es σ H1 _ from mapS_ok hE C sl1 s1 (k.bind.imp (fun ws S2 ρ2 B2 H2 x2 s2 k2 us ru => ?_) fun _ _ _ _ _ _ z => z))⟩
          exact k2.here s2 _ ((rs.mono x2.b x2.pre).append ru)
      | none =>
      have h' : Hold X.K ((E.e g env S e).bind fun w S1 => (match (seqL S1 w).orElse (fun _ => seqT w) with
        | some xs => (mapS (fun e S => E.e g env S e) es S1).bind fun ws S2 => .ok (xs ++ ws) S2
        | none => .bad)) ρ B H (okA X.K Q) (ExP X.K X.mg Wx) := by
        unfold starW at h0
        rw [qv] at h0
        exact h0
      refine wA_of (StX.pa_star pwE pwA) (hE.e' C sl sr h' fun w S1 ρ1 B1 H1 v x s1 sl1 r k => ?_)
      cases q : (seqL S1 w).orElse (fun _ => seqT w) with
      | none => rw [q] at k; exact k.elim
      | some xs =>
        rw [q] at k
        have both : ∃ p vs, v = .ref p ∧ (SqT X.K H1 p vs ∨ SqL X.K H1 p vs) ∧ RepL X.K B1 ρ1 vs xs := by
          cases q1 : seqL S1 w with
          | some ys =>
            rw [q1] at q
            cases q
            obtain ⟨p, vs, e1, e2, e3⟩ := seqL_ok s1 r q1
            exact ⟨p, vs, e1, .inr e2, e3⟩
          | none =>
            rw [q1] at q
            obtain ⟨p, vs, e1, e2, e3⟩ := seqT_ok s1 r (show seqT w = some xs from q)
            exact ⟨p, vs, e1, .inl e2, e3⟩
        obtain ⟨p, vs, rfl, hs, rs⟩ := both
        refine ⟨p, vs, rfl, hs, (show wA X es σ H1 _ from mapS_ok hE C sl1 s1 (k.bind.imp (fun ws S2 ρ2 B2 H2 x2 s2 k2 us ru => ?_) fun _ _ _ _ _ _ z => z))⟩
        exact k2.here s2 _ ((rs.mono x2.b x2.pre).append ru)
    | _ => exact plain rfl h
theorem mapS_bind (hE : EvOk pg cl E) (C : CxOk pg cl g Wx X) {β : Type} {es : List Expr} {env : Env'} {S : Sto} {σ : L2.St} {ρ : List Addr} {B H : Hp} {Q : List V → Hp → Prop} {f : List W → Sto → R β} {ok : β → Sto → List Addr → Hp → Hp → Prop} (sl : Sl X.K B ρ σ env) (sr : SR X.K ρ S B H)
    (hd : Hold X.K ((mapS (fun e S => E.e g env S e) es S).bind f) ρ B H ok (ExP X.K X.mg Wx)) (k : ∀ ws S' ρ' B' H' vs, Ext ρ B H ρ' B' H' → SR X.K ρ' S' B' H' → Sl X.K B' ρ' σ env → RepL X.K B' ρ' vs ws → Hold X.K (f ws S') ρ' B' H' ok (ExP X.K X.mg Wx) → Q vs H') : wA X es σ H Q :=
  mapS_ok hE C sl sr (hd.bind.imp (fun ws S' ρ' B' H' x s' q vs r => k ws S' ρ' B' H' vs x s' (sl.mono x) r q) fun _ _ _ _ _ _ q => q)
end
/-! ### a frame is left -/
section
variable {K : PySem.W.Frag} {ρ : List Addr} {S : Sto} {B H : Hp} {n0 : Nat}
/-- the cells of this frame, never to change -/
def addB (B H : Hp) (m : List Addr) : Hp := fun a => if a ∈ m then H a else B a
theorem addB_in {m : List Addr} {a : Addr} (h : a ∈ m) : addB B H m a = H a := if_pos h
theorem addB_out {m : List Addr} {a : Addr} (h : a ∉ m) : addB B H m a = B a := if_neg h
theorem addB_same (s : SR K ρ S B H) : Same B (addB B H (ρ.drop n0)) := fun a o h => by
  by_cases hm : a ∈ ρ.drop n0
  · rw [addB_in hm]
    exact s.same a o h
  · rw [addB_out hm]
    exact h
theorem zip_obj {κ : Type} {fv : List (κ × V)} {fs : List (κ × W)} {xs : List W} {K' : PySem.W.Frag} {B' : Hp} {ρ' : List Addr} (e0 : fv.map Prod.fst = fs.map Prod.fst) (z : RepL K' B' ρ' (fv.map Prod.snd) xs) :
    fv.map Prod.fst = (((fs.map Prod.fst).zip xs) : List (κ × W)).map Prod.fst ∧ RepL K' B' ρ' (fv.map Prod.snd) ((((fs.map Prod.fst).zip xs) : List (κ × W)).map Prod.snd) := by
  have l1 := z.length
  have l2 := congrArg List.length e0
  simp only [List.length_map] at l1 l2
  have l3 : (fs.map Prod.fst).length = xs.length := by rw [List.length_map]; omega
  rw [List.map_fst_zip (by omega), List.map_snd_zip (by omega)]
  exact ⟨e0, z⟩
mutual
theorem frzW_ok (s : SR K ρ S B H) : ∀ {f : Nat} {v : V} {w w' : W}, Rep K B ρ v w → frzW S n0 f w = some w' → Rep K (addB B H (ρ.drop n0)) (ρ.take n0) v w'
  | 0, _, _, _, _, e => by cases e
  | f + 1, _, _, _, .non, e => by cases e; exact .non
  | f + 1, _, _, _, .bl b, e => by cases e; exact .bl b
  | f + 1, _, _, _, .int b, e => by cases e; exact .int b
  | f + 1, _, _, _, .str b, e => by cases e; exact .str b
  | f + 1, _, .tup ws, w', .tup h r, e => by
    unfold frzW at e
    cases q : frzs S n0 f ws with
    | none => simp only [q] at e; cases e
    | some xs =>
      simp only [q] at e
      cases e
      exact .tup (Same.tup (addB_same s) h) (frzs_ok s r q)
  | f + 1, _, .lst ws, w', .lst h r, e => by
    unfold frzW at e
    cases q : frzs S n0 f ws with
    | none => simp only [q] at e; cases e
    | some xs =>
      simp only [q] at e
      cases e
      exact .lst (addB_same s _ _ h) (frzs_ok s r q)
  | f + 1, _, .frl ws, w', .frl h r fl, e => by
    unfold frzW at e
    cases e
    exact .frl ((addB_same s).seq h) (r.flatAny fl) fl
  | f + 1, _, .obj c fs, w', .obj hc h e0 r, e => by
    unfold frzW at e
    cases q : frzs S n0 f (fs.map Prod.snd) with
    | none => simp only [q] at e; cases e
    | some xs =>
      simp only [q] at e
      cases e
      obtain ⟨z1, z2⟩ := zip_obj e0 (frzs_ok s r q)
      exact .obj hc (addB_same s _ _ h) z1 z2
  | f + 1, _, .dct fs, w', .dct h e0 r, e => by
    unfold frzW at e
    cases q : frzs S n0 f (fs.map Prod.snd) with
    | none => simp only [q] at e; cases e
    | some xs =>
      simp only [q] at e
      cases e
      obtain ⟨z1, z2⟩ := zip_obj e0 (frzs_ok s r q)
      exact .dct (Same.rd (addB_same s) h) z1 z2
  | f + 1, .ref a, .ref n, w', .ref h, e => by
    unfold frzW at e
    by_cases hn : n < n0
    · simp only [if_pos hn] at e
      cases e
      exact .ref (by rw [List.getElem?_take_of_lt hn]; exact h)
    · simp only [if_neg hn] at e
      cases q : S[n]? with
      | none => simp only [q] at e; cases e
      | some o =>
        simp only [q] at e
        cases o with
        | lst ws =>
          cases q2 : frzs S n0 f ws with
          | none => simp only [q2] at e; cases e
          | some xs =>
            simp only [q2] at e
            cases e
            obtain ⟨u, hu, ro⟩ := s.at h q
            cases ro with
            | lst rr =>
              have hm : a ∈ ρ.drop n0 := by
                refine List.mem_of_getElem? (i := n - n0) ?_
                rw [List.getElem?_drop, Nat.add_sub_cancel' (Nat.le_of_not_lt hn)]
                exact h
              exact .lst (by rw [addB_in hm]; exact hu) (frzs_ok s rr q2)
        | ins c fs =>
          cases q2 : frzs S n0 f (fs.map Prod.snd) with
          | none => simp only [q2] at e; cases e
          | some xs =>
            simp only [q2] at e
            cases e
            obtain ⟨u, hu, ro⟩ := s.at h q
            cases ro with
            | ins hc e0 rr =>
              have hm : a ∈ ρ.drop n0 := by
                refine List.mem_of_getElem? (i := n - n0) ?_
                rw [List.getElem?_drop, Nat.add_sub_cancel' (Nat.le_of_not_lt hn)]
                exact h
              obtain ⟨z1, z2⟩ := zip_obj e0 (frzs_ok s rr q2)
              exact .obj hc (by rw [addB_in hm]; exact hu) z1 z2
        | dct fs =>
          cases q2 : frzs S n0 f (fs.map Prod.snd) with
          | none => simp only [q2] at e; cases e
          | some xs =>
            simp only [q2] at e
            cases e
            obtain ⟨u, hu, ro⟩ := s.at h q
            cases ro with
            | dct e0 rr =>
              have hm : a ∈ ρ.drop n0 := by
                refine List.mem_of_getElem? (i := n - n0) ?_
                rw [List.getElem?_drop, Nat.add_sub_cancel' (Nat.le_of_not_lt hn)]
                exact h
              obtain ⟨z1, z2⟩ := zip_obj e0 (frzs_ok s rr q2)
              exact .dct (.inl (by rw [addB_in hm]; exact hu)) z1 z2
        | imd fs =>
          cases q2 : frzs S n0 f (fs.map Prod.snd) with
          | none => simp only [q2] at e; cases e
          | some xs =>
            simp only [q2] at e
            cases e
            obtain ⟨kv, h1, e0, rr⟩ := s.cell n a _ h q
            obtain ⟨z1, z2⟩ := zip_obj e0 (frzs_ok s rr q2)
            exact .dct (Same.rd (addB_same s) h1) z1 z2
        | lck fs => cases e
        | kd ks vs => cases e
theorem frzs_ok (s : SR K ρ S B H) : ∀ {f : Nat} {vs : List V} {ws ws' : List W}, RepL K B ρ vs ws → frzs S n0 f ws = some ws' → RepL K (addB B H (ρ.drop n0)) (ρ.take n0) vs ws'
  | 0, _, _, _, _, e => by cases e
  | f + 1, _, [], _, .nil, e => by cases e; exact .nil
  | f + 1, _, w :: ws, _, .cons r t, e => by
    unfold frzs at e
    cases q1 : frzW S n0 f w with
    | none => simp only [q1] at e; cases e
    | some x =>
      cases q2 : frzs S n0 f ws with
      | none => simp only [q1, q2] at e; cases e
      | some xs =>
        simp only [q1, q2] at e
        cases e
        exact .cons (frzW_ok s r q1) (frzs_ok s t q2)
end
theorem frzS_get {S0 : Sto} {n0 : Nat} : ∀ {l l' : List SO}, frzS S0 n0 l = some l' → l'.length = l.length ∧ ∀ (i : Nat) (o' : SO), l'[i]? = some o' → ∃ o : SO, l[i]? = some o ∧ frzO S0 n0 o = some o'
  | [], l', e => by cases e; exact ⟨rfl, fun i o' h => by simp at h⟩
  | o :: r, l', e => by
    unfold frzS at e
    cases q1 : frzO S0 n0 o with
    | none => simp only [q1] at e; cases e
    | some x =>
      cases q2 : frzS S0 n0 r with
      | none => simp only [q1, q2] at e; cases e
      | some xs =>
        simp only [q1, q2] at e
        cases e
        obtain ⟨h1, h2⟩ := frzS_get q2
        refine ⟨by simp [h1], fun i o' h => ?_⟩
        cases i with
        | zero =>
          have z : x = o' := by simpa using h
          exact ⟨o, by simp, by rw [q1, z]⟩
        | succ i =>
          obtain ⟨o2, h3, h4⟩ := h2 i o' (by simpa using h)
          exact ⟨o2, by simpa using h3, h4⟩
/-- a frame is left -/
theorem exitW_ok {w : W} {Q : VK} {ρ0 : List Addr} {B0 H0 : Hp} {v : V} {ex : Str → List (Str × W) → Env' → List Addr → Hp → Hp → Prop} (x : Ext ρ0 B0 H0 ρ B H) (s : SR K ρ S B H) (r : Rep K B ρ v w) (hn : ρ0.length = n0)
    (h : Hold K (exitW n0 w S) ρ0 B0 H0 (okE K Q) ex) : Q v H := by
  unfold exitW at h
  split at h
  · exact h ρ B H x s v r
  · cases q1 : frzW S n0 100000 w with
    | none => simp only [q1] at h; exact h.elim
    | some w' =>
      cases q2 : frzS S n0 (S.take n0) with
      | none => simp only [q1, q2] at h; exact h.elim
      | some S' =>
        simp only [q1, q2] at h
        obtain ⟨m, hp, hm⟩ := x.p
        have ht : ρ.take n0 = ρ0 := by rw [hp, ← hn]; simp
        have hd : ρ.drop n0 = m := by rw [hp, ← hn]; simp
        have r' := frzW_ok s r q1
        obtain ⟨l1, l2⟩ := frzS_get q2
        have hle : n0 ≤ S.length := by rw [← s.len, hp, ← hn]; simp
        refine h ρ0 (addB B H (ρ.drop n0)) H ⟨x.b.trans (addB_same s), ⟨[], by simp, fun a h => by simp at h⟩, x.frame, x.there, fun a o ha hr hb => ?_, x.frz⟩ ⟨fun a o ha => ?_, ?_, ?_, fun i a o e1 e2 => ?_, s.tb, fun g a ps ha => ?_⟩ v ?_
        · rw [addB_out (fun z => by
            rw [hd] at z
            rw [hm a z] at ha
            cases ha)]
          exact x.new a o ha hr hb
        · by_cases z : a ∈ ρ.drop n0
          · rw [addB_in z] at ha
            exact ha
          · rw [addB_out z] at ha
            exact s.same a o ha
        · rw [l1, List.length_take, hn]
          omega
        · have z := s.nd
          rw [hp] at z
          exact (List.nodup_append.mp z).1
        · obtain ⟨o1, h1, h2⟩ := l2 i o e2
          have hi : i < n0 := by rw [← hn]; exact (List.getElem?_eq_some_iff.mp e1).1
          rw [List.getElem?_take_of_lt hi] at h1
          have e3 : ρ[i]? = some a := by rw [hp]; rw [List.getElem?_append_left (by rw [hn]; exact hi)]; exact e1
          have na : a ∉ ρ.drop n0 := fun z => by
            have nd := s.nd
            rw [hp] at nd
            rw [hd] at z
            exact (List.nodup_append.mp nd).2.2 a (List.mem_of_getElem? e1) a z rfl
          have c1 := s.cell i a o1 e3 h1
          cases o1 with
          | imd fs =>
            obtain ⟨kv, h3, e0, rr⟩ := c1
            have h2 : (frzs S n0 100000 (fs.map Prod.snd)).map (fun ws => SO.imd ((fs.map Prod.fst).zip ws)) = some o := h2
            cases q3 : frzs S n0 100000 (fs.map Prod.snd) with
            | none => rw [q3] at h2; cases h2
            | some xs =>
              rw [q3] at h2
              cases h2
              have z := frzs_ok s rr q3
              rw [ht] at z
              obtain ⟨z1, z2⟩ := zip_obj e0 z
              exact ⟨kv, Same.rd (addB_same s) h3, z1, z2⟩
          | lck fs =>
            obtain ⟨nb, o2, kv, h3, e0, rr⟩ := c1
            have h2 : (frzs S n0 100000 (fs.map Prod.snd)).map (fun ws => SO.lck ((fs.map Prod.fst).zip ws)) = some o := h2
            cases q3 : frzs S n0 100000 (fs.map Prod.snd) with
            | none => rw [q3] at h2; cases h2
            | some xs =>
              rw [q3] at h2
              cases h2
              have z := frzs_ok s rr q3
              rw [ht] at z
              obtain ⟨z1, z2⟩ := zip_obj e0 z
              exact ⟨by rw [addB_out na]; exact nb, o2, kv, h3, z1, z2⟩
          | kd ks vs =>
            obtain ⟨nb, g0, sy, sz, o2, xs2, us, h3, h4, h5, h6, rr⟩ := c1
            have h2 : (frzs S n0 100000 vs).map (fun ws => SO.kd ks ws) = some o := h2
            cases q3 : frzs S n0 100000 vs with
            | none => rw [q3] at h2; cases h2
            | some xs =>
              rw [q3] at h2
              cases h2
              have z := frzs_ok s rr q3
              rw [ht] at z
              exact ⟨by rw [addB_out na]; exact nb, g0, sy, by rw [← z.length, rr.length]; exact sz, o2, xs2, us, h3, h4, h5.mono (addB_same s), h6, z⟩
          | lst ws =>
            obtain ⟨nb, u, hu, ro⟩ := c1
            refine Cel.mk (by rw [addB_out na]; exact nb) hu ?_
            cases ro with
            | lst rr =>
              have h2 : (frzs S n0 100000 ws).map SO.lst = some o := h2
              cases q3 : frzs S n0 100000 ws with
              | none => rw [q3] at h2; cases h2
              | some xs =>
                rw [q3] at h2
                cases h2
                have z := frzs_ok s rr q3
                rw [ht] at z
                exact .lst z
          | ins c fs =>
            obtain ⟨nb, u, hu, ro⟩ := c1
            refine Cel.mk (by rw [addB_out na]; exact nb) hu ?_
            cases ro with
            | ins hc e0 rr =>
              have h2 : (frzs S n0 100000 (fs.map Prod.snd)).map (fun ws => SO.ins c ((fs.map Prod.fst).zip ws)) = some o := h2
              cases q3 : frzs S n0 100000 (fs.map Prod.snd) with
              | none => rw [q3] at h2; cases h2
              | some xs =>
                rw [q3] at h2
                cases h2
                have z := frzs_ok s rr q3
                rw [ht] at z
                obtain ⟨z1, z2⟩ := zip_obj e0 z
                exact .ins hc z1 z2
          | dct fs =>
            obtain ⟨nb, u, hu, ro⟩ := c1
            refine Cel.mk (by rw [addB_out na]; exact nb) hu ?_
            cases ro with
            | dct e0 rr =>
              have h2 : (frzs S n0 100000 (fs.map Prod.snd)).map (fun ws => SO.dct ((fs.map Prod.fst).zip ws)) = some o := h2
              cases q3 : frzs S n0 100000 (fs.map Prod.snd) with
              | none => rw [q3] at h2; cases h2
              | some xs =>
                rw [q3] at h2
                cases h2
                have z := frzs_ok s rr q3
                rw [ht] at z
                obtain ⟨z1, z2⟩ := zip_obj e0 z
                exact .dct z1 z2
        · by_cases z : a ∈ ρ.drop n0
          · rw [addB_in z] at ha
            obtain ⟨j, hj⟩ := List.getElem?_of_mem (List.mem_of_mem_drop z)
            have hl : j < S.length := by rw [← s.len]; exact (List.getElem?_eq_some_iff.mp hj).1
            have nt := (s.cell j a S[j] hj (by simp [hl])).notTbl s.same ha
            cases nt
          · rw [addB_out z] at ha
            exact s.nb g a ps ha
        · rw [ht] at r'
          exact r'
end
end Mi

set_option Elab.async false
set_option linter.all false
set_option maxRecDepth 100000
set_option maxHeartbeats 4000000
/-! Ma33: dicts whose keys are tuples: what is read, stored, put in order. -/
noncomputable section
namespace Mi
open PySem PySem.Spec PyProof.Rows L2
/-! ### keys -/
theorem allZ_ok {α : Type} {f : α → α → Bool} (h : ∀ x y, f x y = true → x = y) : ∀ {xs ys : List α}, allZ f xs ys = true → xs = ys
  | [], [], _ => rfl
  | [], _ :: _, e => by cases e
  | _ :: _, [], e => by cases e
  | x :: xs, y :: ys, e => by
    have e : (f x y && allZ f xs ys) = true := e
    rw [Bool.and_eq_true] at e
    rw [h x y e.1, allZ_ok h e.2]
theorem eqNK_ok : ∀ {n : Nat} {a b : NestedKey}, eqNK n a b = true → a = b
  | 0, _, _, e => by cases e
  | n + 1, a, b, e => by
    unfold eqNK at e
    split at e
    · rfl
    · rw [of_decide_eq_true e]
    · rw [eqStr_iff.mp e]
    · rw [allZ_ok (fun x y z => eqNK_ok z) e]
    · cases e
theorem allZ_self {f : NestedKey → NestedKey → Bool} {n : Nat} (h : ∀ a, NestedKey.depth a < n → f a a = true) : ∀ {xs : List NestedKey}, NestedKey.depthAll xs < n → allZ f xs xs = true
  | [], _ => rfl
  | x :: r, e => by
    rw [NestedKey.depthAll] at e
    show (f x x && allZ f r r) = true
    rw [h x (by omega), allZ_self h (by omega)]
    rfl
theorem eqNK_self : ∀ {n : Nat} (a : NestedKey), a.depth < n → eqNK n a a = true
  | 0, _, e => by omega
  | n + 1, a, e => by
    cases a with
    | none => rfl
    | num i => exact decide_eq_true rfl
    | text x => exact eqStr_iff.mpr rfl
    | tup xs =>
      rw [NestedKey.depth] at e
      exact allZ_self (fun a h => eqNK_self a h) (by omega)
theorem nkWs_depth {n : Nat} (ih : ∀ (w : W) (k : NestedKey), nkW n w = some k → k.depth ≤ n) : ∀ {ws : List W} {ks : List NestedKey}, mapO (nkW n) ws = some ks → NestedKey.depthAll ks ≤ n
  | [], ks, e => by
    cases e
    simp [NestedKey.depthAll]
  | w :: ws, ks, e => by
    obtain ⟨d, es, h1, h2, rfl⟩ := mapO_cons e
    have a := ih _ _ h1
    have b := nkWs_depth ih h2
    rw [NestedKey.depthAll]
    omega
theorem nkW_depth : ∀ {n : Nat} (w : W) (k : NestedKey), nkW n w = some k → k.depth ≤ n
  | 0, _, _, e => by cases e
  | n + 1, w, k, e => by
    unfold nkW at e
    split at e
    · cases e; simp [NestedKey.depth]
    · cases e; simp [NestedKey.depth]
    · cases e; simp [NestedKey.depth]
    · cases e; simp [NestedKey.depth]
    · rename_i ws
      cases h : mapO (nkW n) ws with
      | none => rw [h] at e; cases e
      | some ds =>
        rw [h] at e
        cases e
        have := nkWs_depth (fun w k => nkW_depth w k) h
        show NestedKey.depth (.tup ds) ≤ n + 1
        rw [NestedKey.depth]
        omega
    · cases e
section
variable [Gam] {K : PySem.W.Frag} {B : Hp} {ρ : List Addr}
theorem nk_clears {n : Nat} (ih : ∀ (w : W) (k : NestedKey) (v : V), nkW n w = some k → Rep K B ρ v w → Rep K B [] v w) : ∀ {ws : List W} {ks : List NestedKey} {vs : List V}, mapO (nkW n) ws = some ks → RepL K B ρ vs ws → RepL K B [] vs ws
  | [], _, _, _, .nil => .nil
  | w :: ws, ks, _, e, .cons r1 r2 => by
    obtain ⟨d, es, h1, h2, rfl⟩ := mapO_cons e
    exact .cons (ih _ _ _ h1 r1) (nk_clears ih h2 r2)
theorem nk_clear : ∀ {n : Nat} (w : W) (k : NestedKey) (v : V), nkW n w = some k → Rep K B ρ v w → Rep K B [] v w
  | 0, _, _, _, e, _ => by cases e
  | n + 1, w, k, v, e, r => by
    unfold nkW at e
    split at e
    · cases r; exact .non
    · cases r; exact .bl _
    · cases r; exact .int _
    · cases r; exact .str _
    · rename_i ws
      cases h : mapO (nkW n) ws with
      | none => rw [h] at e; cases e
      | some ds =>
        cases r with
        | tup hs rr => exact .tup hs (nk_clears (fun w k v => nk_clear w k v) h rr)
    · cases e
variable {X : Cx} {pins : List (Addr × Obj)} {σ : L2.St} {H : Hp} {s : Shared}
theorem nk_iss {n : Nat} {B : Hp} {ρ : List Addr} (ih : ∀ (w : W) (k : NestedKey) (v : V) (u : Value), nkW n w = some k → Rep X.K B ρ v w → RelV v u → NestedIs s.heap k u) : ∀ {ws : List W} {ks : List NestedKey} {vs : List V} {us : List Value}, mapO (nkW n) ws = some ks → RepL X.K B ρ vs ws → Vals vs us → NestedAll s.heap ks us
  | [], _, _, _, e, .nil, .nil => by
    cases e
    exact .nil
  | w :: ws, ks, _, _, e, .cons r1 r2, .cons q1 q2 => by
    obtain ⟨d, es, h1, h2, rfl⟩ := mapO_cons e
    exact .cons (ih _ _ _ _ h1 r1 q1) (nk_iss ih h2 r2 q2)
theorem nk_is {B : Hp} {ρ : List Addr} (I : Inv X pins σ H s) (sm : Same B H) : ∀ {n : Nat} (w : W) (k : NestedKey) (v : V) (u : Value), nkW n w = some k → Rep X.K B ρ v w → RelV v u → NestedIs s.heap k u
  | 0, _, _, _, _, e, _, _ => by cases e
  | n + 1, w, k, v, u, e, r, q => by
    unfold nkW at e
    split at e
    · cases e
      cases r
      cases (show u = Value.none from q)
      exact .none
    · cases e
      cases r
      rename_i b
      cases (show u = Value.bool b from q)
      exact .bool rfl
    · cases e
      cases r
      obtain ⟨t, rfl⟩ := q
      exact .int _ t
    · cases e
      cases r
      obtain ⟨t, rfl⟩ := q
      exact .text _ t
    · rename_i ws
      cases h : mapO (nkW n) ws with
      | none => rw [h] at e; cases e
      | some ds =>
        rw [h] at e
        cases e
        cases r with
        | @tup a xs _ hs rr =>
          obtain rfl : u = Value.ref a := q
          obtain ⟨its, rv, ⟨o, ho, hc, m, hd⟩, _⟩ := I.tuple (Same.tup sm hs)
          exact .tup ho hc hd (nk_iss (fun w k v u => nk_is I sm w k v u) h rr rv)
    · cases e
theorem nkT_ok {w : W} {k : NestedKey} (e : nkT w = some k) : nkW 8 w = some k ∧ isTupN k = true := by
  unfold nkT at e
  split at e
  · rename_i k' h
    split at e
    · rename_i h2
      cases e
      exact ⟨h, h2⟩
    · cases e
  · cases e
/-- a tuple as a key, at its address -/
theorem nkT_ref {w : W} {k : NestedKey} {v : V} (e : nkT w = some k) (r : Rep K B ρ v w) : ∃ a, v = .ref a := by
  obtain ⟨h, t⟩ := nkT_ok e
  unfold nkW at h
  split at h
  · cases h; cases t
  · cases h; cases t
  · cases h; cases t
  · cases h; cases t
  · cases r with
    | tup hs rr => exact ⟨_, rfl⟩
  · cases h
end
/-! ### entries -/
section
variable {α β : Type} {F : α → β → Prop}
theorem pr_get : ∀ {xs : List α} {ys : List β} {i : Nat} {y : β}, Paired F xs ys → ys[i]? = some y → ∃ x, xs[i]? = some x ∧ F x y
  | _, _, _, _, .nil, e => by simp at e
  | _, _, 0, _, .cons r _, e => by
    simp at e
    subst e
    exact ⟨_, rfl, r⟩
  | _, _, i + 1, _, .cons _ t, e => by
    obtain ⟨x, h1, h2⟩ := pr_get (i := i) t (by simpa using e)
    exact ⟨x, by simpa using h1, h2⟩
theorem pr_mem : ∀ {xs : List α} {ys : List β} {x : α}, Paired F xs ys → x ∈ xs → ∃ y ∈ ys, F x y
  | _, _, _, .nil, h => by cases h
  | _, _, x, .cons r t, h => by
    rcases List.mem_cons.mp h with e | h
    · exact ⟨_, List.mem_cons_self, e ▸ r⟩
    · obtain ⟨y, h1, h2⟩ := pr_mem t h
      exact ⟨y, List.mem_cons_of_mem _ h1, h2⟩
theorem pr_app : ∀ {xs : List α} {ys : List β} {us : List α} {vs : List β}, Paired F xs ys → Paired F us vs → Paired F (xs ++ us) (ys ++ vs)
  | _, _, _, _, .nil, s => s
  | _, _, _, _, .cons r t, s => .cons r (pr_app t s)
theorem pr_map {f : α → α} (h : ∀ x y, F x y → F (f x) y) : ∀ {xs : List α} {ys : List β}, Paired F xs ys → Paired F (xs.map f) ys
  | _, _, .nil => .nil
  | _, _, .cons r t => .cons (h _ _ r) (pr_map h t)
end
theorem idxN_get {k : NestedKey} : ∀ {ks : List (NestedKey × W)} {i : Nat}, idxN ks k = some i → ∃ x, ks[i]? = some x ∧ x.1 = k
  | [], _, e => by cases e
  | x :: r, i, e => by
    unfold idxN at e
    split at e
    · rename_i h
      cases e
      exact ⟨x, rfl, eqNK_ok h⟩
    · cases h : idxN r k with
      | none => rw [h] at e; cases e
      | some j =>
        rw [h] at e
        cases e
        obtain ⟨y, h1, h2⟩ := idxN_get h
        exact ⟨y, by simpa using h1, h2⟩
theorem idxN_none {k : NestedKey} (hk : k.depth < 10) : ∀ {ks : List (NestedKey × W)}, idxN ks k = none → ∀ x ∈ ks, x.1 ≠ k
  | [], _, _, h => by cases h
  | y :: r, e, x, h => by
    unfold idxN at e
    split at e
    · cases e
    · rename_i h1
      cases h2 : idxN r k with
      | some j => rw [h2] at e; cases e
      | none =>
        rcases List.mem_cons.mp h with rfl | h
        · intro z
          rw [z] at h1
          exact h1 (eqNK_self k hk)
        · exact idxN_none hk h2 x h
section
variable [Gam] {K : PySem.W.Frag} {B H : Hp} {ρ : List Addr}
theorem kd_at {xs : List XE} {ks : List (NestedKey × W)} {us : List V} {vs : List W} {k : NestedKey} {w : W} (nd : (xs.map (·.1)).Nodup) (kk : KdK K B xs ks) (va : Vals us (xs.map (·.2.2))) (rr : RepL K B ρ us vs) (e : findN ks vs k = some w) : ∃ b v u, atKey xs k = some (b, u) ∧ RelV v u ∧ Rep K B ρ v w := by
  unfold findN at e
  cases h : idxN ks k with
  | none => rw [h] at e; cases e
  | some i =>
    rw [h] at e
    obtain ⟨x, h1, h2⟩ := idxN_get h
    obtain ⟨⟨k', b, u⟩, h3, h4, _⟩ := pr_get kk h1
    have h4 : k' = x.1 := h4
    subst h4
    subst h2
    obtain ⟨v, h5, h6⟩ := rr.get e
    obtain ⟨u', h7, h8⟩ := va.get h5
    rw [List.getElem?_map, h3] at h7
    cases h7
    exact ⟨b, v, u, atKey_of_get nd h3, h8, h6⟩
theorem put_vals {k : NestedKey} {u : Value} : ∀ {xs : List XE} {i : Nat} {p : Addr × Value}, (xs.map (·.1)).Nodup → xs[i]? = some (k, p) → (xs.map (putAt k u)).map (·.2.2) = (xs.map (·.2.2)).set i u
  | [], _, _, _, h3 => by simp at h3
  | y :: r, 0, p, nd, h3 => by
    rw [List.map_cons, List.nodup_cons] at nd
    simp at h3
    subst h3
    rw [List.map_cons, map_putAt_of_not_mem r _ u nd.1]
    simp [putAt]
  | y :: r, j + 1, p, nd, h3 => by
    rw [List.map_cons, List.nodup_cons] at nd
    simp at h3
    have hm : k ∈ r.map (·.1) := List.mem_map.mpr ⟨_, List.mem_of_getElem? h3, rfl⟩
    have hne : ¬ y.1 = k := fun e => nd.1 (by rw [e]; exact hm)
    have i2 := put_vals (u := u) nd.2 h3
    rw [List.map_cons, List.map_cons, i2, putAt, if_neg hne]
    rfl
theorem put_key (k : NestedKey) (u : Value) (y : XE) : (putAt k u y).1 = y.1 ∧ (putAt k u y).2.1 = y.2.1 := by
  unfold putAt
  split <;> exact ⟨rfl, rfl⟩
theorem kd_put {xs : List XE} {ks : List (NestedKey × W)} {us : List V} {vs : List W} {k : NestedKey} {kw w : W} {a : Addr} {v : V} {u : Value} (nd : (xs.map (·.1)).Nodup) (kk : KdK K B xs ks) (va : Vals us (xs.map (·.2.2))) (rr : RepL K B ρ us vs)
    (hk : nkW 8 kw = some k) (rk : Rep K B [] (.ref a) kw) (rv : Rep K B ρ v w) (ru : RelV v u) : KdK K B (storedH xs k a u) (storeN ks vs k kw w).1 ∧ ∃ us', Vals us' ((storedH xs k a u).map (·.2.2)) ∧ RepL K B ρ us' (storeN ks vs k kw w).2 := by
  have dk := nkW_depth _ _ hk
  unfold storeN
  cases h : idxN ks k with
  | none =>
    have no : atKey xs k = none := atKey_none_of_get fun j p e => by
      obtain ⟨y, h1, h2, _⟩ := pr_mem kk (List.mem_of_getElem? e)
      exact idxN_none (by omega) h y h1 h2.symm
    rw [storedH_new no]
    refine ⟨pr_app kk (.cons ⟨rfl, hk, rk⟩ .nil), us ++ [v], ?_, rr.append (.cons rv .nil)⟩
    rw [List.map_append]
    exact va.append (.cons ru .nil)
  | some i =>
    obtain ⟨x, h1, h2⟩ := idxN_get h
    obtain ⟨⟨k', b, u0⟩, h3, h4, _⟩ := pr_get kk h1
    have h4 : k' = x.1 := h4
    subst h4
    subst h2
    rw [storedH_old (atKey_of_get nd h3)]
    have kk2 : KdK K B (xs.map (putAt x.1 u)) ks := pr_map (fun y z ⟨e1, e2, e3⟩ => ⟨(put_key x.1 u y).1.trans e1, e2, by rw [(put_key x.1 u y).2]; exact e3⟩) kk
    refine ⟨kk2, us.set i v, ?_, rr.set rv i⟩
    rw [put_vals nd h3]
    exact va.set ru i
variable {X : Cx} {pins : List (Addr × Obj)} {σ : L2.St} {s : Shared}
theorem kd_dict {a : Addr} {o : Obj} {xs : List XE} {ks : List (NestedKey × W)} {B : Hp} (I : Inv X pins σ H s) (sm : Same B H) (hw : Gam.wd = X.w) (hH : H a = some (kdO a o)) (ob : KdObj Gam.wd o xs) (kk : KdK X.K B xs ks) : s.heap.DictOfH (nestedKind X.prog X.w) a xs := by
  obtain ⟨hx, es, ep, hd, he, nd⟩ := ob
  have at_ : s.heap.get? a = some o := (I.hok a _ hH).1
  refine ⟨o, es, ep, at_, hx, hd, ?_, fun x hm => ?_, nd⟩
  · rw [he, hw]
    rfl
  · obtain ⟨y, _, h1, h2, h3⟩ := pr_mem kk hm
    rw [← h1] at h2
    exact ⟨nk_is I sm _ _ _ _ h2 h3 rfl, nkW_depth _ _ h2⟩
theorem kd_obj {h : Heap} {a : Addr} {xs : List XE} (hw : Gam.wd = X.w) (d : h.DictOfH (nestedKind X.prog X.w) a xs) : ∃ o, h.get? a = some o ∧ KdObj Gam.wd o xs := by
  obtain ⟨o, es, ep, at_, hx, hd, he, _, nd⟩ := d
  refine ⟨o, at_, hx, es, ep, hd, ?_, nd⟩
  rw [he, hw]
  rfl
theorem kdO_ok {P : Program} {w : World} {h : Heap} {a : Addr} {o : Obj} (e : h.get? a = some o) : ObjOk P w H h a (kdO a o) := ⟨e, ⟨o, e⟩, fun h1 h2 e1 k => k o e1⟩
/-- an empty dict is told by its object -/
theorem kd_retag {a : Addr} (I : Inv X pins σ H s) (h : H a = some (.dK [])) : ∃ o, Inv X pins σ (upd H a (kdO a o)) s ∧ KdObj Gam.wd o [] ∧ (a == sysModules) = false := by
  obtain ⟨_, sy, vs, kv, o, es, ep, at_, hx, hd, hc, hp, nd⟩ := I.hok a _ h
  cases kv
  have z : es.toList = [] := by
    cases q : es.toList with
    | nil => rfl
    | cons x r => rw [q] at hp; cases hp
  refine ⟨o, ?_, ⟨hx, es, ep, hd, by rw [z]; rfl, List.nodup_nil⟩, sy⟩
  have := I.write (t' := s.toks) (h' := s.heap) (x := a) (e := a) (o := kdO a o) (by rw [h]; trivial) (.inl rfl) (fun _ _ _ q => q) ⟨o, at_⟩ (kdO_ok at_)
  exact this
end
end Mi

set_option Elab.async false
set_option linter.all false
set_option maxRecDepth 100000
set_option maxHeartbeats 4000000
/-! Ma34: dicts whose keys are tuples: d[k], d[k] = v, sorted(d), by values. -/
noncomputable section
namespace Mi
open PySem PySem.Spec PyProof.Rows L2 PySem.W
/-! ### the order -/
def encW (w : W) : PyData := (datW 20 w).getD .none
theorem ltW_inv {a b : W} {c : Bool} (e : ltW a b = some c) : ∃ x y, datW 20 a = some x ∧ datW 20 b = some y ∧ PySem.W.alike x y = true ∧ dataLt x y = c := by
  unfold ltW at e
  split at e
  · rename_i x y h1 h2
    split at e
    · rename_i h3
      cases e
      exact ⟨x, y, h1, h2, h3, rfl⟩
    · cases e
  · cases e
theorem ltW_lt {a b : W} (e : ltW a b = some true) : dataLt (encW a) (encW b) = true := by
  obtain ⟨x, y, h1, h2, _, h4⟩ := ltW_inv e
  unfold encW
  rw [h1, h2]
  exact h4
theorem lt_asym {x y : PyData} (h : dataLt x y = true) : dataLt y x = false := by
  cases q : dataLt y x with
  | false => rfl
  | true =>
    have z := (listOrd itemOrd).trans _ _ _ h q
    rw [(listOrd itemOrd).irrefl] at z
    cases z
theorem le_of_lt {a b : W} (e : ltW a b = some true) : dataLe false encW a b = true := by
  show (!dataLt (encW b) (encW a)) = true
  rw [lt_asym (ltW_lt e)]
  rfl
theorem insW_perm (x : W) : ∀ l, (insW x l).Perm (x :: l)
  | [] => .refl _
  | y :: r => by
    unfold insW
    split
    · exact ((insW_perm x r).cons y).trans (.swap x y r)
    · exact .refl _
theorem sortW_perm : ∀ l, (sortW l).Perm l
  | [] => .refl _
  | x :: r => (insW_perm x (sortW r)).trans ((sortW_perm r).cons x)
theorem rising_pw : ∀ {l : List W}, rising l = true → l.Pairwise fun a b => ltW a b = some true
  | [], _ => .nil
  | x :: r, h => by
    have h : (r.all (fun y => ltW x y == some true) && rising r) = true := h
    rw [Bool.and_eq_true] at h
    exact List.pairwise_cons.mpr ⟨fun y hy => eq_of_beq (List.all_eq_true.mp h.1 y hy), rising_pw h.2⟩
theorem pw_mem {R : W → W → Prop} : ∀ {l : List W}, l.Pairwise R → ∀ a ∈ l, ∀ b ∈ l, a = b ∨ R a b ∨ R b a
  | [], _, a, ha, _, _ => by cases ha
  | x :: r, h, a, ha, b, hb => by
    obtain ⟨h1, h2⟩ := List.pairwise_cons.mp h
    rcases List.mem_cons.mp ha with ea | ea
    · rcases List.mem_cons.mp hb with eb | eb
      · exact .inl (ea.trans eb.symm)
      · rw [ea]; exact .inr (.inl (h1 b eb))
    · rcases List.mem_cons.mp hb with eb | eb
      · rw [eb]; exact .inr (.inr (h1 a ea))
      · exact pw_mem h2 a ea b eb
theorem sort_one {ws : List W} (h : rising (sortW ws) = true) : ws.mergeSort (dataLe false encW) = sortW ws := by
  have T : TotalLe (dataLe false encW) := sortLe_total (listOrd itemOrd) false fun b => keyToks (encW b)
  have pw := rising_pw h
  have p1 : (ws.mergeSort (dataLe false encW)).Perm (sortW ws) := (List.mergeSort_perm _ _).trans (sortW_perm ws).symm
  refine List.Perm.eq_of_pairwise (le := fun a b => dataLe false encW a b = true) (fun a b ha hb h1 h2 => ?_) (List.pairwise_mergeSort (fun a b c => T.trans a b c) (fun a b => ?_) ws) (pw.imp fun z => le_of_lt z) p1
  · rcases pw_mem pw a (p1.mem_iff.mp ha) b hb with e | e | e
    · exact e
    · have z : (!dataLt (encW a) (encW b)) = true := h2
      rw [ltW_lt e] at z
      cases z
    · have z : (!dataLt (encW b) (encW a)) = true := h1
      rw [ltW_lt e] at z
      cases z
  · have := T.total a b
    first | exact this | simpa using this
theorem sortN_inv {ws out : List W} (e : sortN ws = some out) : ws.length < 64 ∧ (∀ w ∈ ws, tupD w = true) ∧ (∀ a ∈ ws, ∀ b ∈ ws, (ltW a b).isSome = true) ∧ out = ws.mergeSort (dataLe false encW) := by
  unfold sortN at e
  split at e
  · rename_i h
    cases e
    rw [Bool.and_eq_true, Bool.and_eq_true, Bool.and_eq_true] at h
    obtain ⟨h1, h2, h3, h4⟩ := h
    exact ⟨of_decide_eq_true h1, fun w hw => List.all_eq_true.mp h2 w hw, fun a ha b hb => List.all_eq_true.mp (List.all_eq_true.mp h3 a ha) b hb, (sort_one h4).symm⟩
  · cases e
theorem enc_tup {w : W} {d : PyData} (h : tupD w = true) (e : datW 20 w = some d) : ∃ x r, d = .tuple (x :: r) := by
  unfold tupD at h
  split at h
  · rename_i y r
    unfold datW at e
    dsimp only at e
    cases q : mapO (datW 19) (y :: r) with
    | none => rw [q] at e; cases e
    | some ds =>
      rw [q] at e
      cases e
      obtain ⟨a, b, _, _, rfl⟩ := mapO_cons q
      exact ⟨a, b, rfl⟩
  · cases h
section
variable [Gam] {X : Cx} {B H : Hp} {ρ : List Addr} {S : Sto}
theorem kdS_ok {a : W} {ks : List (NestedKey × W)} {vs : List W} (e : kdS S a = some (ks, vs)) : ∃ n, a = .ref n ∧ S[n]? = some (.kd ks vs) := by
  unfold kdS at e
  split at e
  · rename_i n
    split at e
    · rename_i ks' vs' h
      cases e
      exact ⟨n, rfl, h⟩
    · cases e
  · cases e
theorem kd_cell {K : PySem.W.Frag} (s : SR K ρ S B H) {v : V} {a : W} {ks : List (NestedKey × W)} {vs : List W} (r : Rep K B ρ v a) (e : kdS S a = some (ks, vs)) : ∃ (n : Nat) (d : Addr), v = .ref d ∧ ρ[n]? = some d ∧ S[n]? = some (.kd ks vs) ∧ Cel K B ρ H d (.kd ks vs) := by
  obtain ⟨n, rfl, h⟩ := kdS_ok e
  cases r with
  | ref hn => exact ⟨n, _, rfl, hn, h, s.cell n _ _ hn h⟩
theorem ixK_kd {Q : VK} {x y : V} {a b c : W} {ks : List (NestedKey × W)} {vs : List W} {k : NestedKey} (hu : X.A.units + 65 < cLine) (hw : Gam.wd = X.w) (s : SR X.K ρ S B H) (rx : Rep X.K B ρ x a) (ry : Rep X.K B ρ y b) (hk : kdS S a = some (ks, vs)) (hn : nkT b = some k) (e : findN ks vs k = some c)
    (q : ∀ v', Rep X.K B ρ v' c → Q v' H) : ixW X x y H Q := by
  obtain ⟨n, d, rfl, _, _, _, g0, sy, sz, o, xs, us, hH, ob, kk, va, rr⟩ := kd_cell s rx hk
  obtain ⟨p, rfl⟩ := nkT_ref hn ry
  intro value slice pins sh σ v u I rv ru hs
  cases (show v = Value.ref d from rv)
  cases (show u = Value.ref p from ru)
  obtain ⟨b', v', u', h1, h2, h3⟩ := kd_at ob.2.choose_spec.choose_spec.2.2 kk va rr e
  have D := kd_dict I s.same hw hH ob kk
  have h8 := (nkT_ok hn).1
  have hkey : (nestedKind X.prog X.w).is sh.heap k p := ⟨nk_is I s.same _ _ _ _ h8 ry rfl, nkW_depth _ _ h8⟩
  refine tail_any D.typeIs PySem.F.slot_dict_getitem.lookup (wpAny_getItem_heap (by show X.A.units + 1 + 8 < cLine; omega) hkey D h1 ?_) hs
  exact ⟨v', H, I.kept (t' := _) fun _ _ z => z, h2, q v' h3⟩
/-- o[i] = v, by values -/
def setW (X : Cx) : TSet := fun o i v H Q => ∀ pins s σ ov iv u, Inv X pins σ H s → RelV o ov → RelV i iv → RelV v u → wpAny (model X.prog X.w) X.A (setItem ov iv u) (fun _ s' => ∃ H', Inv X pins σ H' s' ∧ Q H') X.xe s
theorem set_any (hu : X.A.units + 1 < cLine) : PSet X fun o i v H Q => rSetB o i v H Q ∨ setW X o i v H Q := fun pins s σ H o i v ov iv u Q I ro ri rv h => by
  rcases h with h | h
  · exact set_both hu pins s σ H o i v ov iv u Q I ro ri rv h
  · exact h pins s σ ov iv u I ro ri rv
theorem set_kd {Q : Hp → Prop} {n : Nat} {d : Addr} {i v : V} {a kw w : W} {ks : List (NestedKey × W)} {vs : List W} {k : NestedKey} (hu : X.A.units + 65 < cLine) (hw : Gam.wd = X.w) (s : SR X.K ρ S B H) (hn : ρ[n]? = some d) (q : S[n]? = some (.kd ks vs)) (hk : nkT kw = some k) (sz : ks.length < 90000)
    (ri : Rep X.K B ρ i kw) (rv : Rep X.K B ρ v w) (h : ∀ H', Ext ρ B H ρ B H' → SR X.K ρ (S.set n (.kd (storeN ks vs k kw w).1 (storeN ks vs k kw w).2)) B H' → Q H') : setW X (.ref d) i v H Q := by
  obtain ⟨nb, g0, sy, sz0, o, xs, us, hH, ob, kk, va, rr⟩ := s.cell n d _ hn q
  obtain ⟨p, rfl⟩ := nkT_ref hk ri
  intro pins sh σ ov iv u I ro rI ru
  cases (show ov = Value.ref d from ro)
  cases (show iv = Value.ref p from rI)
  have D := kd_dict I s.same hw hH ob kk
  have h8 := (nkT_ok hk).1
  have hkey : (nestedKind X.prog X.w).is sh.heap k p := ⟨nk_is I s.same _ _ _ _ h8 ri rfl, nkW_depth _ _ h8⟩
  have lx : xs.length = ks.length := Paired.length kk
  refine wpAny_setItem_heap (by show X.A.units + 1 + 8 < cLine; omega) hkey D (fun h' hm' hs => ?_) (by rw [sizeLine_eq]; omega)
  obtain ⟨o', at', ob'⟩ := kd_obj hw hm'
  obtain ⟨kk', us', va', rr'⟩ := kd_put ob.2.choose_spec.choose_spec.2.2 kk va rr h8 (nk_clear _ _ _ h8 ri) rv ru
  have I' := I.write (t' := sh.toks + (nestedKind X.prog X.w).draws k) (h' := h') (x := d) (e := d) (o := kdO d o') (by rw [hH]; trivial) (.inl rfl) (fun b u hb z => (hs.2 b hb).trans z) ⟨o', at'⟩ (kdO_ok at')
  refine ⟨_, I', h _ (Ext.setCell hn hH) (s.setKd hn g0 nb ⟨nb, g0, sy, ?_, o', _, us', upd_same, ob', kk', va', rr'⟩)⟩
  have l1 := rr'.length
  have l2 := va'.length
  have l3 : (storedH xs k p u).length = (storeN ks vs k kw w).1.length := Paired.length kk'
  have l4 : (storeN ks vs k kw w).1.length ≤ ks.length + 1 := by
    unfold storeN
    split
    · exact Nat.le_succ _
    · simp
  rw [List.length_map] at l2
  rw [sizeLine_eq]
  omega
/-! ### sorted(d) -/
theorem each_of {R : Value → W → Prop} : ∀ {xs : List XE} {ks : List (NestedKey × W)} {vs : List Value}, KdK X.K B xs ks → vs = xs.map (fun x => Value.ref x.2.1) → (∀ p w, Rep X.K B [] (.ref p) w → w ∈ ks.map Prod.snd → R (.ref p) w) → EachIs R vs (ks.map Prod.snd)
  | _, _, _, .nil, rfl, _ => .nil
  | _, _, _, .cons ⟨_, _, r⟩ t, rfl, h => .cons (h _ _ r (List.mem_cons_self)) (each_of t rfl fun p w r' m => h p w r' (List.mem_cons_of_mem _ m))
theorem each_rep : ∀ {us : List Value} {ws : List W}, EachIs (fun u w => ∃ p, u = Value.ref p ∧ Rep X.K B [] (.ref p) w) us ws → ∃ vs : List V, Vals vs us ∧ RepL X.K B [] vs ws
  | _, _, .nil => ⟨[], .nil, .nil⟩
  | _, _, .cons ⟨p, e, r⟩ t => by
    obtain ⟨vs, h1, h2⟩ := each_rep t
    exact ⟨.ref p :: vs, .cons e h1, .cons r h2⟩
theorem sorted_kd {Q : VK} {x : V} {a : W} {ks : List (NestedKey × W)} {vs out : List W} (hc : X.calm = true) (hu : X.A.units + 65 < cLine) (s : SR X.K ρ S B H) (rx : Rep X.K B ρ x a) (hk : kdS S a = some (ks, vs)) (e : sortN (ks.map Prod.snd) = some out) (q : Val X.K (.lst out) S Q ρ B H) :
    callW X (.builtin "sorted") [x] H Q := by
  obtain ⟨n, d, rfl, _, _, _, g0, sy, sz, o, xs, us, hH, ob, kk, va, rr⟩ := kd_cell s rx hk
  obtain ⟨n64, tup, alk, rfl⟩ := sortN_inv e
  intro pins sh σ uu I ru
  rw [Vals.ref1 ru]
  have at_ : sh.heap.get? d = some o := (I.hok d _ hH).1
  obtain ⟨hx, es, ep, hd, he, nd⟩ := ob
  have raw : sh.heap.DictRaw d es ep := ⟨o, at_, hx, hd⟩
  have lx : xs.length = ks.length := Paired.length kk
  have ls : es.size = xs.length := by rw [← Array.length_toList, he, List.length_map]
  refine Calls.call_function_entry kind_sorted plain_sorted entry_sorted (args_sorted1 _) ?_
  unfold Builtin.«sorted»
  refine wpAny_bind (m := checkCount "sorted" 1 1 _) (wpAny_pure ?_)
  refine wpAny_bind (kdu_collect (A := X.A.in1) (KdlSrc.rawDict (es := es) (ep := ep) sy) (I.ok.hd hc) raw (by rw [ls, lx, sizeLine_eq]; simp at n64; omega) fun h' tk acc hkp hacc => ?_)
  have keys : acc.toList = xs.map fun x => Value.ref x.2.1 := by
    refine List.ext_getElem? fun j => ?_
    rw [Array.getElem?_toList]
    cases qj : acc[j]? with
    | none =>
      have z : acc.size ≤ j := by simpa using qj
      rw [hacc.1, ls] at z
      rw [List.getElem?_map, List.getElem?_eq_none z]
      rfl
    | some v =>
      obtain ⟨hj, rfl⟩ := hacc.2 j v qj
      have hj2 : j < xs.length := by rw [← ls]; exact hj
      have z : es.toList[j]? = some es[j] := by rw [Array.getElem?_toList]; simp [hj]
      rw [he, List.getElem?_map, List.getElem?_eq_getElem hj2] at z
      rw [List.getElem?_map, List.getElem?_eq_getElem hj2]
      have z2 : entN Gam.wd xs[j] = es[j] := Option.some.inj z
      show some es[j].key = some (Value.ref xs[j].2.1)
      rw [← z2]
      rfl
  have lk : acc.toList.length = ks.length := by rw [keys, List.length_map, lx]
  have n64' : ks.length < 64 := by simpa using n64
  refine wpAny_bind (wpAny_newList ?_ (by rw [lk, sizeLine_eq]; omega))
  have I1 : Inv X pins σ H { sh with heap := h', toks := tk } := I.kept (t' := tk) hkp
  have I2 : Inv X pins σ H { sh with heap := h'.push (seqObj "list" acc.toList.toArray 0), toks := tk } := I1.kept (t' := tk) fun b ob q => Heap.get?_push_of_some _ q
  have hoL : (h'.push (seqObj "list" acc.toList.toArray 0)).get? h'.objs.size = some (seqObj "list" acc.toList.toArray 0) := Heap.get?_push_size _ rfl
  have dat : ∀ w ∈ ks.map Prod.snd, ∃ dd, datW 20 w = some dd := fun w hm => by
    have z := alk w hm w hm
    cases zz : ltW w w with
    | none => rw [zz] at z; cases z
    | some c =>
      obtain ⟨x, _, h1, _⟩ := ltW_inv zz
      exact ⟨x, h1⟩
  have encd : ∀ {w : W} {dd : PyData}, datW 20 w = some dd → encW w = dd := fun {w dd} h1 => by unfold encW; rw [h1]; rfl
  have eR : EachIs (fun u w => ∃ p, u = Value.ref p ∧ Rep X.K B [] (.ref p) w) acc.toList (ks.map Prod.snd) := each_of kk keys fun p w r _ => ⟨p, rfl, r⟩
  have eD : EachIs (fun v b => ∃ as, Reads (h'.push (seqObj "list" acc.toList.toArray 0)) v (encW b) as ∧ h'.objs.size ∉ as) acc.toList (ks.map Prod.snd) := each_of kk keys fun p w r hm => by
    obtain ⟨dd, h1⟩ := dat w hm
    rw [encd h1]
    exact ⟨[], datW_reads I2 s.same w dd _ _ h1 r rfl, by simp⟩
  refine wpAny_bind (wpAny_holding (wpAny_mono (list_sort_data (A := X.A.in1) (s := { sh with heap := h'.push (seqObj "list" acc.toList.toArray 0), toks := tk }) (enc := encW) (Q := fun r s' => ∃ H', Inv X pins σ H' s' ∧ Q (.ref h'.objs.size) H') hoL eR eD ?_ ?_ ?_ ?_ fun ot hl eo => ?_) (fun _ s' z => ?_) fun _ _ z => z))
  · intro d1 h1 d2 h2
    obtain ⟨w1, m1, rfl⟩ := List.mem_map.mp h1
    obtain ⟨w2, m2, rfl⟩ := List.mem_map.mp h2
    have z := alk w1 m1 w2 m2
    cases zz : ltW w1 w2 with
    | none => rw [zz] at z; cases z
    | some c =>
      obtain ⟨x, y, h1, h2, h3, _⟩ := ltW_inv zz
      rw [encd h1, encd h2]
      exact h3
  · refine .inl fun d1 h1 => ?_
    obtain ⟨w1, m1, rfl⟩ := List.mem_map.mp h1
    obtain ⟨dd, h1⟩ := dat w1 m1
    rw [encd h1]
    exact enc_tup (tup w1 m1) h1
  · rw [List.length_map, sizeLine_eq]
    omega
  · intro w1 m1
    obtain ⟨dd, h1⟩ := dat w1 m1
    rw [encd h1]
    have := datW_depth _ _ h1
    show X.A.units + 1 + 1 + dd.depth < cLine
    omega
  · obtain ⟨vo, v1, v2⟩ := each_rep eo
    obtain ⟨c, hc2⟩ := sortedHeap_at (h := h'.push (seqObj "list" acc.toList.toArray 0)) (out := ot.toArray) hoL
    have hfree := I1.hok.fresh (Nat.le_refl h'.objs.size)
    have I3 := I1.laid (a := h'.objs.size) (o := .lst vo) (h' := sortedHeap (h'.push (seqObj "list" acc.toList.toArray 0)) h'.objs.size acc.toList ot.toArray) (t' := tk) (fun b u z => by
      have hb := Heap.lt_size z
      have z2 : (h'.push (seqObj "list" acc.toList.toArray 0)).get? b = some u := Heap.get?_push_of_some _ z
      exact (sortedHeap_old (Nat.ne_of_lt hb) (Heap.lt_size z2)).trans z2) (Nat.le_refl _) ⟨by rw [v1.length, hl, List.length_map, sizeLine_eq]; omega, ot, c, v1, hc2⟩
    exact ⟨_, I3, q.newL s (v2.mono (Same.refl B) ⟨ρ, by simp⟩) hfree⟩
  · obtain ⟨H', I', z⟩ := z
    exact wpAny_pure ⟨_, rfl, ⟨.ref _, H', I', rfl, z⟩⟩
end
end Mi

set_option Elab.async false
set_option linter.all false
set_option maxRecDepth 100000
set_option maxHeartbeats 4000000
/-! Mi5: names, built-in calls, subscripts, truth. -/
noncomputable section
namespace Mi
open PySem PySem.Spec PyProof.Rows L2
variable [Gam]
section
variable {pg : Pg} {cl : Str → List W → Sto → R W} {E : Evs} {g : Gm} {Wx : WX} {X : Cx}

theorem vis_ok (C : CxOk pg cl g Wx X) {x : Str} (h : visB g.sc x = true) : Vis X.env.scope x := by
  unfold visB at h
  unfold Vis
  rw [C.sc]
  split at h
  · rename_i e; exact .inl e
  · rename_i e; exact .inr (.inl e)
  · rename_i e; exact .inr (.inr e)
  · cases h
theorem glo_okB (C : CxOk pg cl g Wx X) {x : Str} (h : gloB g.sc x = true) : Gl X x := by
  unfold gloB at h
  show X.env.scope.names.lookup x = _
  rw [C.sc]
  split at h
  · assumption
  · cases h
theorem odd_no {x : Str} (h : (!odd x) = true) : (x == ("__debug__" : Str)) = false ∧ (x == ("__classdict__" : Str)) = false ∧ x ≠ "__name__" := by
  unfold odd at h
  cases h1 : (x == ("__debug__" : Str)) with
  | true => rw [h1] at h; cases h
  | false =>
    cases h2 : (x == ("__classdict__" : Str)) with
    | true => rw [h1, h2] at h; cases h
    | false =>
      cases h3 : (x == ("__name__" : Str)) with
      | true => rw [h1, h2, h3] at h; cases h
      | false =>
        refine ⟨rfl, rfl, fun e => ?_⟩
        subst e
        simp at h3
theorem nameE_ok (C : CxOk pg cl g Wx X) {x : Str} {pos : Pos} {env : Env'} {S : Sto} {σ : L2.St} {ρ : List Addr} {B H : Hp} {Q : VK} (sl : Sl X.K B ρ σ env) (sr : SR X.K ρ S B H)
    (h : Hold X.K (nameE pg g env S x) ρ B H (okE X.K Q) (ExP X.K X.mg Wx)) : wE X (.Name x pos) σ H Q := by
  unfold nameE at h
  obtain ⟨h1, h2⟩ := h.grd
  obtain ⟨o1, o2, o3⟩ := odd_no h1
  split at h2
  · rename_i hv
    split at h2
    · rename_i i hi
      split at h2
      · rename_i w hw
        obtain ⟨v, e1, r⟩ := sl.at_ i w hw
        exact wE_of (pe_var (i := i) (by rw [C.N]; exact slotOf_get hi) (vis_ok C hv) o1 o2) ⟨v, e1, h2.here sr v r⟩
      · exact h2.elim
    · exact h2.elim
  · obtain ⟨h3, h4⟩ := h2.grd
    obtain ⟨w, e, k⟩ := h4.lift
    obtain ⟨u, v, m, r, rp⟩ := C.cst x w e
    exact wE_of (pe_glob (glo_okB C h3) m r o1) (k ρ B H Ext.refl sr v ((rp B).mono (Same.refl B) ⟨ρ, rfl⟩))

/-! ### built-in calls -/
theorem bools_ok {K : PySem.W.Frag} {B : Hp} {ρ : List Addr} : ∀ {vs : List V} {ws : List W} {bs : List Bool}, RepL K B ρ vs ws → bools ws = some bs → vs = bs.map V.bl
  | _, _, _, .nil, e => by cases e; rfl
  | _, _, _, .cons (w := w) r t, e => by
    cases r with
    | bl b =>
      unfold bools at e
      cases q : bools _ with
      | none => rw [q] at e; cases e
      | some bs =>
        rw [q] at e
        cases e
        rw [List.map_cons, bools_ok t q]
    | _ => cases e
theorem lenW_ok {K : PySem.W.Frag} {B H : Hp} {ρ : List Addr} {S : Sto} {v : V} {w : W} {n : Int} (s : SR K ρ S B H) (r : Rep K B ρ v w) (e : lenW S w = some n) : ∃ m : Nat, LenV K v H m ∧ n = m := by
  unfold lenW at e
  split at e
  · cases r
    split at e
    · rename_i hz
      cases e
      exact ⟨_, ⟨small_line hz, rfl⟩, rfl⟩
    · cases e
  · split at e
    · rename_i ws hs
      cases e
      obtain ⟨a, xs, rfl, h1, h2⟩ := seqL_ok s r hs
      exact ⟨_, .inl ⟨xs, h1, rfl⟩, by rw [h2.length]⟩
    · cases q : seqT w with
      | none => rw [q] at e; cases e
      | some ws =>
        rw [q] at e
        cases e
        obtain ⟨a, xs, rfl, h1, h2⟩ := seqT_ok s r q
        exact ⟨_, .inr ⟨xs, h1, rfl⟩, by rw [h2.length]⟩
theorem one_of {K : PySem.W.Frag} {B : Hp} {ρ : List Addr} {vs : List V} {w : W} (r : RepL K B ρ vs [w]) : ∃ v, vs = [v] ∧ Rep K B ρ v w := by
  cases r with
  | cons r t => cases t; exact ⟨_, rfl, r⟩
theorem two_of {K : PySem.W.Frag} {B : Hp} {ρ : List Addr} {vs : List V} {w w' : W} (r : RepL K B ρ vs [w, w']) : ∃ v v', vs = [v, v'] ∧ Rep K B ρ v w ∧ Rep K B ρ v' w' := by
  cases r with
  | cons r t =>
    cases t with
    | cons r' t => cases t; exact ⟨_, _, rfl, r, r'⟩
theorem stars_no {env : Env} {pos : Pos} : ∀ {es : List Expr}, (∀ e ∈ es, notStar e = true) → (backTo pos (starEach es env)).any (·.1) = false
  | [], _ => rfl
  | e :: es, h => by
    rw [star_no (h e (List.mem_cons_self ..))]
    show (false || (backTo pos (starEach es env)).any (·.1)) = false
    rw [stars_no fun e' he => h e' (List.mem_cons_of_mem _ he)]
    rfl
/-- the call of a built-in -/
theorem strsW_ok {K : PySem.W.Frag} {B : Hp} {ρ : List Addr} : ∀ {vs : List V} {ws : List W} {ys : List Str}, RepL K B ρ vs ws → strsW ws = some ys → vs = ys.map V.str
  | _, _, _, .nil, e => by cases e; rfl
  | _, w :: ws, ys, .cons r t, e => by
    cases r with
    | str z =>
      have e' : (strsW ws).map (z :: ·) = some ys := e
      cases q : strsW ws with
      | none => rw [q] at e'; cases e'
      | some zs =>
        rw [q] at e'
        cases e'
        rw [strsW_ok t q]
        rfl
    | _ => cases e
theorem repL_strs {K : PySem.W.Frag} {B : Hp} {ρ : List Addr} : ∀ ys : List Str, RepL K B ρ (ys.map V.str) (ys.map W.str)
  | [] => .nil
  | y :: r => .cons (.str y) (repL_strs r)
theorem keyStrs_ok : ∀ {kv : List (Key × V)} {ks : List (Key × W)} {xs : List Str}, kv.map Prod.fst = ks.map Prod.fst → keyStrs ks = some xs → kv.map (·.1) = xs.map Sum.inr
  | [], [], xs, _, h => by cases h; rfl
  | [], _ :: _, _, e, _ => by cases e
  | _ :: _, [], _, e, _ => by cases e
  | (k, v) :: kv, (k', w) :: ks, xs, e, h => by
    injection e with e1 e2
    have e1 : k = k' := e1
    subst e1
    cases k with
    | inl i => cases h
    | inr x =>
      have h' : (keyStrs ks).map (x :: ·) = some xs := h
      cases q : keyStrs ks with
      | none => rw [q] at h'; cases h'
      | some ys =>
        rw [q] at h'
        cases h'
        have ih := keyStrs_ok e2 q
        show Sum.inr x :: kv.map (·.1) = Sum.inr x :: ys.map Sum.inr
        rw [ih]
theorem any_keys {k : Key} : ∀ {kv : List (Key × V)} {ks : List (Key × W)}, kv.map Prod.fst = ks.map Prod.fst → (kv.any fun p => decide (p.1 = k)) = (ks.any fun p => decide (p.1 = k))
  | [], [], _ => rfl
  | [], _ :: _, e => by cases e
  | _ :: _, [], e => by cases e
  | (x, v) :: kv, (y, w) :: ks, e => by
    injection e with e1 e2
    have e1 : x = y := e1
    rw [List.any_cons, List.any_cons, any_keys e2, e1]
theorem map_kv {K : PySem.W.Frag} {ρ : List Addr} {B : Hp} {k : Key} {y : V} {u : W} (ry : Rep K B ρ y u) : ∀ {kv : List (Key × V)} {ks : List (Key × W)}, kv.map Prod.fst = ks.map Prod.fst → RepL K B ρ (kv.map Prod.snd) (ks.map Prod.snd) →
    (kv.map (fun p => if p.1 = k then (p.1, y) else p)).map Prod.fst = (ks.map (fun p => if p.1 = k then (p.1, u) else p)).map Prod.fst ∧ RepL K B ρ ((kv.map (fun p => if p.1 = k then (p.1, y) else p)).map Prod.snd) ((ks.map (fun p => if p.1 = k then (p.1, u) else p)).map Prod.snd)
  | [], [], _, _ => ⟨rfl, .nil⟩
  | [], _ :: _, e, _ => by cases e
  | _ :: _, [], e, _ => by cases e
  | (x, v) :: kv, (z, w) :: ks, e, r => by
    injection e with e1 e2
    have e1 : x = z := e1
    subst e1
    cases r with
    | cons r1 r2 =>
      obtain ⟨h1, h2⟩ := map_kv ry e2 r2
      simp only [List.map_cons]
      by_cases h : x = k
      · simp only [h, if_true]
        exact ⟨by rw [h1], .cons ry h2⟩
      · simp only [h, if_false]
        exact ⟨by rw [h1], .cons r1 h2⟩
theorem store_kv {K : PySem.W.Frag} {ρ : List Addr} {B : Hp} {k : Key} {y : V} {u : W} (ry : Rep K B ρ y u) {kv : List (Key × V)} {ks : List (Key × W)} (e : kv.map Prod.fst = ks.map Prod.fst) (r : RepL K B ρ (kv.map Prod.snd) (ks.map Prod.snd)) :
    (putK kv k y).map Prod.fst = (storeK ks k u).map Prod.fst ∧ RepL K B ρ ((putK kv k y).map Prod.snd) ((storeK ks k u).map Prod.snd) := by
  unfold putK storeK
  rw [any_keys e]
  split
  · exact map_kv ry e r
  · rw [List.map_append, List.map_append, List.map_append, List.map_append, e]
    exact ⟨rfl, r.append (.cons ry .nil)⟩
theorem keys_rep {K : PySem.W.Frag} {B : Hp} {ρ : List Addr} : ∀ {kv : List (Key × V)} {ks : List (Key × W)}, kv.map Prod.fst = ks.map Prod.fst → RepL K B ρ (kv.map fun p => kV p.1) (ks.map fun p => keyOfW p.1)
  | [], [], _ => .nil
  | [], _ :: _, e => by cases e
  | _ :: _, [], e => by cases e
  | (x, v) :: kv, (y, w) :: ks, e => by
    injection e with e1 e2
    have e1 : x = y := e1
    subst e1
    refine .cons ?_ (keys_rep e2)
    cases x with
    | inl i => exact .int i
    | inr s => exact .str s
theorem merge_rep {K : PySem.W.Frag} {B : Hp} {ρ : List Addr} : ∀ {mv : List (Key × V)} {mw : List (Key × W)} {kv : List (Key × V)} {ks : List (Key × W)}, mv.map Prod.fst = mw.map Prod.fst → RepL K B ρ (mv.map Prod.snd) (mw.map Prod.snd) → kv.map Prod.fst = ks.map Prod.fst → RepL K B ρ (kv.map Prod.snd) (ks.map Prod.snd) →
    (mergeK kv mv).map Prod.fst = (mergeW ks mw).map Prod.fst ∧ RepL K B ρ ((mergeK kv mv).map Prod.snd) ((mergeW ks mw).map Prod.snd)
  | [], [], _, _, _, _, e, r => ⟨e, r⟩
  | [], _ :: _, _, _, h, _, _, _ => by cases h
  | _ :: _, [], _, _, h, _, _, _ => by cases h
  | (x, v) :: mv, (y, w) :: mw, kv, ks, h, rr, e, r => by
    injection h with e1 e2
    have e1 : x = y := e1
    subst e1
    cases rr with
    | cons r1 r2 =>
      obtain ⟨z1, z2⟩ := store_kv (k := x) r1 e r
      exact merge_rep (mv := mv) (mw := mw) e2 r2 z1 z2
theorem pairs_rep {K : PySem.W.Frag} {B H : Hp} {ρ : List Addr} (s : Same B H) : ∀ {vs : List V} {ws : List W} {ks : List (Key × W)}, RepL K B ρ vs ws → pairsW ws = some ks →
    ∃ (ps : List Addr) (kv : List (Key × V)), vs = ps.map V.ref ∧ Paired (fun p (q : Key × V) => SqT K H p [kV q.1, q.2]) ps kv ∧ kv.map Prod.fst = ks.map Prod.fst ∧ RepL K B ρ (kv.map Prod.snd) (ks.map Prod.snd)
  | _, [], ks, .nil, e => by cases e; exact ⟨[], [], rfl, .nil, rfl, .nil⟩
  | _, w :: ws, ks, .cons r t, e => by
    unfold pairsW at e
    split at e
    · rename_i z
      cases z
    · rename_i k y rest heq
      injection heq with h1 h2
      subst h1 h2
      split at e
      · rename_i kk qs q1 q2
        cases e
        obtain ⟨ps, kv, e1, e2, e3, e4⟩ := pairs_rep s t q2
        cases r with
        | tup h rr =>
          cases rr with
          | cons ra rb =>
            cases rb with
            | cons rc rd =>
              cases rd
              cases keyW_ok ra q1
              subst e1
              exact ⟨_ :: ps, (kk, _) :: kv, rfl, .cons (Same.tup s h) e2, by rw [List.map_cons, List.map_cons, e3], .cons rc e4⟩
      · cases e
    · cases e
theorem Val.newD {K : PySem.W.Frag} {ρ : List Addr} {S : Sto} {B H : Hp} {Q : VK} {ks : List (Key × W)} {kv : List (Key × V)} {p : Addr} (k : Val K (.dct ks) S Q ρ B H) (s : SR K ρ S B H) (e : kv.map Prod.fst = ks.map Prod.fst) (r : RepL K B ρ (kv.map Prod.snd) (ks.map Prod.snd)) (h : H p = none) : Q (.ref p) (upd H p (.dK kv)) :=
  k _ _ _ _ (Ext.fresh s.same h) (s.fresh h) (.dct (.inl upd_same) e (r.mono (fun c u q => by rw [upd_ne (ne_of_none q (s.same.free h))]; exact q) ⟨[], by simp⟩))
theorem dictOf_ok (C : CxOk pg cl g Wx X) {S1 : Sto} {ρ : List Addr} {B H : Hp} {y : V} {x : W} {ks : List (Key × W)} {Q : VK} (sr : SR X.K ρ S1 B H) (ry : Rep X.K B ρ y x) (q : dictOf S1 x = some ks)
    (k : ∀ p (kv : List (Key × V)), kv.map Prod.fst = ks.map Prod.fst → RepL X.K B ρ (kv.map Prod.snd) (ks.map Prod.snd) → H p = none → Q (.ref p) (upd H p (.dK kv))) : callW X (.type "dict") [y] H Q := by
  unfold dictOf at q
  split at q
  · rename_i ks' hk
    cases q
    obtain ⟨p, kv, rfl, h1, e1, r1⟩ := seqD_ok sr ry hk
    exact callW_of call_dictD ⟨p, kv, rfl, h1, fun p hp => k p kv e1 r1 hp⟩
  · split at q
    · rename_i ws hs
      cases q2 : pairsW ws with
      | none => rw [q2] at q; cases q
      | some ps =>
        rw [q2] at q
        cases q
        obtain ⟨a, xs, rfl, h1, h2⟩ := seqL_ok sr ry hs
        obtain ⟨as, kv, rfl, p2, e3, r3⟩ := pairs_rep sr.same h2 q2
        obtain ⟨z1, z2⟩ := merge_rep (kv := []) (ks := []) e3 r3 rfl .nil
        exact callW_of (call_dictP C.calm) ⟨a, as, kv, rfl, h1, p2, fun p hp => k p _ z1 z2 hp⟩
    · cases q
theorem bcall_ok (C : CxOk pg cl g Wx X) {f : Str} {p pos : Pos} {a : Expr} {as : List Expr} {Q : VK} {t : TA} (hg : gloB g.sc f = true) (hk : known f = true) (ho : (!odd f) = true) (hm : X.mg f = none) (hs : ∀ e ∈ a :: as, notStar e = true) (ha : PA X (a :: as) t) {σ : L2.St} {H0 : Hp}
    (k : t σ H0 fun vs H => ∃ S1 ρ B ws w, SR X.K ρ S1 B H ∧ RepL X.K B ρ vs ws ∧ bcall S1 f ws = some w ∧ Val X.K w S1 Q ρ B H)
    (mono : ∀ {P P' : List V → Hp → Prop}, t σ H0 P → (∀ vs H, P vs H → P' vs H) → t σ H0 P') : wE X (.Call (.Name f p) (a :: as) [] pos) σ H0 Q := by
  obtain ⟨o1, o2, o3⟩ := odd_no ho
  have he := star_no (es := as) (env := X.env) (hs a (List.mem_cons_self ..))
  have hp : (backTo pos (starEach as X.env)).any (·.1) = false := stars_no fun e' he => hs e' (List.mem_cons_of_mem _ he)
  have bi : ∀ {id : String}, bootBuiltins f = some (.builtin id) → (t σ H0 fun vs H => callW X (.builtin id) vs H Q) → wE X (.Call (.Name f p) (a :: as) [] pos) σ H0 Q := fun hv q =>
    wE_of (pe_callB callW_r (glo_okB C hg) hm hv ha o3 o1 he hp) q
  have ty : ∀ {id : String}, bootBuiltins f = some (.type id) → (t σ H0 fun vs H => callW X (.type id) vs H Q) → wE X (.Call (.Name f p) (a :: as) [] pos) σ H0 Q := fun hv q =>
    wE_of (pe_callTy callW_r (glo_okB C hg) hm hv ha o3 o1 he hp) q
  by_cases c : f = "len"
  · subst c
    refine bi boot_len (mono k fun vs H ⟨S1, ρ, B, ws, w, sr, r, e, v⟩ => ?_)
    unfold bcall at e
    rw [if_pos rfl] at e
    split at e
    · rename_i x
      unfold lenD at e
      cases qd : seqD S1 x with
      | some ks =>
        rw [qd] at e
        cases e
        obtain ⟨y, rfl, ry⟩ := one_of r
        obtain ⟨p, kv, rfl, h1, e1, r1⟩ := seqD_ok sr ry qd
        have l1 := congrArg List.length e1
        simp only [List.length_map] at l1
        exact callW_of call_lenR ⟨p, kv, rfl, h1, by rw [l1]; exact v.here sr (.int _)⟩
      | none =>
      rw [qd] at e
      cases q : lenW S1 x with
      | none => simp only [q] at e; cases e
      | some n =>
        simp only [q] at e
        cases e
        obtain ⟨y, rfl, ry⟩ := one_of r
        obtain ⟨m, h1, rfl⟩ := lenW_ok sr ry q
        exact callW_of call_len ⟨y, m, rfl, h1, v.here sr (.int _)⟩
    · cases e
  by_cases c2 : f = "int"
  · subst c2
    refine ty boot_int (mono k fun vs H ⟨S1, ρ, B, ws, w, sr, r, e, v⟩ => ?_)
    unfold bcall at e
    rw [if_neg c, if_pos rfl] at e
    split at e
    · cases e
      obtain ⟨y, rfl, ry⟩ := one_of r
      cases ry
      exact callW_of call_int1 (.inl ⟨_, rfl, v.here sr (.int _)⟩)
    · rename_i a
      split at e
      · rename_i hl
        cases q : PySem.intText? a with
        | none => rw [q] at e; cases e
        | some n =>
          rw [q] at e
          cases e
          obtain ⟨y, rfl, ry⟩ := one_of r
          cases ry
          exact callW_of call_int_str ⟨_, _, rfl, q, hl, v.here sr (.int _)⟩
      · cases e
    · cases e
  by_cases c3 : f = "str"
  · subst c3
    refine ty boot_str (mono k fun vs H ⟨S1, ρ, B, ws, w, sr, r, e, v⟩ => ?_)
    unfold bcall at e
    rw [if_neg c, if_neg c2, if_pos rfl] at e
    split at e
    · split at e
      · rename_i hl
        cases e
        obtain ⟨y, rfl, ry⟩ := one_of r
        cases ry
        exact callW_of call_str_int ⟨_, rfl, hl, v.here sr (.str _)⟩
      · cases e
    · cases e
  by_cases c4 : f = "all"
  · subst c4
    refine bi boot_all (mono k fun vs H ⟨S1, ρ, B, ws, w, sr, r, e, v⟩ => ?_)
    unfold bcall at e
    rw [if_neg c, if_neg c2, if_neg c3, if_pos rfl] at e
    split at e
    · rename_i x
      split at e
      · rename_i xs hx
        cases q : bools xs with
        | none => rw [q] at e; cases e
        | some bs =>
          rw [q] at e
          cases e
          obtain ⟨y, rfl, ry⟩ := one_of r
          obtain ⟨l, ys, rfl, h1, h2⟩ := seqL_ok sr ry hx
          rw [bools_ok h2 q] at h1
          exact callW_of (cr_all C.calm) ⟨l, bs, rfl, h1, v.here sr (.bl _)⟩
      · cases e
    · cases e
  by_cases c5 : f = "any"
  · subst c5
    refine bi boot_any (mono k fun vs H ⟨S1, ρ, B, ws, w, sr, r, e, v⟩ => ?_)
    unfold bcall at e
    rw [if_neg c, if_neg c2, if_neg c3, if_neg c4, if_pos rfl] at e
    split at e
    · rename_i x
      split at e
      · rename_i xs hx
        cases q : bools xs with
        | none => rw [q] at e; cases e
        | some bs =>
          rw [q] at e
          cases e
          obtain ⟨y, rfl, ry⟩ := one_of r
          obtain ⟨l, ys, rfl, h1, h2⟩ := seqL_ok sr ry hx
          rw [bools_ok h2 q] at h1
          exact callW_of (cr_any C.calm) ⟨l, bs, rfl, h1, v.here sr (.bl _)⟩
      · cases e
    · cases e
  by_cases c6 : f = "min"
  · subst c6
    refine bi boot_min (mono k fun vs H ⟨S1, ρ, B, ws, w, sr, r, e, v⟩ => ?_)
    unfold bcall at e
    rw [if_neg c, if_neg c2, if_neg c3, if_neg c4, if_neg c5, if_pos rfl] at e
    split at e
    · cases e
      obtain ⟨y, z, rfl, ry, rz⟩ := two_of r
      cases ry; cases rz
      exact callW_of (call_min2 C.calm) ⟨_, _, rfl, v.here sr (.int _)⟩
    · cases e
  by_cases c7 : f = "max"
  · subst c7
    refine bi boot_max (mono k fun vs H ⟨S1, ρ, B, ws, w, sr, r, e, v⟩ => ?_)
    unfold bcall at e
    rw [if_neg c, if_neg c2, if_neg c3, if_neg c4, if_neg c5, if_neg c6, if_pos rfl] at e
    split at e
    · cases e
      obtain ⟨y, z, rfl, ry, rz⟩ := two_of r
      cases ry; cases rz
      exact callW_of (call_max2 C.calm) ⟨_, _, rfl, v.here sr (.int _)⟩
    · cases e
      cases r with
      | cons r1 r =>
        cases r with
        | cons r2 r =>
          cases r with
          | cons r3 r =>
            cases r
            cases r1; cases r2; cases r3
            exact callW_of (call_max3 C.calm) ⟨_, _, _, rfl, v.here sr (.int _)⟩
    · cases e
  by_cases c8 : f = "list"
  · subst c8
    refine ty boot_list (mono k fun vs H ⟨S1, ρ, B, ws, w, sr, r, e, v⟩ => ?_)
    unfold bcall at e
    rw [if_neg c, if_neg c2, if_neg c3, if_neg c4, if_neg c5, if_neg c6, if_neg c7, if_pos rfl] at e
    split at e
    · rename_i x
      split at e
      · rename_i xs hx
        cases e
        obtain ⟨y, rfl, ry⟩ := one_of r
        obtain ⟨l, ys, rfl, h1, h2⟩ := seqL_ok sr ry hx
        exact callW_of call_list_of ⟨l, ys, rfl, .inl h1, fun p hp => v.newL sr h2 hp⟩
      · split at e
        · rename_i ks hk1
          cases e
          obtain ⟨y, rfl, ry⟩ := one_of r
          obtain ⟨p, kv, rfl, h1, e1, r1⟩ := seqD_ok sr ry hk1
          exact callW_of (call_listD C.calm) ⟨p, kv, rfl, h1, fun q hq => v.newL sr (keys_rep e1) hq⟩
        · cases q : seqT x with
          | none => rw [q] at e; cases e
          | some xs =>
            rw [q] at e
            cases e
            obtain ⟨y, rfl, ry⟩ := one_of r
            obtain ⟨l, ys, rfl, h1, h2⟩ := seqT_ok sr ry q
            exact callW_of call_list_of ⟨l, ys, rfl, .inr h1, fun p hp => v.newL sr h2 hp⟩
    · cases e
  by_cases c9 : f = "tuple"
  · subst c9
    refine ty boot_tuple (mono k fun vs H ⟨S1, ρ, B, ws, w, sr, r, e, v⟩ => ?_)
    unfold bcall at e
    rw [if_neg c, if_neg c2, if_neg c3, if_neg c4, if_neg c5, if_neg c6, if_neg c7, if_neg c8, if_pos rfl] at e
    split at e
    · rename_i x
      split at e
      · rename_i xs hx
        cases e
        obtain ⟨y, rfl, ry⟩ := one_of r
        obtain ⟨l, ys, rfl, h1, h2⟩ := seqL_ok sr ry hx
        exact callW_of call_tuple_of ⟨l, ys, rfl, .inl ⟨h1, fun p hp => v.newT sr h2 hp⟩⟩
      · cases q : seqT x with
        | none => rw [q] at e; cases e
        | some xs =>
          rw [q] at e
          cases e
          obtain ⟨y, rfl, ry⟩ := one_of r
          cases ry with
          | tup h1 h2 =>
            cases q
            exact callW_of call_tuple_of ⟨_, _, rfl, .inr ⟨Same.tup sr.same h1, v.here sr (.tup h1 h2)⟩⟩
          | _ => cases q
    · cases e
  by_cases c10 : f = "sorted"
  · subst c10
    refine bi (id := "sorted") rfl (mono k fun vs H ⟨S1, ρ, B, ws, w, sr, r, e, v⟩ => ?_)
    unfold bcall at e
    rw [if_neg c, if_neg c2, if_neg c3, if_neg c4, if_neg c5, if_neg c6, if_neg c7, if_neg c8, if_neg c9, if_pos rfl] at e
    split at e
    · rename_i x
      split at e
      · rename_i ks hk1
        split at e
        · rename_i xs hx
          split at e
          · rename_i hl
            cases e
            obtain ⟨y, rfl, ry⟩ := one_of r
            obtain ⟨p, kv, rfl, h1, e1, r1⟩ := seqD_ok sr ry hk1
            exact callW_of (call_sortedD C.calm) ⟨p, kv, xs, rfl, h1, keyStrs_ok e1 hx, hl, fun ys q pm so hq => by rw [sortStr_one pm so]; exact v.newL sr (repL_strs _) hq⟩
          · cases e
        · cases e
      · by_cases hks : (kdS S1 x).isSome = true
        · rw [if_pos hks] at e
          cases qk : kdS S1 x with
          | none => rw [qk] at hks; cases hks
          | some pp =>
            obtain ⟨ks, vs0⟩ := pp
            rw [qk] at e
            have e : (sortN (ks.map Prod.snd)).map W.lst = some w := e
            cases qs : sortN (ks.map Prod.snd) with
            | none => rw [qs] at e; cases e
            | some out =>
              rw [qs] at e
              cases e
              obtain ⟨y, rfl, ry⟩ := one_of r
              exact sorted_kd C.calm C.un sr ry qk qs v
        rw [if_neg hks] at e
        split at e
        · rename_i us hu
          split at e
          · rename_i xs hx
            split at e
            · rename_i hl
              cases e
              obtain ⟨y, rfl, ry⟩ := one_of r
              obtain ⟨l, ys, rfl, h1, h2⟩ := seqL_ok sr ry hu
              cases strsW_ok h2 hx
              exact callW_of cr_sortedS ⟨l, xs, rfl, h1, hl, fun ys q pm so hq => by rw [sortStr_one pm so]; exact v.newL sr (repL_strs _) hq⟩
            · cases e
          · cases e
        · split at e
          · rename_i us hu
            split at e
            · rename_i xs hx
              split at e
              · rename_i hl
                cases e
                obtain ⟨y, rfl, ry⟩ := one_of r
                obtain ⟨l, ys, rfl, h1, h2⟩ := seqT_ok sr ry hu
                cases strsW_ok h2 hx
                exact callW_of cr_sortedT ⟨l, xs, rfl, h1, hl, fun ys q pm so hq => by rw [sortStr_one pm so]; exact v.newL sr (repL_strs _) hq⟩
              · cases e
            · cases e
          · cases e
    · cases e
  by_cases c11 : f = "dict"
  · subst c11
    refine ty PyProof.Rows.boot_dict (mono k fun vs H ⟨S1, ρ, B, ws, w, sr, r, e, v⟩ => ?_)
    unfold bcall at e
    rw [if_neg c, if_neg c2, if_neg c3, if_neg c4, if_neg c5, if_neg c6, if_neg c7, if_neg c8, if_neg c9, if_neg c10, if_pos rfl] at e
    split at e
    · rename_i x
      cases q : dictOf S1 x with
      | none => rw [q] at e; cases e
      | some ks =>
        rw [q] at e
        cases e
        obtain ⟨y, rfl, ry⟩ := one_of r
        exact dictOf_ok C sr ry q fun p kv e1 r1 hp => v.newD sr e1 r1 hp
    · cases e
  · exfalso
    unfold known at hk
    rw [decide_eq_false c11, decide_eq_false c, decide_eq_false c2, decide_eq_false c3, decide_eq_false c4, decide_eq_false c5, decide_eq_false c6, decide_eq_false c7, decide_eq_false c8, decide_eq_false c9, decide_eq_false c10] at hk
    cases hk

/-! ### subscripts -/
theorem atI_rep {K : PySem.W.Frag} {B : Hp} {ρ : List Addr} {xs : List V} {ws : List W} {i : Int} {w : W} (r : RepL K B ρ xs ws) (e : atI ws i = some w) : ∃ v, atI xs i = some v ∧ Rep K B ρ v w := by
  unfold atI at e ⊢
  rw [← r.length] at e
  cases q : ixN xs.length i with
  | none => rw [q] at e; cases e
  | some j =>
    rw [q] at e
    exact r.get e
theorem ixS0_ok {B H : Hp} {ρ : List Addr} {S : Sto} {Q : VK} {x y : V} {a b c : W} (s : SR X.K ρ S B H) (rx : Rep X.K B ρ x a) (ry : Rep X.K B ρ y b) (e : ixS0 S a b = some c) (k : Val X.K c S Q ρ B H) : ixW X x y H Q := by
  unfold ixS0 at e
  split at e
  · cases ry
    split at e
    · cases rx
      split at e
      · rename_i z hz
        cases q : atI z.cps.toList _ with
        | none => rw [q] at e; cases e
        | some d =>
          rw [q] at e
          cases e
          exact ixW_of ix_str ⟨_, _, d, rfl, rfl, small_line hz, q, k.here s (.str _)⟩
      · cases e
    · split at e
      · rename_i ws hs
        obtain ⟨p, xs, rfl, h1, h2⟩ := seqL_ok s rx hs
        obtain ⟨v, e1, rv⟩ := atI_rep h2 e
        exact ixW_of ix_list ⟨p, xs, _, v, rfl, rfl, h1, e1, k.here s rv⟩
      · split at e
        · rename_i ws hs
          obtain ⟨p, xs, rfl, h1, h2⟩ := seqT_ok s rx hs
          obtain ⟨v, e1, rv⟩ := atI_rep h2 e
          exact ixW_of ix_tup ⟨p, xs, _, v, rfl, rfl, h1, e1, k.here s rv⟩
        · cases e
  · cases e
theorem ixS_ok {B H : Hp} {ρ : List Addr} {S : Sto} {Q : VK} {x y : V} {a b c : W} (hu : X.A.units + 65 < cLine) (hw : Gam.wd = X.w) (s : SR X.K ρ S B H) (rx : Rep X.K B ρ x a) (ry : Rep X.K B ρ y b) (e : ixS S a b = some c) (k : Val X.K c S Q ρ B H) : ixW X x y H Q := by
  unfold ixS at e
  split at e
  · rename_i ks kk q1 q2
    obtain ⟨p, kv, rfl, h1, e1, r1⟩ := seqD_ok s rx q1
    cases keyW_ok ry q2
    obtain ⟨v, hv, rv⟩ := (find_ok (k := kk) e1 r1).1 _ e
    refine ixW_of (ix_dictD (by omega)) ⟨p, v, rfl, ?_, k.here s rv⟩
    rw [← hv]
    exact .inl ⟨kv, kk, h1, rfl, rfl⟩
  · unfold ixK at e
    split at e
    · rename_i ks vs hk
      split at e
      · rename_i kk hn
        exact ixK_kd hu hw s rx ry hk hn e fun v r => k.here s r
      · cases e
    · exact ixS0_ok s rx ry e k
def slW (X : Cx) : V → Option Int → Option Int → Hp → VK → Prop := fun x lo hi H Q => ∀ pins s σ v vl vu sl, Inv X pins σ H s → RelV x v → s.heap.IsSliceOf sl vl vu .none → IsPart vl lo → IsPart vu hi →
  ∃ T id, typeLookup (.type T) "__getitem__" = pure (some (.builtin id)) ∧ s.TypeIs v T ∧ wpAny (model X.prog X.w) X.A (getItem v (.ref sl)) (EP X pins σ Q) X.xe s
theorem slW_r : SlR X (slW X) := fun pins s σ H x v vl vu lo hi sl Q I rx hs pl pu h => h pins s σ v vl vu sl I rx hs pl pu
theorem slW_of {r : V → Option Int → Option Int → Hp → VK → Prop} (h : SlR X r) {x : V} {lo hi : Option Int} {H : Hp} {Q : VK} (q : r x lo hi H Q) : slW X x lo hi H Q := fun pins s σ v vl vu sl I rx hs pl pu => h pins s σ H x v vl vu lo hi sl Q I rx hs pl pu q
theorem cut_rep {K : PySem.W.Frag} {B : Hp} {ρ : List Addr} {xs : List V} {ws : List W} {lo hi : Option Int} (r : RepL K B ρ xs ws) : RepL K B ρ (cutV xs lo hi) (cutW ws lo hi) := by
  unfold cutV cutW
  rw [← r.length]
  exact (r.drop _).take _
theorem slS_ok {B H : Hp} {ρ : List Addr} {S : Sto} {Q : VK} {x : V} {a c : W} {lo hi : Option Int} (s : SR X.K ρ S B H) (rx : Rep X.K B ρ x a) (e : slS S a lo hi = some c) (k : Val X.K c S Q ρ B H) : slW X x lo hi H Q := by
  unfold slS at e
  split at e
  · cases rx
    split at e
    · rename_i z hz
      cases e
      exact slW_of sl_str ⟨_, rfl, small_line hz, k.here s (.str _)⟩
    · cases e
  · split at e
    · rename_i ws hs
      cases e
      obtain ⟨p, xs, rfl, h1, h2⟩ := seqL_ok s rx hs
      exact slW_of sl_list ⟨p, xs, rfl, h1, fun q hq => k.newL s (cut_rep h2) hq⟩
    · cases q : seqT a with
      | none => rw [q] at e; cases e
      | some ws =>
        rw [q] at e
        cases e
        cases rx with
        | tup h1 h2 =>
          cases q
          refine slW_of sl_tupA ⟨_, _, rfl, Same.tup s.same h1, fun hc => ?_, fun _ p hp => k.newT s (cut_rep h2) hp⟩
          have ec : cutW ws lo hi = ws := by
            unfold cutW
            rw [← h2.length, hc.1, hc.2, h2.length]
            simp
          have k' : Val X.K (.tup (cutW ws lo hi)) S Q ρ B H := k
          rw [ec] at k'
          exact k'.here s (.tup h1 h2)
        | _ => cases q

end
end Mi

set_option Elab.async false
set_option linter.all false
set_option maxRecDepth 100000
set_option maxHeartbeats 4000000
/-! Mi6: targets, walks, loops, comprehensions. -/
noncomputable section
namespace Mi
open PySem PySem.Spec PyProof.Rows L2
variable [Gam]

/-! ### targets -/
def tgNs (g : Gm) : List Expr → TGs
  | [] => gNil
  | .Name x _ :: r => gCons (gName ((slotOf g.N x).getD 0)) (tgNs g r)
  | _ :: _ => fun _ _ _ _ => False
def tgG (K : PySem.W.Frag) (g : Gm) : Expr → TG
  | .Name x _ => gName ((slotOf g.N x).getD 0)
  | .Tuple es _ _ => gTup K es.length (tgNs g es)
  | _ => fun _ _ _ _ => False
def slots (g : Gm) : Expr → List Nat
  | .Name x _ => [(slotOf g.N x).getD 0]
  | .Tuple es _ _ => es.filterMap fun | .Name x _ => some ((slotOf g.N x).getD 0) | _ => none
  | _ => []
section
variable {pg : Pg} {cl : Str → List W → Sto → R W} {E : Evs} {g : Gm} {Wx : WX} {X : Cx}
theorem loc_ok (C : CxOk pg cl g Wx X) {x : Str} (h : locB g x = true) : L2.Loc X.env.scope x ∧ (X.fn x = true ∨ X.env.scope.names.lookup x = some .local) := by
  unfold locB at h
  unfold L2.Loc
  rw [C.sc, C.fn]
  split at h
  · rename_i e; exact ⟨.inl e, .inr e⟩
  · rename_i e; exact ⟨.inr e, .inl h⟩
  · cases h
theorem pg_nameB (C : CxOk pg cl g Wx X) {x : Str} {p : Pos} (h : nameOk g (.Name x p) = true) : PG X (.Name x p) (gName ((slotOf g.N x).getD 0)) := by
  unfold nameOk at h
  rw [Bool.and_eq_true] at h
  obtain ⟨h1, h2⟩ := h
  obtain ⟨i, hi⟩ := Option.isSome_iff_exists.mp h2
  rw [hi]
  obtain ⟨l1, l2⟩ := loc_ok C h1
  exact pg_name C.nd (by rw [C.N]; exact slotOf_get hi) l1 l2
theorem pgs_names (C : CxOk pg cl g Wx X) : ∀ {es : List Expr}, es.all (nameOk g) = true → PGs X es (tgNs g es) ∧ (assignEach es X.env).length = es.length ∧ (assignEach es X.env).findIdx? (·.1) = none
  | [], _ => ⟨pgs_nil, rfl, rfl⟩
  | e :: es, h => by
    rw [List.all_cons, Bool.and_eq_true] at h
    obtain ⟨h1, h2⟩ := h
    obtain ⟨i1, i2, i3⟩ := pgs_names C h2
    cases e with
    | Name x p =>
      refine ⟨pgs_cons (pg_nameB C h1) i1, ?_, ?_⟩
      · show (assignEach es X.env).length + 1 = es.length + 1
        rw [i2]
      · show List.findIdx? (·.1) ((false, _) :: assignEach es X.env) = none
        rw [List.findIdx?_cons, i3]
        rfl
    | _ => cases h1
theorem pg_tg (C : CxOk pg cl g Wx X) {tg : Expr} (h : tgOk g tg = true) : PG X tg (tgG X.K g tg) := by
  cases tg with
  | Name x p => exact pg_nameB C h
  | Tuple es k p =>
    obtain ⟨i1, i2, i3⟩ := pgs_names C (show es.all (nameOk g) = true from h)
    exact pg_tup C.calm i1 i2 i3
  | _ => cases h

theorem wipe_get (σ : L2.St) : ∀ (vs : List Nat) (i : Nat), (wipe σ vs)[i]? = if i ∈ vs then (if i < σ.length then some none else none) else σ[i]?
  | [], i => by simp [wipe]
  | v :: vs, i => by
    have ih := wipe_get σ vs i
    unfold L2.wipe
    by_cases h : v = i
    · subst h
      rw [if_pos (List.mem_cons_self ..)]
      by_cases hl : v < σ.length
      · rw [if_pos hl, List.getElem?_set_self (by rw [wipe_length]; exact hl)]
      · rw [if_neg hl, List.getElem?_eq_none (by simp [wipe_length]; omega)]
    · rw [List.getElem?_set_ne h, ih]
      have : (i ∈ v :: vs) = (i ∈ vs) := by
        apply propext
        constructor
        · intro q
          rcases List.mem_cons.mp q with q | q
          · exact absurd q.symm h
          · exact q
        · exact List.mem_cons_of_mem _
      simp only [this]
theorem wipe_set {σ : L2.St} {vs : List Nat} {i : Nat} {x : Option V} (h : i ∈ vs) : wipe (σ.set i x) vs = wipe σ vs := by
  apply List.ext_getElem?
  intro j
  rw [wipe_get, wipe_get]
  by_cases hj : j ∈ vs
  · rw [if_pos hj, if_pos hj, List.length_set]
  · rw [if_neg hj, if_neg hj]
    have : i ≠ j := fun e => hj (e ▸ h)
    rw [List.getElem?_set_ne this]
theorem wipe_wipe {σ : L2.St} {vs : List Nat} : wipe (wipe σ vs) vs = wipe σ vs := by
  apply List.ext_getElem?
  intro j
  rw [wipe_get, wipe_get]
  by_cases hj : j ∈ vs
  · rw [if_pos hj, if_pos hj, wipe_length]
  · rw [if_neg hj, if_neg hj]
/-- what binding a target does -/
theorem bindN_ok {K : PySem.W.Frag} {B : Hp} {ρ : List Addr} {σ : L2.St} {env env1 : Env'} {x : Str} {v : V} {w : W} (sl : Sl K B ρ σ env) (r : Rep K B ρ v w) (e : bindN g x w env = some env1) :
    Sl K B ρ (σ.set ((slotOf g.N x).getD 0) (some v)) env1 := by
  unfold bindN at e
  split at e
  · cases q : slotOf g.N x with
    | none => rw [q] at e; cases e
    | some i =>
      rw [q] at e
      cases e
      exact sl.set r i
  · cases e
theorem bindNs_ok {K : PySem.W.Frag} {B H : Hp} {ρ : List Addr} : ∀ {es : List Expr} {ix : List Nat} {xs : List V} {ws : List W} {σ : L2.St} {env env1 : Env'} {P : L2.St → Hp → Prop}, Sl K B ρ σ env → RepL K B ρ xs ws → namesIx g es = some ix → bindIx ix ws env = some env1 →
    (∀ σ2, Sl K B ρ σ2 env1 → (∀ vs, (∀ i ∈ es.filterMap (fun | .Name x _ => some ((slotOf g.N x).getD 0) | _ => none), i ∈ vs) → wipe σ2 vs = wipe σ vs) → P σ2 H) → tgNs g es xs σ H P ∧ es.length = ws.length
  | [], _, _, _, σ, env, env1, P, sl, .nil, e0, e, k => by
    cases e0
    cases e
    exact ⟨⟨rfl, k σ sl fun _ _ => rfl⟩, rfl⟩
  | [], _, _, _, σ, env, env1, P, sl, .cons _ _, e0, h, k => by
    cases e0
    cases h
  | e :: es, ix, _, _, σ, env, env1, P, sl, r, e0, h, k => by
    unfold namesIx at e0
    cases q1 : nameIx g e with
    | none => rw [q1] at e0; cases e0
    | some i =>
      cases q2 : namesIx g es with
      | none => rw [q1, q2] at e0; cases e0
      | some is =>
        rw [q1, q2] at e0
        cases e0
        cases r with
        | nil => cases h
        | @cons v xs w ws r t =>
          cases e with
          | Name x p =>
            have hi : slotOf g.N x = some i := by
              have q3 : (if locB g x = true then slotOf g.N x else none) = some i := q1
              by_cases hl : locB g x = true
              · rw [if_pos hl] at q3
                exact q3
              · rw [if_neg hl] at q3
                cases q3
            have s2 : Sl K B ρ (σ.set ((slotOf g.N x).getD 0) (some v)) (env.set i (some w)) := by
              rw [hi]
              exact sl.set r i
            have ih := bindNs_ok (H := H) (P := P) s2 t q2 h (fun σ2 s2 hw => k σ2 s2 fun vs hv => ?_)
            · exact ⟨⟨v, xs, rfl, ih.1⟩, by rw [List.length_cons, List.length_cons, ih.2]⟩
            · rw [hw vs fun i hi => hv i (List.mem_cons_of_mem _ hi)]
              exact wipe_set (hv _ (List.mem_cons_self ..))
          | _ => cases q1
theorem bindT_ok {K : PySem.W.Frag} {B H : Hp} {ρ : List Addr} {S : Sto} {tg : Expr} {v : V} {w : W} {σ : L2.St} {env env1 : Env'} {P : L2.St → Hp → Prop} (s : SR K ρ S B H) (sl : Sl K B ρ σ env) (r : Rep K B ρ v w) (e : bindT g tg w env = some env1)
    (k : ∀ σ2, Sl K B ρ σ2 env1 → (∀ vs, (∀ i ∈ slots g tg, i ∈ vs) → wipe σ2 vs = wipe σ vs) → P σ2 H) : tgG K g tg v σ H P := by
  cases tg with
  | Name x p => exact k _ (bindN_ok sl r e) fun vs hv => wipe_set (hv _ (List.mem_cons_self ..))
  | Tuple es k' p =>
    unfold bindT at e
    cases q0 : namesIx g es with
    | none => simp only [q0] at e; cases e
    | some ix =>
      simp only [q0] at e
      unfold bindTs at e
      cases q : seqT w with
      | none => rw [q] at e; cases e
      | some ws =>
        rw [q] at e
        obtain ⟨a, xs, rfl, h1, h2⟩ := seqT_ok s r q
        have z := bindNs_ok (H := H) (P := P) sl h2 q0 e k
        exact ⟨a, xs, rfl, h1, by rw [h2.length]; exact z.2.symm, z.1⟩
  | _ => cases e

/-! ### walks -/
/-- what walks the items -/
structure Wk (K : PySem.W.Frag) (B0 : Hp) (ρ0 : List Addr) (J : It) (items : Itm) : Prop where
  wk : ∃ (G : Hp → Prop) (Y : Nat → Hp → V → Hp → Prop), Walk J items.1.length G Y ∧ (∀ ρ S B H, Same B0 B → (∃ m, ρ = ρ0 ++ m) → SR K ρ S B H → items.2 S = true → G H) ∧
    ∀ i x H H' ρ S B, i < items.1.length → Same B0 B → (∃ m, ρ = ρ0 ++ m) → SR K ρ S B H → items.2 S = true → Y i H x H' → ∃ B' w, items.1[i]? = some w ∧ Ext ρ B H ρ B' H' ∧ SR K ρ S B' H' ∧ Rep K B' ρ x w
/-- .. of what is frozen from the beginning on -/
structure WkF (K : PySem.W.Frag) (H0 B0 : Hp) (ρ0 : List Addr) (J : It) (items : Itm) : Prop where
  wk : ∃ (G : Hp → Prop) (Y : Nat → Hp → V → Hp → Prop), Walk J items.1.length G Y ∧ (∀ ρ S B H, Fz H0 H → Same B0 B → (∃ m, ρ = ρ0 ++ m) → SR K ρ S B H → items.2 S = true → G H) ∧
    ∀ i x H H' ρ S B, i < items.1.length → Same B0 B → (∃ m, ρ = ρ0 ++ m) → SR K ρ S B H → items.2 S = true → Y i H x H' → ∃ B' w, items.1[i]? = some w ∧ Ext ρ B H ρ B' H' ∧ SR K ρ S B' H' ∧ Rep K B' ρ x w
theorem Wk.f {K : PySem.W.Frag} {H0 B0 : Hp} {ρ0 : List Addr} {J : It} {items : Itm} (w : Wk K B0 ρ0 J items) : WkF K H0 B0 ρ0 J items := by
  obtain ⟨G, Y, h1, h2, h3⟩ := w.wk
  exact ⟨⟨G, Y, h1, fun ρ S B H _ => h2 ρ S B H, h3⟩⟩
theorem wk_list {K : PySem.W.Frag} {B : Hp} {ρ : List Addr} {a : Addr} {xs : List V} {ws : List W} (h : SqL K B a xs) (r : RepL K B ρ xs ws) : Wk K B ρ (Itl K a) (still ws) := by
  refine ⟨⟨fun H => SqL K H a xs, YAt xs, ?_, fun ρ1 S B1 H s p sr _ => sr.same.seq (s.seq h), fun i x H H' ρ1 S B1 hi s p sr _ y => ?_⟩⟩
  · show Walk _ ws.length _ _
    rw [← r.length]
    exact walk_list
  · obtain ⟨e1, e2⟩ := y
    subst e1
    obtain ⟨w, h1, h2⟩ := r.get' e2
    exact ⟨B1, w, h1, Ext.refl, sr, h2.mono s p⟩
theorem wk_tup {K : PySem.W.Frag} {B : Hp} {ρ : List Addr} {a : Addr} {xs : List V} {ws : List W} (h : SqT K B a xs) (r : RepL K B ρ xs ws) : Wk K B ρ (Itt K a) (still ws) := by
  refine ⟨⟨fun H => SqT K H a xs, YAt xs, ?_, fun ρ1 S B1 H s p sr _ => Same.tup sr.same (Same.tup s h), fun i x H H' ρ1 S B1 hi s p sr _ y => ?_⟩⟩
  · show Walk _ ws.length _ _
    rw [← r.length]
    exact walk_tup
  · obtain ⟨e1, e2⟩ := y
    subst e1
    obtain ⟨w, h1, h2⟩ := r.get' e2
    exact ⟨B1, w, h1, Ext.refl, sr, h2.mono s p⟩
theorem wk_str {K : PySem.W.Frag} {B : Hp} {ρ : List Addr} {z : Str} : Wk K B ρ (Its z) (still (strW z)) := by
  refine ⟨⟨fun _ => True, fun i H v H' => H' = H ∧ ∃ c, z.cps[i]? = some c ∧ v = .str ⟨#[c]⟩, ?_, fun _ _ _ _ _ _ _ _ => trivial, fun i x H H' ρ1 S B1 hi s p sr _ y => ?_⟩⟩
  · have e : (strW z).length = z.cps.size := by simp [strW]
    show Walk _ (strW z).length _ _
    rw [e]
    exact walk_str
  · obtain ⟨e1, c, e2, e3⟩ := y
    subst e1 e3
    refine ⟨B1, .str ⟨#[c]⟩, ?_, Ext.refl, sr, .str _⟩
    show (strW z)[i]? = _
    unfold strW
    rw [List.getElem?_map, Array.getElem?_toList, e2]
    rfl
theorem wk_rng {K : PySem.W.Frag} {B : Hp} {ρ : List Addr} {lo : Int} {n : Nat} : Wk K B ρ (Itr lo n) (still ((List.range n).map fun i : Nat => W.int (lo + (i : Int)))) := by
  refine ⟨⟨fun _ => True, YFn fun i => .int (lo + i), ?_, fun _ _ _ _ _ _ _ _ => trivial, fun i x H H' ρ1 S B1 hi s p sr _ y => ?_⟩⟩
  · have e : ((List.range n).map fun i : Nat => W.int (lo + (i : Int))).length = n := by simp
    show Walk _ ((List.range n).map fun i : Nat => W.int (lo + (i : Int))).length _ _
    rw [e]
    exact walk_range
  · obtain ⟨e1, e2⟩ := y
    subst e1 e2
    have hi' : i < n := by simpa [still] using hi
    exact ⟨B1, .int (lo + (i : Int)), by simp [still, hi'], Ext.refl, sr, .int _⟩
/-- a cell's list, as long as it stays what it is -/
theorem wk_cell {K : PySem.W.Frag} {B : Hp} {ρ : List Addr} {a : Addr} {n : Nat} {ws : List W} (hn : ρ[n]? = some a) : Wk K B ρ (Itl K a) (ws, sameL n ws) := by
  have at_ : ∀ {ρ1 : List Addr} {S : Sto} {B1 H : Hp}, (∃ m, ρ1 = ρ ++ m) → SR K ρ1 S B1 H → sameL n ws S = true → ∃ xs, H a = some (.lst xs) ∧ RepL K B1 ρ1 xs ws := fun {ρ1 S B1 H} p sr h => by
    unfold sameL at h
    split at h
    · rename_i ws' q
      have e := eqFs_ok h
      subst e
      obtain ⟨u, hu, ro⟩ := sr.at (pre_get p hn) q
      cases ro with
      | lst rr => exact ⟨_, hu, rr⟩
    · cases h
  refine ⟨⟨fun H => ∃ xs, SqL K H a xs ∧ xs.length = ws.length, fun i H x H' => H' = H ∧ ∀ xs, SqL K H a xs → xs[i]? = some x, ⟨fun i H hi q => ?_, fun H q => ?_, fun i H x H' _ _ y => y⟩, fun ρ1 S B1 H s p sr h => ?_, fun i x H H' ρ1 S B1 hi s p sr h y => ?_⟩⟩
  · obtain ⟨xs, q, l⟩ := q
    have hi' : i < ws.length := hi
    exact ⟨xs, xs[i], q, by simp⟩
  · obtain ⟨xs, q, l⟩ := q
    exact ⟨xs, q, by rw [l]; exact Nat.le_refl _⟩
  · obtain ⟨xs, h1, h2⟩ := at_ p sr h
    exact ⟨xs, SqL.of h1, h2.length⟩
  · obtain ⟨rfl, y2⟩ := y
    obtain ⟨xs, h3, h4⟩ := at_ p sr h
    obtain ⟨w, h5, h6⟩ := h4.get' (y2 xs (SqL.of h3))
    exact ⟨B1, w, h5, Ext.refl, sr, h6⟩
def wI (X : Cx) (tg iter : Expr) : TI := fun σ H R => ∀ pins s, Inv X pins σ H s → wpAny (model X.prog X.w) X.A (eval iter X.env) (fun v s1 => wpAny (model X.prog X.w) X.A (pyIter v) (PIE X pins σ tg R) X.xe s1) X.xe s
theorem pwI {tg iter : Expr} : PI X tg iter (wI X tg iter) := ⟨fun pins s _ _ _ I h => h pins s I⟩
theorem wI_of {tg iter : Expr} {t : TI} (h : PI X tg iter t) {σ : L2.St} {H : Hp} {R : It → Hp → Prop} (q : t σ H R) : wI X tg iter σ H R := fun pins s I => h.run pins s σ H R I q
/-- any expression that is walked -/
theorem evWalk_ok (hE : EvOk pg cl E) (C : CxOk pg cl g Wx X) {tg e : Expr} {env : Env'} {S : Sto} {σ : L2.St} {ρ : List Addr} {B H : Hp} {R' : It → Hp → Prop} (sl : Sl X.K B ρ σ env) (sr : SR X.K ρ S B H)
    (h : Hold X.K ((E.e g env S e).bind fun w S1 => walkW w S1) ρ B H (fun items S' ρ' B' H' => ∀ J, Wk X.K B' ρ' J items → R' J H') (ExP X.K X.mg Wx)) : wI X tg e σ H R' := by
  cases q : E.e g env S e with
  | bad => rw [q] at h; exact h.elim
  | exc c fs en S1 =>
    rw [q] at h
    refine wI_of (pi_list pwE) (hE.e C sl sr ?_)
    rw [q]
    exact h
  | ok w S1 =>
    rw [q] at h
    have go : ∀ {t : V → Hp → Prop}, (∀ ρ' B' H' v, Ext ρ B H ρ' B' H' → SR X.K ρ' S1 B' H' → Rep X.K B' ρ' v w → t v H') → wE X e σ H t := fun k => hE.e C sl sr (by
      rw [q]
      exact fun ρ' B' H' x s v r => k ρ' B' H' v x s r)
    cases w with
    | lst ws =>
      refine wI_of (pi_list pwE) (go fun ρ' B' H' v x s r => ?_)
      cases r with
      | lst h1 h2 => exact ⟨_, rfl, ⟨_, SqL.of (s.same _ _ h1)⟩, h ρ' B' H' x s _ (wk_list (SqL.of h1) h2)⟩
    | frl ws =>
      refine wI_of (pi_list pwE) (go fun ρ' B' H' v x s r => ?_)
      cases r with
      | frl h1 h2 _ => exact ⟨_, rfl, ⟨_, s.same.seq h1⟩, h ρ' B' H' x s _ (wk_list h1 h2)⟩
    | tup ws =>
      refine wI_of (pi_tup pwE) (go fun ρ' B' H' v x s r => ?_)
      cases r with
      | tup h1 h2 => exact ⟨_, rfl, ⟨_, Same.tup s.same h1⟩, h ρ' B' H' x s _ (wk_tup h1 h2)⟩
    | str z =>
      refine wI_of (pi_str pwE) (go fun ρ' B' H' v x s r => ?_)
      cases r
      exact ⟨z, rfl, h ρ' B' H' x s _ wk_str⟩
    | ref n =>
      have h' : Hold X.K (match S1[n]? with
        | some (.lst ws) => .ok (ws, sameL n ws) S1
        | _ => .bad) ρ B H (fun items S' ρ' B' H' => ∀ J, Wk X.K B' ρ' J items → R' J H') (ExP X.K X.mg Wx) := h
      cases qn : S1[n]? with
      | none => rw [qn] at h'; exact h'.elim
      | some o =>
        rw [qn] at h'
        cases o with
        | lst ws =>
          refine wI_of (pi_list pwE) (go fun ρ' B' H' v x s r => ?_)
          cases r with
          | @ref _ a hn =>
            obtain ⟨u, hu, ro⟩ := s.at hn qn
            cases ro with
            | @lst xs _ rr => exact ⟨_, rfl, ⟨xs, SqL.of hu⟩, h' ρ' B' H' x s _ (wk_cell hn)⟩
        | _ => exact h'.elim
    | _ => exact h.elim
theorem free_ok (C : CxOk pg cl g Wx X) {f : Str} (h : pg.free.contains f = true) : X.mg f = none := C.free f (List.contains_iff_mem.mp h)
theorem enumW_at : ∀ {ws : List W} {n i : Nat} {w : W}, ws[i]? = some w → (enumW n ws)[i]? = some (.tup [.int ((n + i : Nat) : Int), w])
  | [], _, _, _, h => by simp at h
  | x :: r, n, 0, w, h => by
    simp at h
    subst h
    simp [enumW]
  | x :: r, n, i + 1, w, h => by
    have z := enumW_at (ws := r) (n := n + 1) (i := i) (w := w) (by simpa using h)
    simp only [enumW, List.getElem?_cons_succ]
    rw [z]
    congr 4
    omega
theorem enumW_len : ∀ (ws : List W) (n : Nat), (enumW n ws).length = ws.length
  | [], _ => rfl
  | _ :: r, n => by simp [enumW, enumW_len r (n + 1)]
theorem wk_enumS {K : PySem.W.Frag} {B : Hp} {ρ : List Addr} {z : Str} : Wk K B ρ (ItsE z) (still (enumW 0 (strW z))) := by
  have ln : (strW z).length = z.cps.size := by simp [strW]
  refine ⟨⟨fun _ => True, fun i H v H' => ∃ T c, v = .ref T ∧ H T = none ∧ H' = upd H T (.tup [.int (i : Nat), .str ⟨#[c]⟩]) ∧ z.cps[i]? = some c, ?_, fun _ _ _ _ _ _ _ _ => trivial, fun i x H H' ρ1 S B1 hi s p sr _ y => ?_⟩⟩
  · show Walk _ (enumW 0 (strW z)).length _ _
    rw [enumW_len, ln]
    exact walk_enumS
  · obtain ⟨T, c, rfl, h2, rfl, h4⟩ := y
    have e2 : Ext ρ1 B1 H ρ1 (upd B1 T (.tup [.int (i : Nat), .str ⟨#[c]⟩])) (upd H T (.tup [.int (i : Nat), .str ⟨#[c]⟩])) := Ext.fresh sr.same h2
    have at_ : (strW z)[i]? = some (.str ⟨#[c]⟩) := by
      unfold strW
      rw [List.getElem?_map, Array.getElem?_toList, h4]
      rfl
    have z2 := enumW_at (n := 0) at_
    rw [Nat.zero_add] at z2
    exact ⟨_, _, z2, e2, sr.fresh h2, .tup (SqT.of upd_same) (.cons (.int _) (.cons (.str _) .nil))⟩
theorem wk_enum {K : PySem.W.Frag} {B : Hp} {ρ : List Addr} {a : Addr} {ws : List W} {chk : Sto → Bool} (at_ : ∀ {ρ1 : List Addr} {S : Sto} {B1 H : Hp}, Same B B1 → (∃ m, ρ1 = ρ ++ m) → SR K ρ1 S B1 H → chk S = true → ∃ xs, SqL K H a xs ∧ RepL K B1 ρ1 xs ws) : Wk K B ρ (Ite K a) (enumW 0 ws, chk) := by
  refine ⟨⟨fun H => ∃ xs, SqL K H a xs ∧ xs.length = ws.length, fun i H v H' => ∃ T x, v = .ref T ∧ H T = none ∧ H' = upd H T (.tup [.int (i : Nat), x]) ∧ ∀ xs, SqL K H a xs → xs[i]? = some x, ⟨fun i H hi q => ?_, fun H q => ?_, fun i H x H' _ _ y => y⟩, fun ρ1 S B1 H s p sr h => ?_, fun i x H H' ρ1 S B1 hi s p sr h y => ?_⟩⟩
  · obtain ⟨xs, q, l⟩ := q
    have hi' : i < (enumW 0 ws).length := hi
    rw [enumW_len] at hi'
    exact ⟨xs, xs[i], q, by simp⟩
  · obtain ⟨xs, q, l⟩ := q
    exact ⟨xs, q, by show xs.length ≤ (enumW 0 ws).length; rw [enumW_len, l]; exact Nat.le_refl _⟩
  · obtain ⟨xs, h1, h2⟩ := at_ s p sr h
    exact ⟨xs, h1, h2.length⟩
  · obtain ⟨T, x, rfl, h2, rfl, h4⟩ := y
    obtain ⟨xs, h3, h5⟩ := at_ s p sr h
    obtain ⟨w, h6, h7⟩ := h5.get' (h4 xs h3)
    have e2 : Ext ρ1 B1 H ρ1 (upd B1 T (.tup [.int (i : Nat), x])) (upd H T (.tup [.int (i : Nat), x])) := Ext.fresh sr.same h2
    have z2 := enumW_at (n := 0) h6
    rw [Nat.zero_add] at z2
    exact ⟨_, _, z2, e2, sr.fresh h2, .tup (SqT.of upd_same) (.cons (.int _) (.cons (h7.mono e2.b e2.pre) .nil))⟩
theorem wk_enumT {K : PySem.W.Frag} {B : Hp} {ρ : List Addr} {a : Addr} {xs : List V} {ws : List W} (h : SqT K B a xs) (r : RepL K B ρ xs ws) : Wk K B ρ (Itet K a) (still (enumW 0 ws)) := by
  refine ⟨⟨fun H => SqT K H a xs, fun i H v H' => ∃ T x, v = .ref T ∧ H T = none ∧ H' = upd H T (.tup [.int (i : Nat), x]) ∧ xs[i]? = some x, ⟨fun i H hi q => ?_, fun H q => ?_, fun i H x H' _ g y => ?_⟩, fun ρ1 S B1 H s p sr _ => Same.tup sr.same (Same.tup s h), fun i x H H' ρ1 S B1 hi s p sr _ y => ?_⟩⟩
  · have hi' : i < (enumW 0 ws).length := hi
    rw [enumW_len, ← r.length] at hi'
    exact ⟨xs, xs[i], q, by simp⟩
  · exact ⟨xs, q, by show xs.length = (enumW 0 ws).length; rw [enumW_len, r.length]⟩
  · obtain ⟨T, z, e1, e2, e3, e4⟩ := y
    exact ⟨T, z, e1, e2, e3, e4 _ g⟩
  · obtain ⟨T, z, rfl, h2, rfl, h4⟩ := y
    obtain ⟨w, h6, h7⟩ := r.get' h4
    have e2 : Ext ρ1 B1 H ρ1 (upd B1 T (.tup [.int (i : Nat), z])) (upd H T (.tup [.int (i : Nat), z])) := Ext.fresh sr.same h2
    have z2 := enumW_at (n := 0) h6
    rw [Nat.zero_add] at z2
    exact ⟨_, _, z2, e2, sr.fresh h2, .tup (SqT.of upd_same) (.cons (.int _) (.cons ((h7.mono s p).mono e2.b e2.pre) .nil))⟩
/-- enumerate -/
theorem evEnum_ok (hE : EvOk pg cl E) (C : CxOk pg cl g Wx X) {tg e : Expr} {p pos : Pos} {env : Env'} {S : Sto} {σ : L2.St} {ρ : List Addr} {B H : Hp} {R' : It → Hp → Prop} (sl : Sl X.K B ρ σ env) (sr : SR X.K ρ S B H)
    (g1 : gloB g.sc "enumerate" = true) (g2 : pg.free.contains "enumerate" = true) (g3 : isTupE tg = true) (g4 : notStar e = true)
    (h : Hold X.K ((E.e g env S e).bind fun w S1 => enumWk w S1) ρ B H (fun items S' ρ' B' H' => ∀ J, Wk X.K B' ρ' J items → R' J H') (ExP X.K X.mg Wx)) : wI X tg (.Call (.Name "enumerate" p) [e] [] pos) σ H R' := by
  have hm : X.mg "enumerate" = none := C.free _ (List.contains_iff_mem.mp g2)
  have st : starEach [e] X.env = [(false, eval e X.env)] := star_no g4
  cases tg with
  | Tuple elts kk tp =>
    cases q : E.e g env S e with
    | bad => rw [q] at h; exact h.elim
    | exc c fs en S1 =>
      rw [q] at h
      refine wI_of (pi_enum (glo_okB C g1) hm (pa_cons pwE pa_nil st) st) (hE.e C sl sr ?_)
      rw [q]
      exact h
    | ok w S1 =>
      rw [q] at h
      have go : ∀ {t : V → Hp → Prop}, (∀ ρ' B' H' v, Ext ρ B H ρ' B' H' → SR X.K ρ' S1 B' H' → Rep X.K B' ρ' v w → t v H') → wE X e σ H t := fun k => hE.e C sl sr (by
        rw [q]
        exact fun ρ' B' H' x s v r => k ρ' B' H' v x s r)
      cases w with
      | str z =>
        refine wI_of (pi_enumS (glo_okB C g1) hm (pa_cons pwE pa_nil st) st) (go fun ρ' B' H' v x s r => ?_)
        cases r
        exact ⟨z, rfl, h ρ' B' H' x s _ wk_enumS⟩
      | lst ws =>
        refine wI_of (pi_enum (glo_okB C g1) hm (pa_cons pwE pa_nil st) st) (go fun ρ' B' H' v x s r => ?_)
        cases r with
        | lst h1 h2 => exact ⟨_, _, rfl, SqL.of (s.same _ _ h1), h ρ' B' H' x s _ (wk_enum fun sm p sr _ => ⟨_, SqL.of (sr.same _ _ (sm _ _ h1)), h2.mono sm p⟩)⟩
      | frl ws =>
        refine wI_of (pi_enum (glo_okB C g1) hm (pa_cons pwE pa_nil st) st) (go fun ρ' B' H' v x s r => ?_)
        cases r with
        | frl h1 h2 _ => exact ⟨_, _, rfl, s.same.seq h1, h ρ' B' H' x s _ (wk_enum fun sm p sr _ => ⟨_, sr.same.seq (sm.seq h1), h2.mono sm p⟩)⟩
      | tup ws =>
        refine wI_of (pi_enumT (glo_okB C g1) hm (pa_cons pwE pa_nil st) st) (go fun ρ' B' H' v x s r => ?_)
        cases r with
        | tup h1 h2 => exact ⟨_, _, rfl, Same.tup s.same h1, h ρ' B' H' x s _ (wk_enumT h1 h2)⟩
      | ref n =>
        have h' : Hold X.K (match S1[n]? with
          | some (.lst ws) => .ok (enumW 0 ws, sameL n ws) S1
          | _ => .bad) ρ B H (fun items S' ρ' B' H' => ∀ J, Wk X.K B' ρ' J items → R' J H') (ExP X.K X.mg Wx) := h
        cases qn : S1[n]? with
        | none => rw [qn] at h'; exact h'.elim
        | some o =>
          rw [qn] at h'
          cases o with
          | lst ws =>
            refine wI_of (pi_enum (glo_okB C g1) hm (pa_cons pwE pa_nil st) st) (go fun ρ' B' H' v x s r => ?_)
            cases r with
            | @ref _ a hn =>
              obtain ⟨u, hu, ro⟩ := s.at hn qn
              cases ro with
              | lst rr =>
                refine ⟨_, _, rfl, SqL.of hu, h' ρ' B' H' x s _ (wk_enum fun {ρ1 S B1 H} sm p sr hk => ?_)⟩
                unfold sameL at hk
                split at hk
                · rename_i ws' q'
                  have e := eqFs_ok hk
                  subst e
                  obtain ⟨u', hu', ro'⟩ := sr.at (pre_get p hn) q'
                  cases ro' with
                  | lst rr' => exact ⟨_, SqL.of hu', rr'⟩
                · cases hk
          | _ => exact h'.elim
      | _ => exact h.elim
  | _ => cases g3
theorem evIter_ok (hE : EvOk pg cl E) (C : CxOk pg cl g Wx X) {tg iter : Expr} {env : Env'} {S : Sto} {σ : L2.St} {ρ : List Addr} {B H : Hp} {R' : It → Hp → Prop} (sl : Sl X.K B ρ σ env) (sr : SR X.K ρ S B H)
    (h : Hold X.K (evIter pg g (fun e S => E.e g env S e) tg iter S) ρ B H (fun items S' ρ' B' H' => ∀ J, Wk X.K B' ρ' J items → R' J H') (ExP X.K X.mg Wx)) : wI X tg iter σ H R' := by
  unfold evIter at h
  split at h
  · rename_i p a q
    obtain ⟨h1, h2⟩ := h.grd
    rw [Bool.and_eq_true] at h1
    have hs := mapR_stars h2
    refine wI_of (pi_range1 (glo_okB C h1.1) (free_ok C h1.2) pwA (star_no (hs a (by simp)))) ?_
    refine mapR_bind hE C sl sr h2 fun ws S1 ρ1 B1 H1 vs x s1 sl1 r k => ?_
    split at k
    · obtain ⟨k1, k2⟩ := k.grd
      obtain ⟨v, rfl, rv⟩ := one_of r
      cases rv
      have b := of_decide_eq_true k1
      exact ⟨_, rfl, b.1, b.2, k2.here s1 _ wk_rng⟩
    · exact k.elim
  · rename_i p a b q
    obtain ⟨h1, h2⟩ := h.grd
    rw [Bool.and_eq_true] at h1
    have hs := mapR_stars h2
    have sb : starEach [b] X.env = [(false, eval b X.env)] := star_no (hs b (by simp))
    refine wI_of (pi_range2 (glo_okB C h1.1) (free_ok C h1.2) pwA (by rw [star_no (hs a (by simp)), sb]) sb) ?_
    refine mapR_bind hE C sl sr h2 fun ws S1 ρ1 B1 H1 vs x s1 sl1 r k => ?_
    split at k
    · obtain ⟨k1, k2⟩ := k.grd
      obtain ⟨v, v', rfl, rv, rv'⟩ := two_of r
      cases rv; cases rv'
      have b := of_decide_eq_true k1
      exact ⟨_, _, rfl, b, k2.here s1 _ wk_rng⟩
    · exact k.elim
  · rename_i p a q
    obtain ⟨h1, h2⟩ := h.grd
    rw [Bool.and_eq_true, Bool.and_eq_true, Bool.and_eq_true] at h1
    obtain ⟨⟨⟨g1, g2⟩, g3⟩, g4⟩ := h1
    exact evEnum_ok hE C sl sr g1 g2 g3 g4 h2
  · rename_i e he1 he2 he3
    obtain ⟨h1, h2⟩ := h.grd
    exact evWalk_ok hE C sl sr h2
end
end Mi

set_option Elab.async false
set_option linter.all false
set_option maxRecDepth 100000
set_option maxHeartbeats 4000000
/-! Ma6b: a dict that never changes is locked and unlocked while it is walked. -/
noncomputable section
namespace Mi
open PySem PySem.Spec PyProof.Rows L2
variable [Gam]
/-- how a dict that never changes may stand -/
def Is (kv : List (Key × V)) (u : HO) : Prop := u = .dK kv ∨ ∃ o, u = .frz o (.dK kv)
theorem Is.plain {kv : List (Key × V)} {u : HO} (h : Is kv u) : plainO u = true := by
  rcases h with rfl | ⟨o, rfl⟩ <;> rfl
theorem Is.rd {kv : List (Key × V)} {u : HO} {B : Hp} {d : Addr} (h : Is kv u) (e : B d = some u) : L2.Rd B d (.dK kv) := by
  rcases h with rfl | ⟨o, rfl⟩
  · exact .inl e
  · exact .inr ⟨o, e⟩
theorem rd_one {kv kv' : List (Key × V)} {u : HO} {B : Hp} {d : Addr} (h : Is kv u) (e : B d = some u) (r : L2.Rd B d (.dK kv')) : kv' = kv := by
  rcases h with rfl | ⟨o, rfl⟩ <;> rcases r with r | ⟨o', r⟩ <;> (rw [e] at r; cases r) <;> rfl
section
variable {K : PySem.W.Frag} {B B' H H' : Hp} {ρ ρ' : List Addr} {S : Sto} {d : Addr} {kv : List (Key × V)} {u u' : HO}
theorem sw_at {a : Addr} {x : HO} (hu : B d = some u) (i : Is kv u) (hx : ∀ kv', x ≠ .dK kv') (hx2 : ∀ o kv', x ≠ .frz o (.dK kv')) (h : B a = some x) : upd B d u' a = some x := by
  have hne : a ≠ d := fun e => by
    subst e
    rw [hu] at h
    cases h
    rcases i with rfl | ⟨o', rfl⟩
    · exact hx _ rfl
    · exact hx2 _ _ rfl
  rw [upd_ne hne]
  exact h
theorem sw_rd {a : Addr} {x : HO} (hu : B d = some u) (i : Is kv u) (hx : ∀ kv', x ≠ .dK kv') (hx2 : ∀ o kv', x ≠ .frz o (.dK kv')) (h : L2.Rd B a x) : L2.Rd (upd B d u') a x := by
  rcases h with h | ⟨o, h⟩
  · exact .inl (sw_at hu i hx hx2 h)
  · exact .inr ⟨o, sw_at hu i (fun kv' e => by cases e) (fun o' kv' e => by
      injection e with e1 e2
      exact hx _ e2) h⟩
theorem sw_dk {a : Addr} {kv' : List (Key × V)} (hu : B d = some u) (i : Is kv u) (i' : Is kv u') (h : L2.Rd B a (.dK kv')) : L2.Rd (upd B d u') a (.dK kv') := by
  by_cases e : a = d
  · subst e
    cases rd_one i hu h
    exact i'.rd upd_same
  · rcases h with h | ⟨o, h⟩
    · exact .inl (by rw [upd_ne e]; exact h)
    · exact .inr ⟨o, by rw [upd_ne e]; exact h⟩
mutual
theorem Rep.swap (hu : B d = some u) (i : Is kv u) (i' : Is kv u') : ∀ {v : V} {w : W}, Rep K B ρ v w → Rep K (upd B d u') ρ v w
  | _, _, .non => .non
  | _, _, .bl b => .bl b
  | _, _, .int b => .int b
  | _, _, .str b => .str b
  | _, _, .tup h r => .tup (h.imp (sw_rd hu i (fun _ e => by cases e) (fun _ _ e => by cases e)) id) (RepL.swap hu i i' r)
  | _, _, .lst h r => .lst (sw_at hu i (fun _ e => by cases e) (fun _ _ e => by cases e) h) (RepL.swap hu i i' r)
  | _, _, .frl h r f => .frl (h.imp (sw_rd hu i (fun _ e => by cases e) (fun _ _ e => by cases e)) id) (RepL.swap hu i i' r) f
  | _, _, .ref h => .ref h
  | _, _, .obj hc h e r => .obj hc (sw_at hu i (fun _ e => by cases e) (fun _ _ e => by cases e) h) e (RepL.swap hu i i' r)
  | _, _, .dct h e r => .dct (sw_dk hu i i' h) e (RepL.swap hu i i' r)
theorem RepL.swap (hu : B d = some u) (i : Is kv u) (i' : Is kv u') : ∀ {vs : List V} {ws : List W}, RepL K B ρ vs ws → RepL K (upd B d u') ρ vs ws
  | _, _, .nil => .nil
  | _, _, .cons h r => .cons (Rep.swap hu i i' h) (RepL.swap hu i i' r)
end
theorem RepO.swap (hu : B d = some u) (i : Is kv u) (i' : Is kv u') {x : HO} {o : SO} (r : RepO K B ρ x o) : RepO K (upd B d u') ρ x o := by
  cases r with
  | lst r => exact .lst (r.swap hu i i')
  | ins hc e r => exact .ins hc e (r.swap hu i i')
  | dct e r => exact .dct e (r.swap hu i i')
theorem SR.swap (s : SR K ρ S B H) (hu : B d = some u) (i : Is kv u) (i' : Is kv u') : SR K ρ S (upd B d u') (upd H d u') := by
  refine ⟨fun c x q => ?_, s.len, s.nd, fun j c so e1 e2 => ?_, s.tb.chg (s.same _ _ hu) i.plain i'.plain, s.nb.upd i'.plain⟩
  · by_cases hc : c = d
    · subst hc
      rw [upd_same] at q ⊢
      exact q
    · rw [upd_ne hc] at q ⊢
      exact s.same c x q
  · have z := s.cell j c so e1 e2
    cases q : isImd so with
    | false =>
      obtain ⟨hb, x, hx, r⟩ := z.live q
      have hc : c ≠ d := fun e => by rw [e, hu] at hb; cases hb
      exact Cel.mk (by rw [upd_ne hc]; exact hb) (by rw [upd_ne hc]; exact hx) (r.swap hu i i')
    | true =>
      cases so with
      | imd ks =>
        obtain ⟨kv', h1, h2, h3⟩ := z
        exact ⟨kv', sw_dk hu i i' h1, h2, h3.swap hu i i'⟩
      | lck ks =>
        obtain ⟨hb, o, kv', h1, h2, h3⟩ := z
        have hc : c ≠ d := fun e => by rw [e, hu] at hb; cases hb
        exact ⟨by rw [upd_ne hc]; exact hb, o, kv', by rw [upd_ne hc]; exact h1, h2, h3.swap hu i i'⟩
      | kd ks vs =>
        obtain ⟨hb, g0, sy, sz, o, xs, us, h1, h2, h3, h4, h5⟩ := z
        have hc : c ≠ d := fun e => by rw [e, hu] at hb; cases hb
        exact ⟨by rw [upd_ne hc]; exact hb, g0, sy, sz, o, xs, us, by rw [upd_ne hc]; exact h1, h2, Paired.mapP h3 fun _ _ ⟨a1, a2, a3⟩ => ⟨a1, a2, a3.swap hu i i'⟩, h4, h5.swap hu i i'⟩
      | _ => cases q
theorem Sl.swap {σ : L2.St} {env : Env'} (s : Sl K B ρ σ env) (hu : B d = some u) (i : Is kv u) (i' : Is kv u') : Sl K (upd B d u') ρ σ env :=
  ⟨s.len, fun j w h => by
    obtain ⟨v, h1, h2⟩ := s.at_ j w h
    exact ⟨v, h1, h2.swap hu i i'⟩⟩
/-- a way that began locked, seen unlocked -/
theorem Ext.unlock (e : Ext ρ (upd B d u') (upd H d u') ρ' B' H') (hu : B d = some u) (hH : H d = some u) : Ext ρ B H ρ' (upd B' d u) (upd H' d u) := by
  refine ⟨fun c x q => ?_, ?_, fun c x q ht hn => ?_, fun c x q => ?_, fun c x q hr n => ?_, fun c o x q => ?_⟩
  · by_cases hc : c = d
    · subst hc
      rw [upd_same]
      exact hu.symm.trans q
    · rw [upd_ne hc]
      exact e.b c x (by rw [upd_ne hc]; exact q)
  · obtain ⟨m, h1, h2⟩ := e.p
    refine ⟨m, h1, fun c hc => ?_⟩
    have z := h2 c hc
    have hcd : c ≠ d := fun q => by rw [q, upd_same] at z; cases z
    rw [upd_ne hcd] at z
    exact z
  · by_cases hc : c = d
    · subst hc
      rw [upd_same]
      exact hH.symm.trans q
    · rw [upd_ne hc]
      exact e.frame c x (by rw [upd_ne hc]; exact q) ht hn
  · by_cases hc : c = d
    · subst hc
      exact ⟨u, upd_same⟩
    · obtain ⟨o', z⟩ := e.there c x (by rw [upd_ne hc]; exact q)
      exact ⟨o', by rw [upd_ne hc]; exact z⟩
  · have hc : c ≠ d := fun q' => by rw [q', hu] at n; cases n
    rw [upd_ne hc]
    exact e.new c x (by rw [upd_ne hc]; exact q) hr (by rw [upd_ne hc]; exact n)
  · by_cases hc : c = d
    · subst hc
      rw [upd_same]
      exact hH.symm.trans q
    · rw [upd_ne hc]
      exact e.frz c o x (by rw [upd_ne hc]; exact q)
/-- what holds unlocked, seen from where the dict is locked -/
theorem Hold.lock {α : Type} {r : R α} {ok : α → Sto → List Addr → Hp → Hp → Prop} {ex ex' : Str → List (Str × W) → Env' → List Addr → Hp → Hp → Prop} (h : Hold K (noExc r) ρ B H ok ex) (hu : B d = some u) (hH : H d = some u) (i : Is kv u) (i' : Is kv u') :
    Hold K r ρ (upd B d u') (upd H d u') (fun a S ρ' B' H' => B' d = some u' ∧ H' d = some u' ∧ ok a S ρ' (upd B' d u) (upd H' d u)) ex' := by
  cases r with
  | bad => exact h.elim
  | exc c fs e S => exact h.elim
  | ok a S =>
    intro ρ' B' H' e s
    have b1 : B' d = some u' := e.b _ _ upd_same
    exact ⟨b1, s.same _ _ b1, h _ _ _ (e.unlock hu hH) (s.swap b1 i' i)⟩
end
/-! ### a cell's dict -/
section
variable {K : PySem.W.Frag} {B B' H H' : Hp} {ρ ρ' : List Addr} {S : Sto} {d : Addr} {kv : List (Key × V)} {ks : List (Key × W)} {od : Obj} {n : Nat}
theorem SR.lockL (s : SR K ρ S B H) (hn : ρ[n]? = some d) (hb : B d = none) (hH : H d = some (.dK kv)) (e0 : kv.map Prod.fst = ks.map Prod.fst) (rr : RepL K B ρ (kv.map Prod.snd) (ks.map Prod.snd)) : SR K ρ (S.set n (.lck ks)) B (upd H d (.frz od (.dK kv))) := by
  refine ⟨fun c v q => ?_, by simp [s.len], s.nd, fun j c so' e1 e2 => ?_, s.tb.chg hH rfl rfl, s.nb⟩
  · rw [upd_ne (ne_of_none q hb)]
    exact s.same c v q
  · by_cases hj : n = j
    · subst hj
      rw [hn] at e1
      cases e1
      have hs : n < S.length := by rw [← s.len]; exact (List.getElem?_eq_some_iff.mp hn).1
      rw [List.getElem?_set_self hs] at e2
      cases e2
      exact ⟨hb, od, kv, upd_same, e0, rr⟩
    · rw [List.getElem?_set_ne hj] at e2
      have hne : c ≠ d := fun z => by
        subst z
        obtain ⟨p1, p2⟩ := List.getElem?_eq_some_iff.mp hn
        obtain ⟨p3, p4⟩ := List.getElem?_eq_some_iff.mp e1
        exact hj ((List.getElem_inj s.nd).mp (p2.trans p4.symm))
      exact (s.cell j c so' e1 e2).mono (Same.refl B) ⟨[], by simp⟩ (fun n => n) (fun u hu => by rw [upd_ne hne]; exact hu)
theorem SR.unlockL (s : SR K ρ S B H) (hn : ρ[n]? = some d) (hS : S[n]? = some (.lck ks)) (hH : H d = some (.frz od (.dK kv))) : SR K ρ (S.set n (.dct ks)) B (upd H d (.dK kv)) := by
  obtain ⟨hb, o, kv', h1, e0, rr⟩ := s.cell n d _ hn hS
  rw [hH] at h1
  cases h1
  refine ⟨fun c v q => ?_, by simp [s.len], s.nd, fun j c so' e1 e2 => ?_, s.tb.chg hH rfl rfl, s.nb⟩
  · rw [upd_ne (ne_of_none q hb)]
    exact s.same c v q
  · by_cases hj : n = j
    · subst hj
      rw [hn] at e1
      cases e1
      rw [List.getElem?_set_self (List.getElem?_eq_some_iff.mp hS).1] at e2
      cases e2
      exact Cel.mk hb upd_same (.dct e0 rr)
    · rw [List.getElem?_set_ne hj] at e2
      have hne : c ≠ d := fun z => by
        subst z
        obtain ⟨p1, p2⟩ := List.getElem?_eq_some_iff.mp hn
        obtain ⟨p3, p4⟩ := List.getElem?_eq_some_iff.mp e1
        exact hj ((List.getElem_inj s.nd).mp (p2.trans p4.symm))
      exact (s.cell j c so' e1 e2).mono (Same.refl B) ⟨[], by simp⟩ (fun n => n) (fun u hu => by rw [upd_ne hne]; exact hu)
theorem Ext.lockL (hr : d ∈ ρ) (hH : H d = some (.dK kv)) {u' : HO} : Ext ρ B H ρ B (upd H d u') := by
  refine ⟨Same.refl B, ⟨[], by simp, fun c hc => by simp at hc⟩, fun c x z _ hn => ?_, fun c x z => ?_, fun _ _ _ _ nb => nb, fun c o x z => ?_⟩
  · rw [upd_ne (fun e => hn (by rw [e]; exact hr))]
    exact z
  · by_cases e : c = d
    · rw [e]; exact ⟨u', upd_same⟩
    · exact ⟨x, by rw [upd_ne e]; exact z⟩
  · have e : c ≠ d := fun e => by rw [e, hH] at z; cases z
    rw [upd_ne e]
    exact z
theorem Ext.unlockL (hr : d ∈ ρ) (hH : H d = some (.dK kv)) {u' : HO} (e : Ext ρ B (upd H d u') ρ' B' H') : Ext ρ B H ρ' B' (upd H' d (.dK kv)) := by
  have at_ : ∀ c x, c ≠ d → H c = some x → upd H d u' c = some x := fun c x hc q => by rw [upd_ne hc]; exact q
  refine ⟨e.b, ?_, fun c x q ht hn => ?_, fun c x q => ?_, fun c x q hr' n => ?_, fun c o x q => ?_⟩
  · obtain ⟨m, h1, h2⟩ := e.p
    refine ⟨m, h1, fun c hc => ?_⟩
    have z := h2 c hc
    have hcd : c ≠ d := fun q => by rw [q, upd_same] at z; cases z
    rw [upd_ne hcd] at z
    exact z
  · have hc : c ≠ d := fun e => hn (by rw [e]; exact hr)
    rw [upd_ne hc]
    exact e.frame c x (at_ c x hc q) ht hn
  · by_cases hc : c = d
    · rw [hc]; exact ⟨_, upd_same⟩
    · obtain ⟨o', z⟩ := e.there c x (at_ c x hc q)
      exact ⟨o', by rw [upd_ne hc]; exact z⟩
  · have hc : c ≠ d := fun e => hr' (by rw [e]; exact hr)
    exact e.new c x (at_ c x hc q) hr' n
  · have hc : c ≠ d := fun e => by rw [e, hH] at q; cases q
    rw [upd_ne hc]
    exact e.frz c o x (at_ c _ hc q)
/-- what holds with the walk unlocked behind it, seen from where the cell is locked -/
theorem Hold.lockL {α : Type} {r : R α} {ok : α → Sto → List Addr → Hp → Hp → Prop} {ex : Str → List (Str × W) → Env' → List Addr → Hp → Hp → Prop} (h : Hold K (unlR n r) ρ B H ok ex) (hn : ρ[n]? = some d) (hH : H d = some (.dK kv)) :
    Hold K r ρ B (upd H d (.frz od (.dK kv))) (fun a S ρ' B' H' => H' d = some (.frz od (.dK kv)) ∧ ∃ S2, ok a S2 ρ' B' (upd H' d (.dK kv))) ex := by
  have hr : d ∈ ρ := List.mem_of_getElem? hn
  cases r with
  | bad => exact h.elim
  | exc c fs e S => exact fun ρ' B' H' e s => (show ∀ ρ' B' H', Ext ρ B H ρ' B' H' → SR K ρ' S B' H' → ex c fs _ ρ' B' H' from h) _ _ _ ((Ext.lockL hr hH).trans e) s
  | ok a S =>
    intro ρ' B' H' e s
    have hd : H' d = some (.frz od (.dK kv)) := e.frz _ _ _ upd_same
    refine ⟨hd, ?_⟩
    cases q : S[n]? with
    | none =>
      have h' : Hold K (match S[n]? with
        | some (.lck ks) => R.ok a (S.set n (.dct ks))
        | _ => .bad) ρ B H ok ex := h
      rw [q] at h'
      exact h'.elim
    | some so =>
      have h' : Hold K (match S[n]? with
        | some (.lck ks) => R.ok a (S.set n (.dct ks))
        | _ => .bad) ρ B H ok ex := h
      rw [q] at h'
      cases so with
      | lck ks => exact ⟨_, h' _ _ _ (Ext.unlockL hr hH e) (s.unlockL (pre_get e.pre hn) q hd)⟩
      | _ => exact h'.elim
end
/-! ### walks of a dict that is locked -/
theorem zip_at {κ : Type} {kv : List (κ × V)} {ks : List (κ × W)} (e : kv.map Prod.fst = ks.map Prod.fst) {i : Nat} {k : κ} {v : V} (h : kv[i]? = some (k, v)) : ∃ w, ks[i]? = some (k, w) := by
  have h1 : (kv.map Prod.fst)[i]? = some k := by rw [List.getElem?_map, h]; rfl
  rw [e, List.getElem?_map] at h1
  cases q : ks[i]? with
  | none => rw [q] at h1; cases h1
  | some p =>
    rw [q] at h1
    obtain ⟨k', w⟩ := p
    cases h1
    exact ⟨w, rfl⟩
theorem wk_keys {K : PySem.W.Frag} {B H0 : Hp} {ρ : List Addr} {d : Addr} {o : Obj} {kv : List (Key × V)} {ks : List (Key × W)} (h : H0 d = some (.frz o (.dK kv))) (e : kv.map Prod.fst = ks.map Prod.fst) : WkF K H0 B ρ (Itk d o kv) (still (ks.map fun p => keyOfW p.1)) := by
  have ln := congrArg List.length e
  simp only [List.length_map] at ln
  refine ⟨⟨fun H => H d = some (.frz o (.dK kv)), fun i H x H' => H' = H ∧ ∃ k v, kv[i]? = some (k, v) ∧ x = kV k, ?_, fun ρ1 S B1 H fz s p sr _ => fz _ _ _ h, fun i x H H' ρ1 S B1 hi s p sr _ y => ?_⟩⟩
  · show Walk _ (ks.map _).length _ _
    rw [List.length_map, ← ln]
    exact walk_keys
  · obtain ⟨rfl, k, v, h1, rfl⟩ := y
    obtain ⟨w, h2⟩ := zip_at e h1
    refine ⟨B1, keyOfW k, ?_, Ext.refl, sr, ?_⟩
    · show (ks.map _)[i]? = _
      rw [List.getElem?_map, h2]
      rfl
    · cases k with
      | inl n => exact .int n
      | inr z => exact .str z
theorem wk_vals {K : PySem.W.Frag} {B H0 : Hp} {ρ : List Addr} {d : Addr} {o : Obj} {kv : List (Key × V)} {ks : List (Key × W)} (h : H0 d = some (.frz o (.dK kv))) (e : kv.map Prod.fst = ks.map Prod.fst) (r : RepL K B ρ (kv.map Prod.snd) (ks.map Prod.snd)) : WkF K H0 B ρ (Itd d o kv) (still (ks.map Prod.snd)) := by
  have ln := congrArg List.length e
  simp only [List.length_map] at ln
  refine ⟨⟨fun H => H d = some (.frz o (.dK kv)), fun i H x H' => H' = H ∧ ∃ k, kv[i]? = some (k, x), ?_, fun ρ1 S B1 H fz s p sr _ => fz _ _ _ h, fun i x H H' ρ1 S B1 hi s p sr _ y => ?_⟩⟩
  · show Walk _ (ks.map _).length _ _
    rw [List.length_map, ← ln]
    exact walk_values
  · obtain ⟨rfl, k, h1⟩ := y
    have h2 : (kv.map Prod.snd)[i]? = some x := by rw [List.getElem?_map, h1]; rfl
    obtain ⟨w, h3, h4⟩ := r.get' h2
    exact ⟨B1, w, h3, Ext.refl, sr, h4.mono s p⟩
theorem wk_items {K : PySem.W.Frag} {B H0 : Hp} {ρ : List Addr} {d : Addr} {o : Obj} {kv : List (Key × V)} {ks : List (Key × W)} (h : H0 d = some (.frz o (.dK kv))) (e : kv.map Prod.fst = ks.map Prod.fst) (r : RepL K B ρ (kv.map Prod.snd) (ks.map Prod.snd)) : WkF K H0 B ρ (Iti d o kv) (still (ks.map fun p => W.tup [keyOfW p.1, p.2])) := by
  have ln := congrArg List.length e
  simp only [List.length_map] at ln
  refine ⟨⟨fun H => H d = some (.frz o (.dK kv)), YPair (fun i => kv[i]?.map fun q => kV q.1) (fun i => kv[i]?.map Prod.snd), ?_, fun ρ1 S B1 H fz s p sr _ => fz _ _ _ h, fun i x H H' ρ1 S B1 hi s p sr _ y => ?_⟩⟩
  · show Walk _ (ks.map _).length _ _
    rw [List.length_map, ← ln]
    exact walk_items
  · obtain ⟨T, a, b, rfl, h2, rfl, h4, h5⟩ := y
    dsimp only at h4 h5
    cases q : kv[i]? with
    | none => rw [q] at h4; cases h4
    | some p0 =>
      obtain ⟨k, v⟩ := p0
      rw [q] at h4 h5
      cases h4
      cases h5
      obtain ⟨w, h6⟩ := zip_at e q
      have h7 : (kv.map Prod.snd)[i]? = some v := by rw [List.getElem?_map, q]; rfl
      obtain ⟨w', h8, h9⟩ := r.get' h7
      have ew : w' = w := by
        rw [List.getElem?_map, h6] at h8
        cases h8
        rfl
      subst ew
      have rk : Rep K B1 ρ1 (kV k) (keyOfW k) := by
        cases k with
        | inl n => exact .int n
        | inr z => exact .str z
      have e2 : Ext ρ1 B1 H ρ1 (upd B1 T (.tup [kV k, v])) (upd H T (.tup [kV k, v])) := Ext.fresh sr.same h2
      refine ⟨upd B1 T (.tup [kV k, v]), W.tup [keyOfW k, w'], ?_, e2, sr.fresh h2, .tup (SqT.of upd_same) (.cons (rk.mono e2.b e2.pre) (.cons ((h9.mono s p).mono e2.b e2.pre) .nil))⟩
      show (ks.map _)[i]? = _
      rw [List.getElem?_map, h6]
      rfl
end Mi

set_option Elab.async false
set_option linter.all false
set_option maxRecDepth 100000
set_option maxHeartbeats 4000000
/-! Ma20: == of lists, tuples, dicts whose items have an own ==, whatever it answers. -/
namespace GQ
open PySem PySem.SeqAt
open AutoSeq1 (wpAny_loadPart')
open MeetsSeq MeetsSeq2 MeetsSeq3 SeqRoads2

section
variable {prog : Program} {w : World} {A : Around} {R : Result → Shared → Prop}

/-- two lists of N items each stand at l and b -/
def TwoL (l b : Addr) (N : Nat) (s : Shared) (P : Array Value → Array Value → Prop) : Prop := ∃ (items items2 : Array Value) (n n2 : Nat), s.heap.get? l = some { cls := .type "list", data := .seq items n } ∧ s.heap.get? b = some { cls := .type "list", data := .seq items2 n2 } ∧ items.size = N ∧ items2.size = N ∧ P items items2
/-- what a turn ends in -/
def TurnQ (T Z : Shared → Prop) : Bool → Shared → Prop
  | true, s => T s
  | false, s => Z s
def ListB (prog : Program) (w : World) (A : Around) (E : Value → Shared → Prop) (l b : Addr) (N : Nat) (Z : Shared → Prop) (I : Nat → Shared → Prop) : Prop :=
  ∀ i s, I i s → TwoL l b N s fun items items2 => ∀ (h1 : i < items.size) (h2 : i < items2.size), wpAny (model prog w) A.in1 (eqBool items[i] items2[i]) (TurnQ (I (i + 1)) Z) E s
theorem eq_loopB (l b : Addr) (N : Nat) (I : Nat → Shared → Prop) (Z : Shared → Prop) (hl : ListB prog w A (fun e s' => R (.error e) s') l b N Z I)
    (fin : ∀ s, I N s → R (.ok (.ret (.bool true))) s) (hZ : ∀ s, Z s → TwoL l b N s (fun _ _ => True) ∧ R (.ok (.ret (.bool false))) s) (k : Nat) :
    ∀ i : Nat, N - i = k → i ≤ N → ∀ s, I i s →
      wpAny (model prog w) A.in1 (Builtin.«list.__eq__.loop» ⟨[.ref l, .ref b, rawInt i, rawInt 2], []⟩) (FinOf prog w A R) (fun e s' => R (.error e) s') s := by
  induction k with
  | zero =>
    intro i hk hi s h
    obtain ⟨items, items2, n, n2, hl1, hb1, hs1, hs2, _⟩ := hl _ _ h
    have hi' : i = N := by omega
    have hR : R (.ok (.ret (.bool true))) s := fin s (hi' ▸ h)
    obtain ⟨hp, g, d, tk, os⟩ := s
    wp_walk using wpAny_loadPart' hl1, wpAny_loadPart' hb1
    have hi1 : items[((i : Nat) : Int).toNat]? = none := by simp; omega
    have hi2 : items2[((i : Nat) : Int).toNat]? = none := by simp; omega
    rw [hi1, hi2]
    wp_walk using wpAny_loadPart' hl1, wpAny_loadPart' hb1
    show R (.ok (.ret (.bool (items.size == items2.size)))) _
    rw [hs1, hs2]
    simpa using hR
  | succ k ih =>
    intro i hk hi s h
    obtain ⟨items, items2, n, n2, hl1, hb1, hs1, hs2, turn⟩ := hl _ _ h
    have hlt : i < items.size := by omega
    have hlt2 : i < items2.size := by omega
    have ht := turn hlt hlt2
    obtain ⟨hp, g, d, tk, os⟩ := s
    wp_walk using wpAny_loadPart' hl1, wpAny_loadPart' hb1
    have hi1 : items[((i : Nat) : Int).toNat]? = some items[i] := by simp [hlt]
    have hi2 : items2[((i : Nat) : Int).toNat]? = some items2[i] := by simp [hlt2]
    have hc : ((i : Int) + 1) = ((i + 1 : Nat) : Int) := by omega
    rw [hi1, hi2]
    refine wpAny_bind (wpAny_mono ht (fun r s2 h2 => ?_) fun _ _ x => x)
    cases r with
    | true =>
      have hrec := ih (i + 1) (by omega) (by omega) s2 h2
      obtain ⟨hp2, g2, d2, tk2, os2⟩ := s2
      wp_walk
      rw [hc]
      exact ⟨plainId_quiet plain_eq_loop _, codeAny_builtin entry_eq_loop (by
        rw [Around.under_plainId plain_eq_loop _]
        exact hrec)⟩
    | false =>
      obtain ⟨⟨it, it2, m, m2, hl2, hb2, hz1, hz2, _⟩, hR⟩ := hZ s2 h2
      have kt : i < it.size := by omega
      have kt2 : i < it2.size := by omega
      have hj1 : it[((i : Nat) : Int).toNat]? = some it[i] := by simp [kt]
      have hj2 : it2[((i : Nat) : Int).toNat]? = some it2[i] := by simp [kt2]
      obtain ⟨hp2, g2, d2, tk2, os2⟩ := s2
      wp_walk using wpAny_loadPart' hl2, wpAny_loadPart' hb2
      rw [hj1, hj2]
      wp_walk
      exact hR

theorem list_eqB (l b : Addr) (N : Nat) (I : Nat → Shared → Prop) (Z : Shared → Prop) (hl : ListB prog w A (fun e s' => R (.error e) s') l b N Z I)
    (fin : ∀ s, I N s → R (.ok (.ret (.bool true))) s) (hZ : ∀ s, Z s → TwoL l b N s (fun _ _ => True) ∧ R (.ok (.ret (.bool false))) s) {s : Shared} (h : I 0 s) :
    wpAny (model prog w) A.in1 (Builtin.«list.__eq__» ⟨[.ref l, .ref b], []⟩) (FinOf prog w A R) (fun e s' => R (.error e) s') s := by
  obtain ⟨items, items2, n, n2, hl1, hb1, hs1, hs2, _⟩ := hl _ _ h
  have hrec := eq_loopB (A := A) (R := R) l b N I Z hl fin hZ _ 0 rfl (Nat.zero_le _) s h
  obtain ⟨hp, g, d, tk, os⟩ := s
  have f3 := AutoSeq1.sub_list_list
  have hne : ¬ (items.size != items2.size) = true := by simp [hs1, hs2]
  wp_walk using wpAny_loadPart' hl1, wpAny_loadPart' hb1
  exact ⟨plainId_quiet plain_eq_loop _, codeAny_builtin entry_eq_loop (by
    rw [Around.under_plainId plain_eq_loop _]
    exact hrec)⟩

theorem tuple_eqB (l b : Addr) (items items2 : Array Value) (n n2 : Nat) (dd dd2 : Option Addr) (sl sl2 : Array (Option Value)) (I : Nat → Shared → Prop) (Z : Shared → Prop)
    (turn : ∀ i (h1 : i < items.size) (h2 : i < items2.size) s, I i s → wpAny (model prog w) A.in1 (eqBool items[i] items2[i]) (TurnQ (I (i + 1)) Z) (fun e s' => R (.error e) s') s)
    (fin : ∀ s, I (min items.size items2.size) s → R (.ok (.ret (.bool (items.size == items2.size)))) s) (hZ : ∀ s, Z s → R (.ok (.ret (.bool false))) s) {s : Shared} (hl1 : s.heap.get? l = some { cls := .type "tuple", dict := dd, data := .seq items n, slots := sl }) (hb1 : s.heap.get? b = some { cls := .type "tuple", dict := dd2, data := .seq items2 n2, slots := sl2 }) (h : I 0 s) :
    wpAny (model prog w) A.in1 (Builtin.«tuple.__eq__» ⟨[.ref l, .ref b], []⟩) (FinOf prog w A R) (fun e s' => R (.error e) s') s := by
  have f2 := AutoSeq1.sub_tuple_tuple
  have hM : (items.toList.zip items2.toList).length = min items.size items2.size := by simp
  have h0 := h
  obtain ⟨hp, g, d, tk, os⟩ := s
  wp_walk using wpAny_loadPart' hl1, wpAny_loadPart' hb1, wpAny_forIn_list _ (fun rest b s' => b.1 = none ∧ ∃ i, rest = (items.toList.zip items2.toList).drop i ∧ i ≤ min items.size items2.size ∧ I i s') _
  case turn =>
    rintro ⟨y, x⟩ rest b s' ⟨hb', i, hz, hi, hI⟩
    have hlt : i < (items.toList.zip items2.toList).length := by
      rcases Nat.lt_or_ge i (items.toList.zip items2.toList).length with h' | h'
      · exact h'
      · rw [List.drop_of_length_le h'] at hz; cases hz
    have hm : i < min items.size items2.size := hM ▸ hlt
    have h1 : i < items.size := Nat.lt_of_lt_of_le hm (Nat.min_le_left _ _)
    have h2 : i < items2.size := Nat.lt_of_lt_of_le hm (Nat.min_le_right _ _)
    rw [List.drop_eq_getElem_cons hlt] at hz
    injection hz with hyx hrest
    have hy : y = items[i] := by have := congrArg Prod.fst hyx; simpa using this
    have hx : x = items2[i] := by have := congrArg Prod.snd hyx; simpa using this
    subst hy hx
    refine wpAny_bind (wpAny_mono (turn i h1 h2 s' hI) (fun r s2 q2 => ?_) fun _ _ x => x)
    cases r with
    | true =>
      wp_walk
      exact ⟨rfl, i + 1, hrest, hm, q2⟩
    | false =>
      have hR := hZ s2 q2
      wp_walk
      exact hR
  case fin =>
    rintro ⟨b1, b2⟩ s' ⟨hb', i, hz, hi, hI⟩
    simp only at hb'
    subst hb'
    have hge : min items.size items2.size ≤ i := by
      rcases Nat.lt_or_ge i (items.toList.zip items2.toList).length with h' | h'
      · rw [List.drop_eq_getElem_cons h'] at hz; cases hz
      · exact hM ▸ h'
    have hi' : i = min items.size items2.size := by omega
    have hR := fin s' (hi' ▸ hI)
    wp_walk
    simpa [Builtin.Tuple.tupleCompareSizes] using hR
  case h =>
    exact ⟨rfl, 0, rfl, Nat.zero_le _, h0⟩
theorem tuple_neB (l b : Addr) (items items2 : Array Value) (n n2 : Nat) (dd dd2 : Option Addr) (sl sl2 : Array (Option Value)) (I : Nat → Shared → Prop) (Z : Shared → Prop)
    (turn : ∀ i (h1 : i < items.size) (h2 : i < items2.size) s, I i s → wpAny (model prog w) A.in1 (eqBool items[i] items2[i]) (TurnQ (I (i + 1)) Z) (fun e s' => R (.error e) s') s)
    (fin : ∀ s, I (min items.size items2.size) s → R (.ok (.ret (.bool (items.size != items2.size)))) s) (hZ : ∀ s, Z s → R (.ok (.ret (.bool true))) s) {s : Shared} (hl1 : s.heap.get? l = some { cls := .type "tuple", dict := dd, data := .seq items n, slots := sl }) (hb1 : s.heap.get? b = some { cls := .type "tuple", dict := dd2, data := .seq items2 n2, slots := sl2 }) (h : I 0 s) :
    wpAny (model prog w) A.in1 (Builtin.«tuple.__ne__» ⟨[.ref l, .ref b], []⟩) (FinOf prog w A R) (fun e s' => R (.error e) s') s := by
  have f2 := AutoSeq1.sub_tuple_tuple
  have hM : (items.toList.zip items2.toList).length = min items.size items2.size := by simp
  have h0 := h
  obtain ⟨hp, g, d, tk, os⟩ := s
  wp_walk using wpAny_loadPart' hl1, wpAny_loadPart' hb1, wpAny_forIn_list _ (fun rest b s' => b.1 = none ∧ ∃ i, rest = (items.toList.zip items2.toList).drop i ∧ i ≤ min items.size items2.size ∧ I i s') _
  case turn =>
    rintro ⟨y, x⟩ rest b s' ⟨hb', i, hz, hi, hI⟩
    have hlt : i < (items.toList.zip items2.toList).length := by
      rcases Nat.lt_or_ge i (items.toList.zip items2.toList).length with h' | h'
      · exact h'
      · rw [List.drop_of_length_le h'] at hz; cases hz
    have hm : i < min items.size items2.size := hM ▸ hlt
    have h1 : i < items.size := Nat.lt_of_lt_of_le hm (Nat.min_le_left _ _)
    have h2 : i < items2.size := Nat.lt_of_lt_of_le hm (Nat.min_le_right _ _)
    rw [List.drop_eq_getElem_cons hlt] at hz
    injection hz with hyx hrest
    have hy : y = items[i] := by have := congrArg Prod.fst hyx; simpa using this
    have hx : x = items2[i] := by have := congrArg Prod.snd hyx; simpa using this
    subst hy hx
    refine wpAny_bind (wpAny_mono (turn i h1 h2 s' hI) (fun r s2 q2 => ?_) fun _ _ x => x)
    cases r with
    | true =>
      wp_walk
      exact ⟨rfl, i + 1, hrest, hm, q2⟩
    | false =>
      have hR := hZ s2 q2
      wp_walk
      exact hR
  case fin =>
    rintro ⟨b1, b2⟩ s' ⟨hb', i, hz, hi, hI⟩
    simp only at hb'
    subst hb'
    have hge : min items.size items2.size ≤ i := by
      rcases Nat.lt_or_ge i (items.toList.zip items2.toList).length with h' | h'
      · rw [List.drop_eq_getElem_cons h'] at hz; cases hz
      · exact hM ▸ h'
    have hi' : i = min items.size items2.size := by omega
    have hR := fin s' (hi' ▸ hI)
    wp_walk
    simpa [Builtin.Tuple.tupleCompareSizes] using hR
  case h =>
    exact ⟨rfl, 0, rfl, Nat.zero_le _, h0⟩
end

section
variable {prog : Program} {w : World} {A : Around} {E : Value → Shared → Prop} {s : Shared}
theorem rc_listB {l b : Addr} {N : Nat} {Q : Value → Shared → Prop} (hu : A.units < cLine) (I : Nat → Shared → Prop) (Z : Shared → Prop) (hl : ListB prog w A E l b N Z I)
    (fin : ∀ s, I N s → Q (.bool true) s) (hZ : ∀ s, Z s → TwoL l b N s (fun _ _ => True) ∧ Q (.bool false) s) (h : I 0 s) : wpAny (model prog w) A (richCompare .Eq (.ref l) (.ref b)) Q E s := by
  obtain ⟨items, items2, n, n2, hl1, hb1, _, _, _⟩ := hl _ _ h
  refine wpAny_richCompare_same_room (op := .Eq) ⟨_, hl1, rfl⟩ ⟨_, hb1, rfl⟩ F.slot_list_eq (call_here F.slot_list_eq ⟨_, hl1, rfl⟩ F.entry_list_eq (F.args_list_eq_2 _ _) ?_) hu
  exact list_eqB (R := wants (fun v s' => v ≠ .notImplemented ∧ Q v s') E) l b N I Z hl (fun s' q => ⟨(fun x => nomatch x), fin s' q⟩) (fun s' q => ⟨(hZ s' q).1, (fun x => nomatch x), (hZ s' q).2⟩) h

theorem rc_tupB {l b : Addr} {items items2 : Array Value} {Q : Value → Shared → Prop} (hu : A.units < cLine) (I : Nat → Shared → Prop) (Z : Shared → Prop)
    (hl : s.heap.IsTuple l items) (hb : s.heap.IsTuple b items2)
    (turn : ∀ i (h1 : i < items.size) (h2 : i < items2.size) s, I i s → wpAny (model prog w) A.in1 (eqBool items[i] items2[i]) (TurnQ (I (i + 1)) Z) E s)
    (fin : ∀ s, I (min items.size items2.size) s → Q (.bool (items.size == items2.size)) s) (hZ : ∀ s, Z s → Q (.bool false) s) (h : I 0 s) : wpAny (model prog w) A (richCompare .Eq (.ref l) (.ref b)) Q E s := by
  obtain ⟨⟨cls, dd, data, sl⟩, ho, hc, n, hd⟩ := id hl
  obtain ⟨⟨cls2, dd2, data2, sl2⟩, ho2, hc2, n2, hd2⟩ := id hb
  simp only at hc hd hc2 hd2
  subst hc hd hc2 hd2
  refine wpAny_richCompare_same_room (op := .Eq) ⟨_, ho, rfl⟩ ⟨_, ho2, rfl⟩ F.slot_tuple_eq (call_here F.slot_tuple_eq ⟨_, ho, rfl⟩ F.entry_tuple_eq (F.args_tuple_eq_2 _ _) ?_) hu
  exact tuple_eqB (R := wants (fun v s' => v ≠ .notImplemented ∧ Q v s') E) l b items items2 n n2 dd dd2 sl sl2 I Z turn (fun s' q => ⟨(fun x => nomatch x), fin s' q⟩) (fun s' q => ⟨(fun x => nomatch x), hZ s' q⟩) ho ho2 h
theorem rc_tupNe {l b : Addr} {items items2 : Array Value} {Q : Value → Shared → Prop} (hu : A.units < cLine) (I : Nat → Shared → Prop) (Z : Shared → Prop)
    (hl : s.heap.IsTuple l items) (hb : s.heap.IsTuple b items2)
    (turn : ∀ i (h1 : i < items.size) (h2 : i < items2.size) s, I i s → wpAny (model prog w) A.in1 (eqBool items[i] items2[i]) (TurnQ (I (i + 1)) Z) E s)
    (fin : ∀ s, I (min items.size items2.size) s → Q (.bool (items.size != items2.size)) s) (hZ : ∀ s, Z s → Q (.bool true) s) (h : I 0 s) : wpAny (model prog w) A (richCompare .NotEq (.ref l) (.ref b)) Q E s := by
  obtain ⟨⟨cls, dd, data, sl⟩, ho, hc, n, hd⟩ := id hl
  obtain ⟨⟨cls2, dd2, data2, sl2⟩, ho2, hc2, n2, hd2⟩ := id hb
  simp only at hc hd hc2 hd2
  subst hc hd hc2 hd2
  refine wpAny_richCompare_same_room (op := .NotEq) ⟨_, ho, rfl⟩ ⟨_, ho2, rfl⟩ F.slot_tuple_ne (call_here F.slot_tuple_ne ⟨_, ho, rfl⟩ F.entry_tuple_ne (F.args_tuple_ne_2 _ _) ?_) hu
  exact tuple_neB (R := wants (fun v s' => v ≠ .notImplemented ∧ Q v s') E) l b items items2 n n2 dd dd2 sl sl2 I Z turn (fun s' q => ⟨(fun x => nomatch x), fin s' q⟩) (fun s' q => ⟨(fun x => nomatch x), hZ s' q⟩) ho ho2 h
end
end GQ

namespace PySem.W
open Lean Elab Tactic Meta PySem PySem.Calls PyProof.Rows PyProof.V PySem.Spec
section
variable {prog : Program} {w : World} {K : Type} [DecidableEq K] {knd : KeyKind prog w K} {A : Around} {E : Value → Shared → Prop} {s : Shared}
/-- at turn i the dict at a is as it was, and the i-th of its items meets the dict at b -/
def DictB (knd : KeyKind prog w K) (A : Around) (E : Value → Shared → Prop) (a b : Addr) (oa : Obj) (ka : List (K × Value)) (Z : Shared → Prop) (I : Nat → Shared → Prop) : Prop :=
  ∀ i s, I i s → s.heap.get? a = some oa ∧ ∀ k v, ka[i]? = some (k, v) → ∃ kb, s.heap.DictOf knd b kb ∧
    ((valueAt kb k = none ∧ Z s) ∨ ∃ y, valueAt kb k = some y ∧ wpAny (model prog w) A (eqBool v y) (GQ.TurnQ (I (i + 1)) Z) E s)
theorem samePairsB {nm : String} {a b : Addr} {oa : Obj} {ka kb : List (K × Value)} {Q : Bool → Shared → Prop} (ha : (a == sysModules) = false) (hb : (b == sysModules) = false)
    (I : Nat → Shared → Prop) (Z : Shared → Prop) (da : s.heap.DictOf knd a ka) (db : s.heap.DictOf knd b kb) (tn : DictB knd A E a b oa ka Z I) (fin : ∀ s, I ka.length s → Q true s) (hZ : ∀ s, Z s → Q false s)
    (ln : ka.length = kb.length) (h : I 0 s) :
    wpAny (model prog w) A (Builtin.Dict.samePairs nm a b) Q E s := by
  obtain ⟨oa', es, ep, hoa, _, hda, hka, hpa, _⟩ := da
  have e0 := (tn _ _ h).1
  rw [hoa] at e0
  cases e0
  have hla : ka.length = es.size := by rw [← hpa.length]; exact Array.length_toList
  obtain ⟨ob, es', ep', hob, _, hdb, hkb, hpb, _⟩ := db
  have hlb : kb.length = es'.size := by rw [← hpb.length]; exact Array.length_toList
  have hsz : es.size = es'.size := by rw [← hla, ← hlb]; exact ln
  unfold Builtin.Dict.samePairs Builtin.Dict.showsAll
  rw [if_neg (show ¬ (a == sysModules) = true by rw [ha]; exact Bool.false_ne_true), if_neg (show ¬ (b == sysModules) = true by rw [hb]; exact Bool.false_ne_true)]
  refine wpAny_bind (wpAny_pure (wpAny_bind (wpAny_pure ?_)))
  refine wpAny_bind (wpAny_dictEntries hoa hda ?_)
  dsimp only
  refine wpAny_bind (wpAny_dictEntries hob hdb ?_)
  rw [if_neg (by rw [hsz]; simp)]
  refine wpAny_bind (wpAny_dictEpoch hoa hda ?_)
  refine wpAny_bind ?_
  rw [Std.Legacy.Range.forIn_eq_forIn_range']
  simp only [Std.Legacy.Range.size, Nat.sub_zero, Nat.add_sub_cancel, Nat.div_one]
  refine wpAny_forIn_list _
    (fun rest q s' => q = (none, ()) ∧ ∃ i, rest = List.range' i (es.size - i) ∧ i ≤ es.size ∧ I i s')
    _ ?_ ?_ _ _ ⟨rfl, 0, by simp, Nat.zero_le _, h⟩
  · rintro x rest q s' ⟨rfl, i, hr, hi, hI⟩
    have hlt : i < es.size := by
      rcases Nat.lt_or_ge i es.size with h | h
      · exact h
      · rw [Nat.sub_eq_zero_of_le h] at hr; simp at hr
    obtain ⟨rfl, hrest⟩ : x = i ∧ rest = List.range' (i + 1) (es.size - (i + 1)) := by
      have e : es.size - i = (es.size - (i + 1)) + 1 := by omega
      rw [e, List.range'_succ] at hr
      injection hr with h1 h2
      exact ⟨h1, h2⟩
    obtain ⟨hoa1, turn⟩ := tn _ _ hI
    refine wpAny_bind (wpAny_dictEntries hoa1 hda ?_)
    rw [Array.getElem?_eq_getElem hlt]
    have hlt' : x < ka.length := by rw [hla]; exact hlt
    obtain ⟨k, v, hkv⟩ : ∃ k v, ka[x] = (k, v) := ⟨_, _, rfl⟩
    have hg : ka[x]? = some (k, v) := by rw [List.getElem?_eq_getElem hlt', hkv]
    obtain ⟨hkey, hval⟩ := hpa.get? (i := x) (e := es[x]) (k := k) (v := v) (by rw [Array.getElem?_toList]; exact Array.getElem?_eq_getElem hlt) hg
    obtain ⟨k', hk', hh⟩ := hka es[x] (Array.getElem_mem hlt)
    have ekk : k' = k := knd.inj _ _ _ hk' hkey
    rw [ekk] at hh
    obtain ⟨kb1, ⟨ob1, es1, ep1, hob1, _, hdb1, hkb1, hpb1, _⟩, hit⟩ := turn k v hg
    have hfind : ∀ k, findBy knd.is es1 k = valueAt kb1 k := fun k => by
      rw [← hpb1.find k]
      clear hit turn hpb1 hkb1 hdb1 hob1
      obtain ⟨l⟩ := es1
      simp [findBy]
    show wpAny _ _ (holding [es[x].key, es[x].val] _ >>= _) _ _ _
    rw [hh]
    refine wpAny_bind (wpAny_holding (wpAny_bind (wpAny_dictFind_of hkey hob1 hdb1 hkb1 ?_)))
    cases hj : es1.findIdx? fun e => knd.is k e.key with
    | none =>
      have hn : valueAt kb1 k = none := by rw [← hfind k, findBy_of_findIdx?, hj]
      rcases hit with ⟨_, z⟩ | ⟨y, hy, _⟩
      · refine wpAny_pure ?_
        show wpAny _ _ (if (!false) = true then _ else _) _ _ _
        rw [if_pos (by decide)]
        exact wpAny_pure (wpAny_pure (hZ _ z))
      · rw [hn] at hy; exact nomatch hy
    | some j =>
      obtain ⟨hjlt, _, _⟩ := Array.findIdx?_eq_some_iff_getElem.mp hj
      have hv' : valueAt kb1 k = some es1[j].val := by
        rw [← hfind k, findBy_of_findIdx?, hj]
        simp [Array.getElem?_eq_getElem hjlt]
      refine wpAny_bind (wpAny_dictEntries hob1 hdb1 ?_)
      rw [Array.getElem?_eq_getElem hjlt]
      rcases hit with ⟨hn, _⟩ | ⟨y, hy, he⟩
      · rw [hv'] at hn; exact nomatch hn
      · have ey : es1[j].val = y := Option.some.inj (hv'.symm.trans hy)
        rw [← ey, ← hval] at he
        refine wpAny_holding (wpAny_mono he (fun r s2 q2 => ?_) fun _ _ x => x)
        cases r with
        | false =>
          show wpAny _ _ (if (!false) = true then _ else _) _ _ _
          rw [if_pos (by decide)]
          exact wpAny_pure (wpAny_pure (hZ _ q2))
        | true =>
          show wpAny _ _ (if (!true) = true then _ else _) _ _ _
          rw [if_neg (by decide)]
          refine wpAny_bind (wpAny_dictEpoch (tn _ _ q2).1 hda ?_)
          rw [if_neg (by simp)]
          exact wpAny_pure ⟨rfl, x + 1, hrest, hlt, q2⟩
  · rintro q s' ⟨rfl, i, hr, hi, hI⟩
    have hin : i = es.size := by
      rcases Nat.lt_or_ge i es.size with h | h
      · have e : es.size - i = (es.size - (i + 1)) + 1 := by omega
        rw [e, List.range'_succ] at hr; exact nomatch hr
      · exact Nat.le_antisymm hi h
    refine wpAny_pure ?_
    rw [hin, ← hla] at hI
    exact fin _ hI
theorem rc_dictB {a b : Addr} {oa : Obj} {ka kb : List (K × Value)} (ha : (a == sysModules) = false) (hb : (b == sysModules) = false)
    (I : Nat → Shared → Prop) (Z : Shared → Prop) (da : s.heap.DictOf knd a ka) (db : s.heap.DictOf knd b kb) (hu : A.units < cLine) {Q : Value → Shared → Prop} (tn : DictB knd A.in1 E a b oa ka Z I) (fin : ∀ s, I ka.length s → Q (.bool true) s) (hZ : ∀ s, Z s → Q (.bool false) s)
    (ln : ka.length = kb.length) (h : I 0 s) : wpAny (model prog w) A (richCompare .Eq (.ref a) (.ref b)) Q E s := by
  refine wpAny_richCompare_same_room (op := .Eq) da.typeIs db.typeIs PySem.F.slot_dict_eq (wpAny_call_entry PySem.F.slot_dict_eq da.typeIs PySem.F.entry_dict_eq ?_ (PySem.F.args_dict_eq_2 _ _)) hu
  show wpAny _ _ (Builtin.Dict.dictSlotArgs "__eq__" ⟨[.ref a, .ref b], []⟩ >>= _) _ _ s
  refine wpAny_bind ?_
  unfold Builtin.Dict.dictSlotArgs
  refine wpAny_bind (wpAny_notOrdered_dict da.typeIs ?_)
  show wpAny _ _ (pure (Value.ref a, Value.ref b)) _ _ s
  refine wpAny_pure ?_
  refine wpAny_bind (wpAny_isInstance (T := "dict") db.typeIs PySem.F.sub_dict_dict ?_)
  simp only [Bool.not_true, Bool.false_eq_true, if_false]
  refine wpAny_bind (wpAny_pure (wpAny_bind (wpAny_pure ?_)))
  refine wpAny_bind (samePairsB ha hb I Z da db tn (fun s q => ?_) (fun s q => ?_) ln h)
  · refine wpAny_pure ⟨_, rfl, ?_, ?_⟩
    · exact fun x => nomatch x
    · simpa using fin s q
  · refine wpAny_pure ⟨_, rfl, ?_, ?_⟩
    · exact fun x => nomatch x
    · simpa using hZ s q
end
end PySem.W

namespace PySem.W
open Lean Elab Tactic Meta PySem PySem.Calls PyProof.Rows PyProof.V PySem.Spec
section
variable {prog : Program} {w : World} {A : Around} {E : Value → Shared → Prop} {s : Shared} {K : Frag} {x C L f : Addr} {h₀ : Heap} {m : Str → Option Value} {ox : Obj} {od : Option Obj} {b tb : Value}
/-- a special method that is a builtin slot -/
theorem ifBoundB_K {M : Model} {name : Str} {id : String} {args : List Value} {Q : Option Value → Shared → Prop} (X : K.In s.heap) (I : InstAt s.heap x ox C od) (hs : findIn K (.ref C) name = some (some (.builtin id)))
    (hb : ∀ self, bindSpecial (.builtin id) self = pure (.builtin id, [self])) (h : wpAny M A (call (.builtin id) (.ref x :: args)) (fun v => Q (some v)) E s) : wpAny M A (callSpecialIfBound? (.ref x) name args) Q E s := by
  simp only [callSpecialIfBound?, bindSpecialIfBound?]
  refine wpAny_holding (wpAny_bind (wpAny_bind (wpAny_bind (I.type.here ((looks_findIn X hs).here ?_)))))
  refine wpAny_bind (wpAny_askSetting (wpAny_ite ?_))
  have fin : wpAny M A (call (.builtin id) ([.ref x] ++ args) >>= fun v => pure (some v)) Q E s := wpAny_bind (wpAny_mono h (fun v s' h' => wpAny_pure h') fun _ _ h' => h')
  split
  · exact wpAny_bind ((Looks.of_pure (hb _)).here (wpAny_pure (by exact fin)))
  · exact wpAny_tryCatch (wpAny_bind ((Looks.of_pure (hb _)).here (wpAny_pure (by exact fin))))
open Builtin in
/-- object.__ne__ of an instance with an own == -/
theorem oneCall {Q : Value → Shared → Prop} (hu : A.in1.units < cLine) (X : K.In s.heap) (I : InstAt s.heap x ox C od) (hm : mroIn K C (.type "object") = some true) (hs : findIn K (.ref C) "__eq__" = some (some (.ref f))) (hf : isFn K (.ref f) = true)
    (h : wpAny (model prog w) A.in1 (call (.ref f) [.ref x, b]) (fun v s' => ∃ r, v = .bool r ∧ Q (.bool (!r)) s') E s) : wpAny (model prog w) A (call (.builtin "object.__ne__") [.ref x, b]) Q E s := by
  refine wpAny_call (codeAny_call_builtin PySem.F.slot_object_ne.plain PySem.F.entry_object_ne (check_slot (i := "object.__ne__") (owner := "object") (n := "__ne__") (by decide +kernel) (by decide +kernel) (I.type.andThen (looks_mroIn X hm)) (PySem.F.args_object_ne_2 _ _) ?_))
  unfold Builtin.«object.__ne__»
  refine wpAny_bind (m := slotArgs "__ne__" 1 _) (wpAny_pure ?_)
  refine wpAny_bind (m := cRoomFor _ _) (wpAny_cRoomFor hu ?_)
  refine wpAny_bind (m := callSpecialIfBound? (.ref x) (Str.ofString "__eq__") [b]) (ifBound_K X I hs hf (wpAny_mono h (fun r s' hq => ?_) fun _ _ y => y))
  obtain ⟨r, rfl, q⟩ := hq
  exact wpAny_bind (wpAny_truthy_bool (wpAny_pure q))
/-- != by an own == -/
theorem ne_K {Q : Value → Shared → Prop} (hu : A.in1.units < cLine) (hu0 : A.units < cLine) (F : Fr h₀ L s.heap m) (X₀ : K.In h₀) (I : InstAt s.heap x ox C od) (hb : Looks (model prog w) s.heap (typeOf b) tb) (hn : notFirst K C tb = true)
    (hs : findIn K (.ref C) "__eq__" = some (some (.ref f))) (hf : isFn K (.ref f) = true) (hne : findIn K (.ref C) "__ne__" = some (some (.builtin "object.__ne__"))) (hm : mroIn K C (.type "object") = some true)
    (h : wpAny (model prog w) A.in1 (call (.ref f) [.ref x, b]) (fun v s' => ∃ r, v = .bool r ∧ Q (.bool (!r)) s') E s) : wpAny (model prog w) A (richCompare .NotEq (.ref x) b) Q E s := by
  have X := X₀.keeps F.keep
  have one : wpAny (model prog w) A (tryCompare (.ref x) (cmpInfo .NotEq).2.1 b) (fun r s' => ∃ v, r = some v ∧ Q v s') E s := by
    unfold tryCompare
    refine wpAny_bind (ifBoundB_K X I hne PySem.F.slot_object_ne.bind (oneCall hu X I hm hs hf (wpAny_mono h (fun v s' hv => ?_) fun _ _ e => e)))
    obtain ⟨r, rfl, q⟩ := hv
    exact ⟨r, rfl, wpAny_pure ⟨_, rfl, q⟩⟩
  unfold richCompare
  simp only [oneThing_ref]
  refine wpAny_holding (wpAny_bind (wpAny_cRoomFor hu0 ?_))
  refine wpAny_bind (I.type.here (wpAny_bind (hb.here ?_)))
  split
  · rename_i q
    have e : subIn K tb (.ref C) = some false := by
      rcases Bool.or_eq_true_iff.mp hn with e | e
      · rw [beq_iff_eq.mp e] at q; simp at q
      · exact beq_iff_eq.mp e
    refine wpAny_bind ((looks_subIn X e).here ?_)
    simp only [Bool.false_eq_true, if_false]
    refine wpAny_bind (wpAny_mono one (fun r s' z => ?_) fun _ _ e => e)
    obtain ⟨v, rfl, hq⟩ := z
    exact wpAny_pure hq
  · refine wpAny_bind (wpAny_pure ?_)
    simp only [Bool.false_eq_true, if_false]
    refine wpAny_bind (wpAny_mono one (fun r s' z => ?_) fun _ _ e => e)
    obtain ⟨v, rfl, hq⟩ := z
    exact wpAny_pure hq
end
end PySem.W

set_option Elab.async false
set_option linter.all false
set_option maxRecDepth 100000
set_option maxHeartbeats 4000000
/-! Ma6c: == of values down to own ==. -/
noncomputable section
namespace Mi
open PySem PySem.Spec PyProof.Rows L2
variable [Gam]

/-! ### two that are surely not one -/
section
variable {X : Cx} {pins : List (Addr × Obj)} {σ : L2.St} {H B : Hp} {s : Shared} {ρ : List Addr}
theorem frl_not {v : V} {ws : List W} (h : Rep X.K B ρ v (.frl ws)) : ∃ a, v = .ref a := by
  cases h
  exact ⟨_, rfl⟩
theorem difL_ok {K : PySem.W.Frag} {f : W → W → Bool} (h : ∀ {v : V} {x y : W}, Rep K B ρ v x → Rep K B ρ v y → f x y = false) : ∀ {vs : List V} {xs ys : List W}, RepL K B ρ vs xs → RepL K B ρ vs ys → difL f xs ys = false
  | _, _, _, .nil, .nil => rfl
  | _, _, _, .cons r rs, .cons r' rs' => by
    rw [difL, h r r', difL_ok h rs rs']
    rfl
theorem difW_ok (I : Inv X pins σ H s) (sm : Same B H) : ∀ {n : Nat} {v : V} {x y : W}, Rep X.K B ρ v x → Rep X.K B ρ v y → difW n x y = false := by
  intro n
  induction n with
  | zero => exact fun _ _ => rfl
  | succ n ih =>
    intro v x y r r'
    cases r with
    | non => cases r'; rfl
    | bl b => cases r'; show (b != b) = false; cases b <;> rfl
    | int i => cases r'; show (i != i) = false; simp
    | str i => cases r'; show (!eqStr i i) = false; rw [show eqStr i i = true from (eqStr_beq i i).symm.trans (by simp)]; rfl
    | tup h q =>
      cases r' with
      | tup h' q' =>
        have e := I.tuple_inj (Same.tup sm h) (Same.tup sm h')
        subst e
        exact difL_ok ih q q'
      | _ => rfl
    | lst h q =>
      cases r' with
      | lst h' q' =>
        rw [h] at h'
        cases h'
        exact difL_ok ih q q'
      | _ => rfl
    | frl h q f => cases r' <;> rfl
    | ref h => cases r' <;> rfl
    | obj hc h e q =>
      cases r' with
      | obj hc' h' e' q' =>
        rw [h] at h'
        cases h'
        exact difL_ok ih q q'
      | _ => rfl
    | dct h e q =>
      cases r' with
      | dct h' e' q' =>
        have e0 : ∀ {a : Addr} {kv kv' : List (Key × V)}, L2.Rd B a (.dK kv) → L2.Rd B a (.dK kv') → kv' = kv := fun h h' => by
          rcases h with h | ⟨o, h⟩ <;> rcases h' with h' | ⟨o', h'⟩ <;> (rw [h] at h'; cases h') <;> rfl
        have e1 := e0 h h'
        subst e1
        show (!decide _ || difL _ _ _) = false
        rw [decide_eq_true (e.symm.trans e'), difL_ok ih q q']
        rfl
      | _ => rfl
end

/-! ### no cells -/
section
variable {K : PySem.W.Frag} {B : Hp} {ρ : List Addr}
mutual
theorem frz_clear : ∀ {f : Nat} {v : V} {w w' : W}, Rep K B ρ v w → frzW [] 0 f w = some w' → Rep K B [] v w'
  | 0, _, _, _, _, e => by cases e
  | f + 1, _, _, _, .non, e => by cases e; exact .non
  | f + 1, _, _, _, .bl b, e => by cases e; exact .bl b
  | f + 1, _, _, _, .int b, e => by cases e; exact .int b
  | f + 1, _, _, _, .str b, e => by cases e; exact .str b
  | f + 1, _, .tup ws, w', .tup h r, e => by
    unfold frzW at e
    cases q : frzs [] 0 f ws with
    | none => simp only [q] at e; cases e
    | some xs =>
      simp only [q] at e
      cases e
      exact .tup h (frzs_clear r q)
  | f + 1, _, .lst ws, w', .lst h r, e => by
    unfold frzW at e
    cases q : frzs [] 0 f ws with
    | none => simp only [q] at e; cases e
    | some xs =>
      simp only [q] at e
      cases e
      exact .lst h (frzs_clear r q)
  | f + 1, _, .frl ws, w', .frl h r fl, e => by
    unfold frzW at e
    cases e
    exact .frl h (r.flatAny fl) fl
  | f + 1, _, .obj c fs, w', .obj hc h e0 r, e => by
    unfold frzW at e
    cases q : frzs [] 0 f (fs.map Prod.snd) with
    | none => simp only [q] at e; cases e
    | some xs =>
      simp only [q] at e
      cases e
      obtain ⟨z1, z2⟩ := zip_obj e0 (frzs_clear r q)
      exact .obj hc h z1 z2
  | f + 1, _, .dct fs, w', .dct h e0 r, e => by
    unfold frzW at e
    cases q : frzs [] 0 f (fs.map Prod.snd) with
    | none => simp only [q] at e; cases e
    | some xs =>
      simp only [q] at e
      cases e
      obtain ⟨z1, z2⟩ := zip_obj e0 (frzs_clear r q)
      exact .dct h z1 z2
  | f + 1, .ref a, .ref n, w', .ref h, e => by
    unfold frzW at e
    simp at e
theorem frzs_clear : ∀ {f : Nat} {vs : List V} {ws ws' : List W}, RepL K B ρ vs ws → frzs [] 0 f ws = some ws' → RepL K B [] vs ws'
  | 0, _, _, _, _, e => by cases e
  | f + 1, _, _, _, .nil, e => by cases e; exact .nil
  | f + 1, _, w :: ws, _, .cons h r, e => by
    unfold frzs at e
    cases q1 : frzW [] 0 f w with
    | none => simp only [q1] at e; cases e
    | some x =>
      cases q2 : frzs [] 0 f ws with
      | none => simp only [q1, q2] at e; cases e
      | some xs =>
        simp only [q1, q2] at e
        cases e
        exact .cons (frz_clear h q1) (frzs_clear r q2)
end
end

/-! ### == -/
/-- j builtins below the running body X -/
structure Und (X : Cx) (j : Nat) (A : Around) : Prop where
  fr : A.frames = X.A.frames
  un : A.units = X.A.units + j
  rm : ∀ m, Room (m + j) X.A → Room m A
theorem Und.here {X : Cx} : Und X 0 X.A := ⟨rfl, rfl, fun _ r => r⟩
theorem Und.in1 {X : Cx} {j : Nat} {A : Around} (h : Und X j A) : Und X (j + 1) A.in1 :=
  ⟨h.fr, by show A.units + 1 = _; rw [h.un]; omega, fun m r => (h.rm (m + 1) (by rw [show m + 1 + j = m + (j + 1) by omega]; exact r)).in1⟩
section
variable {X : Cx} {q : Str → Str → Bool} {cl : Str → List W → Sto → R W} {Wx : WX} {j n : Nat} {f : W → W → Option Bool}
def RcB (X : Cx) (j : Nat) (f : W → W → Option Bool) : Prop := ∀ (A : Around) (pins : List (Addr × Obj)) (s : Shared) (σ : L2.St) (H B : Hp) (ρ : List Addr) (x y : W) (u v : V) (u' v' : Value) (b : Bool), Und X j A → Inv X pins σ H s → Same B H → Rep X.K B ρ u x → Rep X.K B ρ v y → RelV u u' → RelV v v' → f x y = some b →
  wpAny (model X.prog X.w) A (richCompare .Eq u' v') (fun r s' => r = .bool b ∧ ∃ H', Inv X pins σ H' s' ∧ L2.Ext H H') X.xe s
def EqB (X : Cx) (j : Nat) (f : W → W → Option Bool) : Prop := ∀ (A : Around) (pins : List (Addr × Obj)) (s : Shared) (σ : L2.St) (H B : Hp) (ρ : List Addr) (x y : W) (u v : V) (u' v' : Value) (b : Bool), Und X j A → Inv X pins σ H s → Same B H → Rep X.K B ρ u x → Rep X.K B ρ v y → RelV u u' → RelV v v' → f x y = some b →
  wpAny (model X.prog X.w) A (eqBool u' v') (fun r s' => r = b ∧ ∃ H', Inv X pins σ H' s' ∧ L2.Ext H H') X.xe s
theorem refW_ref {K : PySem.W.Frag} {B : Hp} {ρ : List Addr} {v : V} {x : W} (r : Rep K B ρ v x) (h : refW x = true) : ∃ a, v = .ref a := by
  cases r <;> first | exact ⟨_, rfl⟩ | cases h
theorem scal_eqV {x y : V} (h : L2.scal x y = true) : (∃ b, x = .byt b) ∨ (L2.flatV x = true ∧ L2.flatV y = true ∧ L2.eqV x y = decide (x = y)) := by
  cases x <;> cases y <;> first
    | (cases h; done)
    | exact .inl ⟨_, rfl⟩
    | (refine .inr ⟨rfl, rfl, ?_⟩; first | exact dec_int.symm | exact dec_bl.symm | exact dec_str.symm | exact (decide_eq_false (fun z => nomatch z)).symm | exact (decide_eq_true rfl).symm)
theorem Rep.noByt {K : PySem.W.Frag} {B : Hp} {ρ : List Addr} {v : V} {x : W} (r : Rep K B ρ v x) : ∀ b, v ≠ .byt b := by
  cases r <;> exact fun b e => nomatch e
theorem itm_ok (h : RcB X j f) : EqB X j (itmX f) := by
  intro A pins s σ H B ρ x y u v u' v' b un I sm rx ry ru rv e
  unfold itmX at e
  split at e
  · rename_i hs
    cases e
    obtain ⟨h1, h2⟩ := scal_ok rx ry hs
    rcases scal_eqV h1 with ⟨b, e⟩ | ⟨f1, f2, e⟩
    · exact absurd e (rx.noByt b)
    · have z := eqAt_V (A := A) (s := s) ru rv f1 f2
      rw [e, h2] at z
      exact z X.prog X.w X.xe _ ⟨rfl, H, I, L2.Ext.rfl'⟩
  · split at e
    · rename_i c hc
      split at e
      · rename_i hg
        cases e
        simp only [Bool.and_eq_true, Bool.or_eq_true] at hg
        obtain ⟨⟨g1, g2⟩, g3⟩ := hg
        obtain ⟨a, rfl⟩ := refW_ref rx g1
        obtain ⟨a', rfl⟩ := refW_ref ry g2
        cases (show u' = Value.ref a from ru)
        cases (show v' = Value.ref a' from rv)
        by_cases hab : a = a'
        · subst hab
          have hb : b = true := by
            rcases g3 with g3 | g3
            · exact g3
            · rw [difW_ok I sm rx ry] at g3
              cases g3
          subst hb
          exact SeqAt.EqAt.same (A := A) (s := s) (.ref a) X.prog X.w X.xe _ ⟨rfl, H, I, L2.Ext.rfl'⟩
        · refine GQ.eqBool_refG hab (wpAny_mono (h A pins s σ H B ρ x y (.ref a) (.ref a') _ _ b un I sm rx ry rfl rfl hc) (fun r s' z => ?_) fun _ _ x => x)
          obtain ⟨rfl, z⟩ := z
          exact ⟨b, rfl, rfl, z⟩
      · cases e
    · cases e
theorem eqL_step {x y : W} {xs ys : List W} {b : Bool} (e : eqL f (x :: xs) (y :: ys) = some b) : ∃ c, f x y = some c ∧ ((c = true ∧ eqL f xs ys = some b) ∨ (c = false ∧ b = false)) := by
  rw [eqL] at e
  cases q : f x y with
  | none => rw [q] at e; cases e
  | some c =>
    rw [q] at e
    cases c with
    | true => exact ⟨true, rfl, .inl ⟨rfl, e⟩⟩
    | false =>
      cases e
      exact ⟨false, rfl, .inr ⟨rfl, rfl⟩⟩
theorem eqL_end {xs ys : List W} {b : Bool} (e : eqL f xs ys = some b) (h : xs = [] ∨ ys = []) : b = (xs.length == ys.length) := by
  cases xs <;> cases ys
  · cases e; rfl
  · cases e; rfl
  · cases e; rfl
  · rcases h with h | h <;> cases h
theorem same_l2 {B H H' : Hp} (s : Same B H) (e : L2.Ext H H') : Same B H' := fun a o h => e a o (s a o h)
/-- the i-th turn -/
theorem turnB (h : EqB X (j + 1) f) {A : Around} (un : Und X j A) {pins : List (Addr × Obj)} {σ : L2.St} {H B : Hp} {ρ : List Addr} (sm : Same B H) {b : Bool} {xs ys : List V} {ws zs : List W} {its its2 : List Value}
    (rx : RepL X.K B ρ xs ws) (ry : RepL X.K B ρ ys zs) (r : Vals xs its) (r2 : Vals ys its2) (i : Nat) (h1 : i < its.length) (h2 : i < its2.length) (s' : Shared)
    (l : ∃ H', Inv X pins σ H' s' ∧ L2.Ext H H' ∧ eqL f (ws.drop i) (zs.drop i) = some b) :
    wpAny (model X.prog X.w) A.in1 (eqBool its[i] its2[i]) (GQ.TurnQ (fun s2 => ∃ H', Inv X pins σ H' s2 ∧ L2.Ext H H' ∧ eqL f (ws.drop (i + 1)) (zs.drop (i + 1)) = some b) (fun s2 => ∃ H', Inv X pins σ H' s2 ∧ L2.Ext H H' ∧ b = false)) X.xe s' := by
  obtain ⟨H1, I1, e1, el⟩ := l
  have k1 : i < xs.length := by rw [r.length]; exact h1
  have k2 : i < ys.length := by rw [r2.length]; exact h2
  obtain ⟨u, hu, ru⟩ := r.get (List.getElem?_eq_getElem k1)
  obtain ⟨v, hv, rv⟩ := r2.get (List.getElem?_eq_getElem k2)
  rw [List.getElem?_eq_getElem h1] at hu
  rw [List.getElem?_eq_getElem h2] at hv
  cases hu
  cases hv
  obtain ⟨w, hw, rw'⟩ := rx.get' (List.getElem?_eq_getElem k1)
  obtain ⟨z, hz, rz⟩ := ry.get' (List.getElem?_eq_getElem k2)
  obtain ⟨m1, hw⟩ := List.getElem?_eq_some_iff.mp hw
  obtain ⟨m2, hz⟩ := List.getElem?_eq_some_iff.mp hz
  rw [List.drop_eq_getElem_cons m1, List.drop_eq_getElem_cons m2, hw, hz] at el
  obtain ⟨c, hc, el⟩ := eqL_step el
  refine wpAny_mono (h A.in1 pins s' σ H1 B ρ w z _ _ _ _ c un.in1 I1 (same_l2 sm e1) rw' rz ru rv hc) (fun r s2 q => ?_) fun _ _ x => x
  obtain ⟨rfl, H2, I2, e2⟩ := q
  rcases el with ⟨rfl, el⟩ | ⟨rfl, el⟩
  · exact ⟨H2, I2, e1.trans e2, el⟩
  · exact ⟨H2, I2, e1.trans e2, el⟩
theorem rcB_tup (hu : X.A.units + j < cLine) (h : EqB X (j + 1) f) {A : Around} {pins : List (Addr × Obj)} {s : Shared} {σ : L2.St} {H B : Hp} {ρ : List Addr} {xs ys : List W} {u v : V} {u' v' : Value} {b : Bool} (un : Und X j A) (I : Inv X pins σ H s) (sm : Same B H) (rx : Rep X.K B ρ u (.tup xs)) (ry : Rep X.K B ρ v (.tup ys)) (ru : RelV u u') (rv : RelV v v') (e : eqL f xs ys = some b) :
    wpAny (model X.prog X.w) A (richCompare .Eq u' v') (fun r s' => r = .bool b ∧ ∃ H', Inv X pins σ H' s' ∧ L2.Ext H H') X.xe s := by
  cases rx with
  | tup hx rx =>
    cases ry with
    | tup hy ry =>
      cases ru
      cases rv
      obtain ⟨its, r, e1, z1⟩ := I.tuple (Same.tup sm hx)
      obtain ⟨its2, r2, e2, z2⟩ := I.tuple (Same.tup sm hy)
      refine GQ.rc_tupB (by rw [un.un]; exact hu) (fun i s2 => ∃ H', Inv X pins σ H' s2 ∧ L2.Ext H H' ∧ eqL f (xs.drop i) (ys.drop i) = some b) (fun s2 => ∃ H', Inv X pins σ H' s2 ∧ L2.Ext H H' ∧ b = false) e1 e2
        (fun i h1 h2 s' l => by
          have z := turnB h un sm rx ry r r2 i (by simpa using h1) (by simpa using h2) s' l
          simpa using z) (fun s' l => ?_) (fun s' l => ?_) ⟨H, I, L2.Ext.rfl', e⟩
      · obtain ⟨H', I', x', el⟩ := l
        have n1 : its.length = xs.length := by rw [← r.length]; exact rx.length
        have n2 : its2.length = ys.length := by rw [← r2.length]; exact ry.length
        have z := eqL_end el (by
          simp only [List.size_toArray]
          rw [n1, n2]
          rcases Nat.le_total xs.length ys.length with hl | hl
          · left; rw [Nat.min_eq_left hl]; simp
          · right; rw [Nat.min_eq_right hl]; simp)
        refine ⟨?_, H', I', x'⟩
        rw [z]
        congr 1
        simp only [List.size_toArray, List.length_drop]
        rw [n1, n2, Bool.eq_iff_iff]
        simp only [beq_iff_eq]
        omega
      · obtain ⟨H', I', x', rfl⟩ := l
        exact ⟨rfl, H', I', x'⟩
theorem neB_tup (hu : X.A.units + j < cLine) (h : EqB X (j + 1) f) {A : Around} {pins : List (Addr × Obj)} {s : Shared} {σ : L2.St} {H B : Hp} {ρ : List Addr} {xs ys : List W} {u v : V} {u' v' : Value} {b : Bool} (un : Und X j A) (I : Inv X pins σ H s) (sm : Same B H) (rx : Rep X.K B ρ u (.tup xs)) (ry : Rep X.K B ρ v (.tup ys)) (ru : RelV u u') (rv : RelV v v') (e : eqL f xs ys = some b) :
    wpAny (model X.prog X.w) A (richCompare .NotEq u' v') (fun r s' => r = .bool (!b) ∧ ∃ H', Inv X pins σ H' s' ∧ L2.Ext H H') X.xe s := by
  cases rx with
  | tup hx rx =>
    cases ry with
    | tup hy ry =>
      cases ru
      cases rv
      obtain ⟨its, r, e1, z1⟩ := I.tuple (Same.tup sm hx)
      obtain ⟨its2, r2, e2, z2⟩ := I.tuple (Same.tup sm hy)
      refine GQ.rc_tupNe (by rw [un.un]; exact hu) (fun i s2 => ∃ H', Inv X pins σ H' s2 ∧ L2.Ext H H' ∧ eqL f (xs.drop i) (ys.drop i) = some b) (fun s2 => ∃ H', Inv X pins σ H' s2 ∧ L2.Ext H H' ∧ b = false) e1 e2
        (fun i h1 h2 s' l => by
          have z := turnB h un sm rx ry r r2 i (by simpa using h1) (by simpa using h2) s' l
          simpa using z) (fun s' l => ?_) (fun s' l => ?_) ⟨H, I, L2.Ext.rfl', e⟩
      · obtain ⟨H', I', x', el⟩ := l
        have n1 : its.length = xs.length := by rw [← r.length]; exact rx.length
        have n2 : its2.length = ys.length := by rw [← r2.length]; exact ry.length
        have z := eqL_end el (by
          simp only [List.size_toArray]
          rw [n1, n2]
          rcases Nat.le_total xs.length ys.length with hl | hl
          · left; rw [Nat.min_eq_left hl]; simp
          · right; rw [Nat.min_eq_right hl]; simp)
        refine ⟨?_, H', I', x'⟩
        rw [z]
        congr 1
        simp only [List.size_toArray, List.length_drop]
        rw [n1, n2, Bool.eq_iff_iff]
        simp only [bne_iff_ne, Bool.not_eq_true', beq_eq_false_iff_ne, ne_eq]
        omega
      · obtain ⟨H', I', x', rfl⟩ := l
        exact ⟨rfl, H', I', x'⟩
theorem rcB_lst (hu : X.A.units + j < cLine) (h : EqB X (j + 1) f) {A : Around} {pins : List (Addr × Obj)} {s : Shared} {σ : L2.St} {H B : Hp} {ρ : List Addr} {xs ys : List W} {u v : V} {u' v' : Value} {b : Bool} (un : Und X j A) (I : Inv X pins σ H s) (sm : Same B H) (rx : Rep X.K B ρ u (.lst xs)) (ry : Rep X.K B ρ v (.lst ys)) (ru : RelV u u') (rv : RelV v v') (e : (if xs.length = ys.length then eqL f xs ys else some false) = some b) :
    wpAny (model X.prog X.w) A (richCompare .Eq u' v') (fun r s' => r = .bool b ∧ ∃ H', Inv X pins σ H' s' ∧ L2.Ext H H') X.xe s := by
  cases rx with
  | @lst a vs _ hx rx =>
    cases ry with
    | @lst a2 vs2 _ hy ry =>
      cases ru
      cases rv
      have two : ∀ {H' : Hp} {s' : Shared}, Inv X pins σ H' s' → L2.Ext H H' → ∃ (its its2 : List Value) (n n2 : Nat), Vals vs its ∧ Vals vs2 its2 ∧ s'.heap.get? a = some { cls := .type "list", data := .seq its.toArray n } ∧ s'.heap.get? a2 = some { cls := .type "list", data := .seq its2.toArray n2 } := fun I1 e1 => by
        obtain ⟨z, its, k, r, g⟩ := I1.hok a _ (e1 _ _ (sm _ _ hx))
        obtain ⟨z2, its2, k2, r2, g2⟩ := I1.hok a2 _ (e1 _ _ (sm _ _ hy))
        exact ⟨its, its2, k, k2, r, r2, g, g2⟩
      by_cases hl : xs.length = ys.length
      · rw [if_pos hl] at e
        have nn : ∀ {its : List Value}, Vals vs its → its.length = xs.length := fun r => by rw [← r.length]; exact rx.length
        have nn2 : ∀ {its : List Value}, Vals vs2 its → its.length = xs.length := fun r => by rw [← r.length, hl]; exact ry.length
        refine GQ.rc_listB (N := xs.length) (by rw [un.un]; exact hu) (fun i s2 => ∃ H', Inv X pins σ H' s2 ∧ L2.Ext H H' ∧ eqL f (xs.drop i) (ys.drop i) = some b) (fun s2 => ∃ H', Inv X pins σ H' s2 ∧ L2.Ext H H' ∧ b = false)
          (fun i s' l => ?_) (fun s' l => ?_) (fun s' l => ?_) ⟨H, I, L2.Ext.rfl', e⟩
        · obtain ⟨H1, I1, e1, el⟩ := l
          obtain ⟨its, its2, k, k2, r, r2, g, g2⟩ := two I1 e1
          refine ⟨its.toArray, its2.toArray, k, k2, g, g2, by rw [List.size_toArray]; exact nn r, by rw [List.size_toArray]; exact nn2 r2, fun h1 h2 => ?_⟩
          have z := turnB h un sm rx ry r r2 i (by simpa using h1) (by simpa using h2) s' ⟨H1, I1, e1, el⟩
          simpa using z
        · obtain ⟨H', I', x', el⟩ := l
          have z := eqL_end el (.inl (by simp))
          refine ⟨?_, H', I', x'⟩
          rw [z]
          congr 1
          simp only [List.length_drop]
          rw [hl]
          simp
        · obtain ⟨H', I', x', rfl⟩ := l
          obtain ⟨its, its2, k, k2, r, r2, g, g2⟩ := two I' x'
          exact ⟨⟨its.toArray, its2.toArray, k, k2, g, g2, by rw [List.size_toArray]; exact nn r, by rw [List.size_toArray]; exact nn2 r2, trivial⟩, rfl, H', I', x'⟩
      · rw [if_neg hl] at e
        cases e
        obtain ⟨its, its2, k, k2, r, r2, g, g2⟩ := two I L2.Ext.rfl'
        have n1 := r.length
        have n2 := r2.length
        have n3 := rx.length
        have n4 := ry.length
        refine SeqAt.RcAt.lists_lengths (A := A) (l := a) (b := a2) (items := its.toArray) (items2 := its2.toArray) (s := s) ⟨_, g, rfl, k, rfl⟩ ⟨_, g2, rfl, k2, rfl⟩ ?_ (by rw [un.un]; exact hu) X.prog X.w X.xe _ ⟨rfl, H, I, L2.Ext.rfl'⟩
        simp only [List.size_toArray, bne_iff_ne, ne_eq]
        omega
theorem eqD_step {k : Key} {x : W} {r ls : List (Key × W)} {b : Bool} (e : eqD f ((k, x) :: r) ls = some b) : (findK ls k = none ∧ b = false) ∨ ∃ y c, findK ls k = some y ∧ f x y = some c ∧ ((c = true ∧ eqD f r ls = some b) ∨ (c = false ∧ b = false)) := by
  rw [eqD] at e
  cases q : findK ls k with
  | none => rw [q] at e; cases e; exact .inl ⟨rfl, rfl⟩
  | some y =>
    rw [q] at e
    replace e : (match f x y with
      | some true => eqD f r ls
      | some false => some false
      | none => none) = some b := e
    cases q2 : f x y with
    | none => rw [q2] at e; cases e
    | some c =>
      rw [q2] at e
      cases c with
      | true => exact .inr ⟨y, true, rfl, q2, .inl ⟨rfl, e⟩⟩
      | false =>
        cases e
        exact .inr ⟨y, false, rfl, q2, .inr ⟨rfl, rfl⟩⟩
/-- dicts, the first locked -/
theorem rcB_dctL (hu : X.A.units + j < cLine) (h : EqB X (j + 1) f) {A : Around} {pins : List (Addr × Obj)} {s : Shared} {σ : L2.St} {H B : Hp} {ρ : List Addr} {a a2 : Addr} {o : Obj} {kv kv2 : List (Key × V)} {ks ls : List (Key × W)} {b : Bool} (un : Und X j A) (I : Inv X pins σ H s) (sm : Same B H)
    (ha : B a = some (.frz o (.dK kv))) (e0 : kv.map Prod.fst = ks.map Prod.fst) (rx : RepL X.K B ρ (kv.map Prod.snd) (ks.map Prod.snd)) (hb : L2.Rd B a2 (.dK kv2)) (e2 : kv2.map Prod.fst = ls.map Prod.fst) (ry : RepL X.K B ρ (kv2.map Prod.snd) (ls.map Prod.snd)) (hl : ks.length = ls.length) (e : eqD f ks ls = some b) :
    wpAny (model X.prog X.w) A (richCompare .Eq (.ref a) (.ref a2)) (fun r s' => r = .bool b ∧ ∃ H', Inv X pins σ H' s' ∧ L2.Ext H H') X.xe s := by
  obtain ⟨n1, g, _, es, ep, vs, _, _, hkv, da⟩ := I.frzK (sm _ _ ha)
  obtain ⟨_, n2, vb, r2, d2⟩ := dk_rd I.hok (Same.rd sm hb)
  have l0 := congrArg List.length e0
  have l2 := congrArg List.length e2
  simp only [List.length_map] at l0 l2
  refine PySem.W.rc_dictB (knd := mixKind X.prog X.w) (oa := o) n1 n2 (fun i s2 => ∃ H', Inv X pins σ H' s2 ∧ L2.Ext H H' ∧ eqD f (ks.drop i) ls = some b) (fun s2 => ∃ H', Inv X pins σ H' s2 ∧ L2.Ext H H' ∧ b = false) da.dictOf d2 (by rw [un.un]; exact hu)
    (fun i s' l => ?_) (fun s' l => ?_) (fun s' l => ?_) (by rw [← hkv.length, ← r2.length]; omega) ⟨H, I, L2.Ext.rfl', e⟩
  · obtain ⟨H1, I1, e1, el⟩ := l
    refine ⟨(I1.frzK (e1 _ _ (sm _ _ ha))).2.1, fun k v hv => ?_⟩
    have hi : i < kv.length := by
      have := (List.getElem?_eq_some_iff.mp hv).1
      rw [← hkv.length] at this
      exact this
    obtain ⟨k', v0, hk'⟩ : ∃ k' v0, kv[i] = (k', v0) := ⟨_, _, rfl⟩
    have hg : kv[i]? = some (k', v0) := by rw [List.getElem?_eq_getElem hi, hk']
    obtain ⟨u, hu', ru⟩ := kv_get hkv hg
    rw [hv] at hu'
    cases hu'
    obtain ⟨w, hw⟩ := zip_at e0 hg
    have hg2 : (kv.map Prod.snd)[i]? = some v0 := by rw [List.getElem?_map, hg]; rfl
    obtain ⟨w', hw', rw'⟩ := rx.get' hg2
    have ew : w' = w := by
      rw [List.getElem?_map, hw] at hw'
      cases hw'
      rfl
    subst ew
    obtain ⟨m1, hw2⟩ := List.getElem?_eq_some_iff.mp hw
    rw [List.drop_eq_getElem_cons m1, hw2] at el
    obtain ⟨_, _, vb1, r3, d3⟩ := dk_rd I1.hok (Same.rd (same_l2 sm e1) hb)
    refine ⟨vb1, d3, ?_⟩
    have hval := r3.val k
    obtain ⟨z1, z2⟩ := find_ok (k := k) e2 ry
    rcases eqD_step el with ⟨hn, rfl⟩ | ⟨y, c, hy, hc, el⟩
    · rw [hn] at z2
      have z3 : valV kv2 k = none := by
        cases q : valV kv2 k with
        | none => rfl
        | some x => rw [q] at z2; cases z2
      rw [z3] at hval
      refine .inl ⟨?_, H1, I1, e1, rfl⟩
      cases q : valueAt vb1 k with
      | none => rfl
      | some x => rw [q] at hval; exact hval.elim
    · obtain ⟨y0, hy0, ry0⟩ := z1 y hy
      rw [hy0] at hval
      cases q : valueAt vb1 k with
      | none => rw [q] at hval; exact hval.elim
      | some y' =>
        rw [q] at hval
        refine .inr ⟨y', rfl, wpAny_mono (h A.in1 pins s' σ H1 B ρ w' y v0 y0 v y' c un.in1 I1 (same_l2 sm e1) rw' ry0 ru hval hc) (fun r s2 q => ?_) fun _ _ x => x⟩
        obtain ⟨rfl, H2, I2, x2⟩ := q
        rcases el with ⟨rfl, el⟩ | ⟨rfl, el⟩
        · exact ⟨H2, I2, e1.trans x2, el⟩
        · exact ⟨H2, I2, e1.trans x2, el⟩
  · obtain ⟨H', I', x', el⟩ := l
    rw [← hkv.length, l0, List.drop_length] at el
    cases el
    exact ⟨rfl, H', I', x'⟩
  · obtain ⟨H', I', x', rfl⟩ := l
    exact ⟨rfl, H', I', x'⟩
theorem rcB_dct (hu : X.A.units + j < cLine) (h : EqB X (j + 1) f) {A : Around} {pins : List (Addr × Obj)} {s : Shared} {σ : L2.St} {H B : Hp} {ρ : List Addr} {ks ls : List (Key × W)} {u v : V} {u' v' : Value} {b : Bool} (un : Und X j A) (I : Inv X pins σ H s) (sm : Same B H) (rx : Rep X.K B ρ u (.dct ks)) (ry : Rep X.K B ρ v (.dct ls)) (ru : RelV u u') (rv : RelV v v') (e : (if ks.length = ls.length then eqD f ks ls else some false) = some b) :
    wpAny (model X.prog X.w) A (richCompare .Eq u' v') (fun r s' => r = .bool b ∧ ∃ H', Inv X pins σ H' s' ∧ L2.Ext H H') X.xe s := by
  cases rx with
  | @dct a kv _ hx e0 rx =>
    cases ry with
    | @dct a2 kv2 _ hy e2 ry =>
      cases ru
      cases rv
      have l0 := congrArg List.length e0
      have l2 := congrArg List.length e2
      simp only [List.length_map] at l0 l2
      by_cases hl : ks.length = ls.length
      · rw [if_pos hl] at e
        rcases hx with hx | ⟨o, hx⟩
        · obtain ⟨od, I1⟩ := I.lock (sm _ _ hx) True.intro
          have sm1 : Same (upd B a (.frz od (.dK kv))) (upd H a (.frz od (.dK kv))) := fun c x z => by
            by_cases hc : c = a
            · subst hc
              rw [upd_same] at z ⊢
              exact z
            · rw [upd_ne hc] at z ⊢
              exact sm _ _ z
          refine wpAny_mono (rcB_dctL hu h un I1 sm1 (a := a) (a2 := a2) (o := od) (kv := kv) (kv2 := kv2) upd_same e0 (RepL.swap hx (.inl rfl) (.inr ⟨od, rfl⟩) rx) (sw_dk hx (.inl rfl) (.inr ⟨od, rfl⟩) hy) e2 (RepL.swap hx (.inl rfl) (.inr ⟨od, rfl⟩) ry) hl e) (fun r s2 q => ?_) fun _ _ x => x
          obtain ⟨hr, H2, I2, x2⟩ := q
          refine ⟨hr, upd H2 a (.dK kv), I2.unlock (x2 _ _ upd_same) (I.nofrz (sm _ _ hx) True.intro), fun c x z => ?_⟩
          by_cases hc : c = a
          · subst hc
            rw [upd_same]
            exact (sm _ _ hx).symm.trans z
          · rw [upd_ne hc]
            exact x2 c x (by rw [upd_ne hc]; exact z)
        · exact rcB_dctL hu h un I sm hx e0 rx hy e2 ry hl e
      · rw [if_neg hl] at e
        cases e
        obtain ⟨_, n1, va, r1, d1⟩ := dk_rd I.hok (Same.rd sm hx)
        obtain ⟨_, n2, vb, r2, d2⟩ := dk_rd I.hok (Same.rd sm hy)
        have ln : va.length ≠ vb.length := by rw [← r1.length, ← r2.length]; omega
        refine PySem.W.rcP_dicts (knd := mixKind X.prog X.w) (r := true) n1 n2 d1 d2 (by rw [un.un]; exact hu) (fun z => absurd z ln) X.xe _ ⟨?_, H, I, L2.Ext.rfl'⟩
        have : (va.length == vb.length) = false := by simpa using ln
        rw [this]
        rfl
/-- the own == runs -/
theorem eqCall_ok {fa : Addr} {fd : FuncData} {k : Nat} {ps : List Str} {nm : Str} {A : Around} {pins : List (Addr × Obj)} {s : Shared} {σ : L2.St} {H B : Hp} {a a2 : Addr} {x y : W} {b : Bool} {S' : Sto} (hj : j ≤ 7) (un : Und X j A) (I : Inv X pins σ H s) (sm : Same B H)
    (rx : Rep X.K B [] (.ref a) x) (ry : Rep X.K B [] (.ref a2) y) (F : FnOk X.prog X.w X.K X.mg X.base (L2.CX X.prog X.w) k fa fd ps (SpF X.K X.mg cl nm 2)) (bd : Binds X.K fd ps []) (hr : Room (k + 7) X.A) (e : cl nm [x, y] [] = .ok (.bl b) S') (g0 : Gam.tabs = []) :
    wpAny (model X.prog X.w) A (call (.ref fa) [.ref a, .ref a2]) (fun r s' => r = .bool b ∧ ∃ H', Inv X pins σ H' s' ∧ L2.Ext H H') X.xe s := by
  have rm : Room k A := un.rm k (hr.mono (by omega))
  have hsp : SpF X.K X.mg cl nm 2 [.ref a, .ref a2] H (fun v H' => v = .bl b ∧ L2.Ext H H') (fun _ _ _ => False) := by
    refine ⟨rfl, [], [], B, [x, y], ⟨sm, rfl, List.nodup_nil, fun i c o e => by simp at e, TbOk.nil g0, fun z => absurd g0 z⟩, .cons rx (.cons ry .nil), ?_⟩
    rw [e]
    intro ρ' B' H' x' s' v rv
    cases rv
    exact ⟨rfl, fun c o h => x'.frame c o h (fun z => absurd g0 z) (by simp)⟩
  have e0 : Env0 X.prog X.w X.K X.mg X.base A X.stack s H := by
    have e := I.env0
    exact ⟨by rw [un.fr]; exact e.frames, e.mod, e.bs, e.bsz, e.funs, e.frf, e.hok, e.bare⟩
  have hl := F.len _ _ _ _ hsp
  have r2 : Vals [V.ref a, V.ref a2] [Value.ref a, Value.ref a2] := .cons rfl (.cons rfl .nil)
  refine wpAny_call (codeAny_mono (F.run A X.stack s H ⟨[.ref a, .ref a2], []⟩ [.ref a, .ref a2] [.ref a, .ref a2] _ _ rm e0 (by
    have := bd s [.ref a, .ref a2] I.kIn (by simpa using hl)
    simpa using this) r2 hsp) fun r s' hq => ?_)
  cases r with
  | error e =>
    obtain ⟨_, _, _, _, _, _, _, _, _, _, _, _, h⟩ := hq
    exact h.elim
  | ok fl =>
    cases fl with
    | ret w =>
      obtain ⟨z, H', I', rz, ez, ex⟩ := I.after hq
      subst ez
      cases rz
      exact ⟨rfl, H', I', ex⟩
    | next => exact False.elim hq
    | brk => exact False.elim hq
    | cont => exact False.elim hq
theorem eqX_obj {c d : Str} {fs gs : List (Str × W)} {b : Bool} (e : eqX q cl (n + 1) (.obj c fs) (.obj d gs) = some b) : q c d = true ∧ ∃ x y S', frzW [] 0 100000 (.obj c fs) = some x ∧ frzW [] 0 100000 (.obj d gs) = some y ∧ cl (mName c "__eq__") [x, y] [] = .ok (.bl b) S' := by
  rw [eqX] at e
  cases h : q c d with
  | false => rw [h] at e; cases e
  | true =>
    rw [h] at e
    refine ⟨rfl, ?_⟩
    dsimp only at e
    split at e
    · rename_i x y h1 h2
      split at e
      · rename_i b' S' h3
        cases e
        exact ⟨x, y, S', h1, h2, h3⟩
      · cases e
    · cases e
theorem rcB_obj (hu : X.A.units + 65 < cLine) (Y : EqsOk q cl X) (hj : j ≤ 7) {A : Around} {pins : List (Addr × Obj)} {s : Shared} {σ : L2.St} {H B : Hp} {ρ : List Addr} {c d : Str} {fs gs : List (Str × W)} {u v : V} {u' v' : Value} {b : Bool} (un : Und X j A) (I : Inv X pins σ H s) (sm : Same B H) (rx : Rep X.K B ρ u (.obj c fs)) (ry : Rep X.K B ρ v (.obj d gs)) (ru : RelV u u') (rv : RelV v v') (e : eqX q cl (n + 1) (.obj c fs) (.obj d gs) = some b) :
    wpAny (model X.prog X.w) A (richCompare .Eq u' v') (fun r s' => r = .bool b ∧ ∃ H', Inv X pins σ H' s' ∧ L2.Ext H H') X.xe s := by
  obtain ⟨hq, x, y, S', h1, h2, h3⟩ := eqX_obj e
  obtain ⟨g0, C, D, fa, fd, k, ps, hc, hd, hn, hs, hf, _, _, F, bd, hr⟩ := Y c d hq
  have cx := frz_clear rx h1
  have cy := frz_clear ry h2
  cases rx with
  | @obj a C' dx _ fv _ hc' ha e0 rx =>
    cases ry with
    | @obj a2 D' dy _ gv _ hd' ha2 e2 ry =>
      cases hc.symm.trans hc'
      cases hd.symm.trans hd'
      cases ru
      cases rv
      obtain ⟨mA, J, _⟩ := ins_get I.hok (sm _ _ ha)
      obtain ⟨mB, J', _⟩ := ins_get I.hok (sm _ _ ha2)
      obtain ⟨od, J, _⟩ := J.look
      obtain ⟨od', J', _⟩ := J'.look
      obtain ⟨m, hF⟩ := I.fr
      refine PySem.W.cmp_K (op := .Eq) (tb := .ref D) (by rw [un.un]; omega) hF I.ok.mod.kin J J'.type hn hs hf ?_
      refine wpAny_mono (eqCall_ok hj un I sm cx cy F bd hr h3 g0) (fun r s2 z => ?_) fun _ _ x => x
      obtain ⟨rfl, z⟩ := z
      exact ⟨rfl, z⟩
/-- == -/
theorem rc_ok (hu : X.A.units + 65 < cLine) (Y : EqsOk q cl X) : ∀ (n j : Nat), n + j ≤ 7 → RcB X j (eqX q cl n) := by
  intro n
  induction n with
  | zero =>
    intro j _ A pins s σ H B ρ x y u v u' v' b un I sm rx ry ru rv e
    rw [eqX] at e
    cases e
  | succ n ih =>
    intro j hj A pins s σ H B ρ x y u v u' v' b un I sm rx ry ru rv e
    have hE : EqB X (j + 1) (itmX (eqX q cl n)) := itm_ok (ih (j + 1) (by omega))
    unfold eqX at e
    split at e
    · cases e
    · rename_i m xs ys en
      cases en
      exact rcB_tup (by omega) hE un I sm rx ry ru rv e
    · rename_i m xs ys en
      cases en
      exact rcB_lst (by omega) hE un I sm rx ry ru rv e
    · rename_i m xs ys en
      cases en
      exact rcB_dct (by omega) hE un I sm rx ry ru rv e
    · rename_i m c fs d gs en
      cases en
      exact rcB_obj hu Y (by omega) un I sm rx ry ru rv (n := n) (by rw [eqX]; exact e)
    · cases e
/-! ### x in a list -/
theorem in_go {f : W → W → Option Bool} (h : EqB X 1 f) {pins : List (Addr × Obj)} {σ : L2.St} {l : Addr} {ws : List W} {a x : W} {v : V} {v' : Value} {b : Bool} {B H0 : Hp} {ρ : List Addr} {S : Sto} (sr : SR X.K ρ S B H0) (rl : Rep X.K B ρ (.ref l) a) (ql : seqL S a = some ws) (rx : Rep X.K B ρ v x) (rv : RelV v v') {Q : Value → Shared → Prop}
    (hQ : ∀ s', (∃ H', Inv X pins σ H' s' ∧ L2.Ext H0 H') → Q (.bool b) s') : ∀ (n i : Nat) (s : Shared), ws.length - i = n → i ≤ ws.length → (∃ H', Inv X pins σ H' s ∧ L2.Ext H0 H') → inL f x (ws.drop i) = some b →
      codeAny (model X.prog X.w) X.A (.builtin "list.__contains__.loop" ⟨[.ref l, v', rawInt i], []⟩) (wants Q X.xe) s := by
  intro n
  induction n with
  | zero =>
    intro i s hn hi ⟨H1, I, e⟩ hm
    have hz : i = ws.length := by omega
    rw [hz, List.drop_length] at hm
    cases hm
    obtain ⟨l', xs, el, h1, h2⟩ := seqL_ok sr rl ql
    cases el
    obtain ⟨its, rits, ⟨o, m, ho, hc, hdc, hd⟩, _⟩ := I.list ((show Same H0 H1 from fun a o q => e a o q).seq h1)
    refine codeAny_builtin MeetsSeq.entry_contains_loop ?_
    rw [Around.under_plainId MeetsSeq.plain_contains_loop _]
    show wpAny _ X.A.in1 (Builtin.List.listItems (Value.ref l) >>= _) _ X.xe s
    refine wpAny_bind (listItems_at (a := l) ho hd ?_)
    have hg : its.toArray[((i : Nat) : Int).toNat]? = none := by
      have a1 := h2.length
      have a2 := rits.length
      simp
      omega
    rw [hg]
    exact wpAny_pure (hQ s ⟨H1, I, e⟩)
  | succ n ih =>
    intro i s hn hi ⟨H1, I, e⟩ hm
    have hlt : i < ws.length := by omega
    obtain ⟨l', xs, el, h1, h2⟩ := seqL_ok sr rl ql
    cases el
    obtain ⟨its, rits, ⟨o, m, ho, hc, hdc, hd⟩, _⟩ := I.list ((show Same H0 H1 from fun a o q => e a o q).seq h1)
    obtain ⟨u, hu, ru⟩ := h2.get (List.getElem?_eq_getElem hlt)
    obtain ⟨u', hu', ru'⟩ := rits.get hu
    rw [List.drop_eq_getElem_cons hlt] at hm
    unfold inL at hm
    refine codeAny_builtin MeetsSeq.entry_contains_loop ?_
    rw [Around.under_plainId MeetsSeq.plain_contains_loop _]
    show wpAny _ X.A.in1 (Builtin.List.listItems (Value.ref l) >>= _) _ X.xe s
    refine wpAny_bind (listItems_at (a := l) ho hd ?_)
    have hg : its.toArray[((i : Nat) : Int).toNat]? = some u' := by simpa using hu'
    rw [hg]
    show wpAny _ X.A.in1 (eqBool u' v' >>= _) _ X.xe s
    cases hc1 : f ws[i] x with
    | none => rw [hc1] at hm; cases hm
    | some c =>
      rw [hc1] at hm
      refine wpAny_bind (wpAny_mono (h X.A.in1 pins s σ H1 B ρ ws[i] x u v u' v' c Und.here.in1 I (fun a o q => e a o (sr.same a o q)) ru rx ru' rv hc1) (fun r s2 z => ?_) fun _ _ z => z)
      obtain ⟨rfl, H2, I2, e2⟩ := z
      cases r with
      | true =>
        cases hm
        exact wpAny_pure (hQ s2 ⟨H2, I2, e.trans e2⟩)
      | false =>
        have hcast : ((i : Int) + 1) = ((i + 1 : Nat) : Int) := by push_cast; rfl
        simp only [Bool.false_eq_true, if_false]
        rw [hcast]
        exact wpAny_pure ⟨plainId_quiet MeetsSeq.plain_contains_loop _, ih (i + 1) s2 (by omega) hlt ⟨H2, I2, e.trans e2⟩ hm⟩
theorem in_list {f : W → W → Option Bool} (h : EqB X 1 f) {pins : List (Addr × Obj)} {σ : L2.St} {s : Shared} {ws : List W} {a x : W} {y v : V} {y' v' : Value} {b : Bool} {B H0 : Hp} {ρ : List Addr} {S : Sto} (I : Inv X pins σ H0 s) (sr : SR X.K ρ S B H0) (rl : Rep X.K B ρ y a) (ql : seqL S a = some ws) (rx : Rep X.K B ρ v x) (ry : RelV y y') (rv : RelV v v') (hm : inL f x ws = some b) :
    wpAny (model X.prog X.w) X.A (compareOp .In v' y') (fun r s' => r = .bool b ∧ ∃ H', Inv X pins σ H' s' ∧ L2.Ext H0 H') X.xe s := by
  obtain ⟨l, xs, rfl, h1, h2⟩ := seqL_ok sr rl ql
  obtain rfl : y' = Value.ref l := ry
  obtain ⟨its, rits, pl, _⟩ := I.list h1
  have hT := pl.isList.typeIs
  show wpAny _ _ (do return Value.bool (← contains (Value.ref l) v')) _ _ s
  refine wpAny_bind (wpAny_contains_slot hT slot_list_contains ?_)
  refine call_meetsIn slot_list_contains hT entry_list_contains (args_list_contains _ _) (S := fun A' R s' => A' = X.A ∧ s' = s ∧ R = wants (fun r s2 => wpAny (model X.prog X.w) X.A (truthy r) (fun c s3 => wpAny (model X.prog X.w) X.A (pure (Value.bool c)) (fun r s' => r = .bool b ∧ ∃ H', Inv X pins σ H' s' ∧ L2.Ext H0 H') X.xe s3) X.xe s2) X.xe) (fun A' R s' hS => ?_) ⟨rfl, rfl, rfl⟩
  obtain ⟨rfl, rfl, rfl⟩ := hS
  refine wpAny_pure ⟨plainId_quiet MeetsSeq.plain_contains_loop _, ?_⟩
  exact in_go h sr rl ql rx rv (fun s2 z => wpAny_truthy_bool (wpAny_pure ⟨rfl, z⟩)) ws.length 0 _ (by simp) (Nat.zero_le _) ⟨H0, I, L2.Ext.rfl'⟩ hm
/-! ### as an expression -/
theorem sr_l2 {ρ : List Addr} {S : Sto} {B H H' : Hp} (s : SR X.K ρ S B H) (e : L2.Ext H H') (g0 : Gam.tabs = []) : SR X.K ρ S B H' :=
  ⟨same_l2 s.same e, s.len, s.nd, fun i a o e1 e2 => (s.cell i a o e1 e2).mono (Same.refl B) ⟨[], by simp⟩ (fun n => n) (fun u hu => e _ _ hu), TbOk.nil g0, s.nb⟩
theorem ext_l2 {ρ : List Addr} {B H H' : Hp} (e : L2.Ext H H') : Ext ρ B H ρ B H' :=
  ⟨Same.refl B, ⟨[], by simp, fun a h => by simp at h⟩, fun a o h _ _ => e a o h, fun a o h => ⟨o, e a o h⟩, fun _ _ _ _ n => n, fun a o u h => e a _ h⟩
theorem neB_obj (hu : X.A.units + 65 < cLine) (Y : EqsOk q cl X) {pins : List (Addr × Obj)} {s : Shared} {σ : L2.St} {H B : Hp} {ρ : List Addr} {c d : Str} {fs gs : List (Str × W)} {u v : V} {u' v' : Value} {b : Bool} (I : Inv X pins σ H s) (sm : Same B H) (rx : Rep X.K B ρ u (.obj c fs)) (ry : Rep X.K B ρ v (.obj d gs)) (ru : RelV u u') (rv : RelV v v') (e : eqX q cl (n + 1) (.obj c fs) (.obj d gs) = some b) :
    wpAny (model X.prog X.w) X.A (richCompare .NotEq u' v') (fun r s' => r = .bool (!b) ∧ ∃ H', Inv X pins σ H' s' ∧ L2.Ext H H') X.xe s := by
  obtain ⟨hq, x, y, S', h1, h2, h3⟩ := eqX_obj e
  obtain ⟨g0, C, D, fa, fd, k, ps, hc, hd, hn, hs, hf, hne, hm, F, bd, hr⟩ := Y c d hq
  have cx := frz_clear rx h1
  have cy := frz_clear ry h2
  have un : Und X 1 X.A.in1 := Und.here.in1
  cases rx with
  | @obj a C' dx _ fv _ hc' ha e0 rx =>
    cases ry with
    | @obj a2 D' dy _ gv _ hd' ha2 e2 ry =>
      cases hc.symm.trans hc'
      cases hd.symm.trans hd'
      cases ru
      cases rv
      obtain ⟨mA, J, _⟩ := ins_get I.hok (sm _ _ ha)
      obtain ⟨mB, J', _⟩ := ins_get I.hok (sm _ _ ha2)
      obtain ⟨od, J, _⟩ := J.look
      obtain ⟨od', J', _⟩ := J'.look
      obtain ⟨m, hF⟩ := I.fr
      refine PySem.W.ne_K (tb := .ref D) (by rw [un.un]; omega) (by omega) hF I.ok.mod.kin J J'.type hn hs hf hne hm ?_
      refine wpAny_mono (eqCall_ok (by omega) un I sm cx cy F bd hr h3 g0) (fun r s2 z => ?_) fun _ _ x => x
      obtain ⟨rfl, z⟩ := z
      exact ⟨b, rfl, rfl, z⟩
theorem cmpO_ok {op : CmpOp} {B H : Hp} {ρ : List Addr} {S : Sto} {x y : V} {a b : W} {c : Bool} (hu : X.A.units + 65 < cLine) (Y : EqsOk q cl X) (s : SR X.K ρ S B H) (rx : Rep X.K B ρ x a) (ry : Rep X.K B ρ y b) (e : cmpO q cl S op a b = some c) :
    ∀ pins s1 σ v u, Inv X pins σ H s1 → RelV x v → RelV y u → wpAny (model X.prog X.w) X.A (compareOp op v u) (fun r s2 => r = .bool c ∧ ∃ H', Inv X pins σ H' s2 ∧ L2.Ext H H') X.xe s1 := by
  intro pins s1 σ v u I rv ru
  unfold cmpO at e
  split at e
  · exact rc_ok hu Y 7 0 (by omega) X.A pins s1 σ H B ρ a b x y v u c Und.here I s.same rx ry rv ru e
  · unfold neX at e
    split at e
    · rename_i c1 fs d gs
      cases h : eqX q cl 1 (.obj c1 fs) (.obj d gs) with
      | none => rw [h] at e; cases e
      | some b' =>
        rw [h] at e
        cases e
        exact neB_obj hu Y I s.same rx ry rv ru h
    · rename_i xs ys
      cases h : eqL (itmX (eqX q cl 6)) xs ys with
      | none => rw [h] at e; cases e
      | some b' =>
        rw [h] at e
        cases e
        exact neB_tup (j := 0) (by omega) (itm_ok (rc_ok hu Y 6 1 (by omega))) Und.here I s.same rx ry rv ru h
    · cases e
  · split at e
    · rename_i ws hs
      exact in_list (itm_ok (rc_ok hu Y 4 1 (by omega))) I s ry hs rx ru rv e
    · cases e
  · cases e
theorem cmpX_ok {own : Bool} {op : CmpOp} {B H : Hp} {ρ : List Addr} {S : Sto} {Q : VK} {x y : V} {a b : W} {c : Bool} (hu : X.A.units + 65 < cLine) (Y : EqsOk q cl X) (g0 : own = true → Gam.tabs = []) (s : SR X.K ρ S B H) (rx : Rep X.K B ρ x a) (ry : Rep X.K B ρ y b) (e : cmpX own q cl S op a b = some c)
    (k : Val X.K (.bl c) S Q ρ B H) : opW X (compareOp op) x y H Q := by
  unfold cmpX at e
  split at e
  · exact cmpop_ok hu s rx ry e k
  split at e
  · rename_i c' h
    cases e
    exact cmpop_ok hu s rx ry h k
  have fin : (∀ pins s1 σ v u, Inv X pins σ H s1 → RelV x v → RelV y u → wpAny (model X.prog X.w) X.A (compareOp op v u) (fun r s2 => r = .bool c ∧ ∃ H', Inv X pins σ H' s2 ∧ L2.Ext H H') X.xe s1) → opW X (compareOp op) x y H Q := fun h pins s1 σ v u I rv ru => by
    refine wpAny_mono (h pins s1 σ v u I rv ru) (fun r s2 z => ?_) fun _ _ x => x
    obtain ⟨rfl, H', I', x'⟩ := z
    exact ⟨.bl c, H', I', rfl, k _ _ _ _ (ext_l2 x') (sr_l2 s x' (g0 rfl)) (.bl c)⟩
  split at e
  · rename_i c' h
    cases e
    exact fin (cmpO_ok hu Y s rx ry h)
  · unfold cmpZ at e
    split at e
    · rename_i a' b' h1 h2
      have same2 : Same (addB B H (ρ.drop 0)) H := fun d o z => by
        by_cases hm : d ∈ ρ.drop 0
        · rw [addB_in hm] at z
          exact z
        · rw [addB_out hm] at z
          exact s.same d o z
      have s2 : SR X.K [] [] (addB B H (ρ.drop 0)) H := ⟨same2, rfl, List.nodup_nil, fun i a o e => by simp at e, TbOk.nil (g0 rfl), fun z => absurd (g0 rfl) z⟩
      exact fin (cmpO_ok hu Y s2 (frzW_ok s rx h1) (frzW_ok s ry h2) e)
    · cases e
end
end Mi

set_option Elab.async false
set_option linter.all false
set_option maxRecDepth 100000
set_option maxHeartbeats 4000000
/-! Mi7: loops, comprehensions, one step deeper. -/
noncomputable section
namespace Mi
open PySem PySem.Spec PyProof.Rows L2
variable [Gam]
section
variable {K : PySem.W.Frag}
theorem Hold.bind0 {α β : Type} {r : R α} {f : α → Sto → R β} {ρ : List Addr} {B H : Hp} {okb : β → Sto → List Addr → Hp → Hp → Prop} {ex : Str → List (Str × W) → Env' → List Addr → Hp → Hp → Prop} (h : Hold K (r.bind f) ρ B H okb ex) :
    Hold K r ρ B H (fun a S _ _ _ => Hold K (f a S) ρ B H okb ex) ex := by
  cases r with
  | ok a S => exact fun _ _ _ _ _ => h
  | exc c fs en S => exact h
  | bad => exact h
theorem SR.notin {ρ : List Addr} {S : Sto} {B H : Hp} (s : SR K ρ S B H) {a : Addr} (h : H a = none) : a ∉ ρ := fun hm => by
  obtain ⟨i, hi⟩ := List.getElem?_of_mem hm
  have hl : i < S.length := by rw [← s.len]; exact (List.getElem?_eq_some_iff.mp hi).1
  obtain ⟨u, hu⟩ := (s.cell i a S[i] hi (by simp [hl])).held s.same
  rw [h] at hu
  cases hu
/-- what is not held changes -/
theorem SR.side {ρ : List Addr} {S : Sto} {B H : Hp} {a : Addr} {o v : HO} (s : SR K ρ S B H) (hb : B a = none) (hn : a ∉ ρ) (hv : H a = some v) (pv : plainO v = true := by rfl) (po : plainO o = true := by rfl) : SR K ρ S B (upd H a o) := by
  refine ⟨fun c u q => ?_, s.len, s.nd, fun i c so e1 e2 => ?_, s.tb.chg hv pv po, s.nb⟩
  · rw [upd_ne (ne_of_none q hb)]
    exact s.same c u q
  · have hc : c ≠ a := fun e => hn (by rw [← e]; exact List.mem_of_getElem? e1)
    exact (s.cell i c so e1 e2).mono (Same.refl B) ⟨[], by simp⟩ (fun n => n) (fun u hu => by rw [upd_ne hc]; exact hu)
theorem Ext.side {ρ ρ1 : List Addr} {B B1 H H1 : Hp} {a : Addr} {o : HO} (e : Ext ρ B H ρ1 B1 H1) (h : H a = none) : Ext ρ B H ρ1 B1 (upd H1 a o) := by
  refine ⟨e.b, e.p, fun c u q ht hn => ?_, fun c u q => ?_, e.new, fun c o' u q => ?_⟩
  · rw [upd_ne (ne_of_none q h)]
    exact e.frame c u q ht hn
  · rw [upd_ne (ne_of_none q h)]
    exact e.there c u q
  · rw [upd_ne (ne_of_none q h)]
    exact e.frz c o' u q
/-- what was not held is kept, never to change -/
theorem SR.keep {ρ : List Addr} {S : Sto} {B H : Hp} {a : Addr} {o : HO} (s : SR K ρ S B H) (hb : B a = none) (hn : a ∉ ρ) (ha : H a = some o) (po : plainO o = true := by rfl) : SR K ρ S (upd B a o) H := by
  have sm : Same B (upd B a o) := fun c u q => by
    rw [upd_ne (ne_of_none q hb)]
    exact q
  refine ⟨fun c u q => ?_, s.len, s.nd, fun i c so e1 e2 => ?_, s.tb, s.nb.upd po⟩
  · by_cases hc : c = a
    · subst hc
      rw [upd_same] at q
      cases q
      exact ha
    · rw [upd_ne hc] at q
      exact s.same c u q
  · have hc : c ≠ a := fun e => hn (by rw [← e]; exact List.mem_of_getElem? e1)
    exact (s.cell i c so e1 e2).mono sm ⟨[], by simp⟩ (fun n => by rw [upd_ne hc]; exact n) (fun u hu => hu)
/-- what was laid becomes a cell -/
theorem SR.own {ρ : List Addr} {S : Sto} {B H : Hp} {a : Addr} {xs : List V} {ws : List W} (s : SR K ρ S B H) (hn : a ∉ ρ) (hb : B a = none) (ha : H a = some (.lst xs)) (r : RepL K B ρ xs ws) : SR K (ρ ++ [a]) (S ++ [SO.lst ws]) B H := by
  refine ⟨s.same, by simp [s.len], ?_, fun i c so' e1 e2 => ?_, s.tb, s.nb⟩
  · rw [List.nodup_append]
    refine ⟨s.nd, by simp, fun x hx y hy e => ?_⟩
    rw [List.mem_singleton.mp hy] at e
    rw [e] at hx
    exact hn hx
  · by_cases hi : i < ρ.length
    · rw [List.getElem?_append_left hi] at e1
      rw [List.getElem?_append_left (by rw [← s.len]; exact hi)] at e2
      exact (s.cell i c so' e1 e2).mono (Same.refl B) ⟨[a], rfl⟩ (fun n => n) (fun u hu => hu)
    · have hl : i = ρ.length := by
        have z := (List.getElem?_eq_some_iff.mp e1).1
        simp at z
        omega
      subst hl
      simp at e1
      rw [s.len] at e2
      simp at e2
      subst e1
      subst e2
      exact Cel.mk hb ha (.lst (r.mono (Same.refl B) ⟨[a], rfl⟩))
theorem Ext.own {ρ ρ1 : List Addr} {B B1 H H1 : Hp} {a : Addr} (e : Ext ρ B H ρ1 B1 H1) (h : H a = none) : Ext ρ B H (ρ1 ++ [a]) B1 H1 := by
  obtain ⟨m, hm, hf⟩ := e.p
  refine ⟨e.b, ⟨m ++ [a], by rw [hm, List.append_assoc], fun c hc => ?_⟩, e.frame, e.there, e.new, e.frz⟩
  rcases List.mem_append.mp hc with hc | hc
  · exact hf c hc
  · rw [List.mem_singleton.mp hc]
    exact h
theorem Ext.keep {ρ ρ1 : List Addr} {B B1 H H1 : Hp} {a : Addr} {o : HO} (e : Ext ρ B H ρ1 B1 H1) (h : H a = none) (hb : B1 a = none) : Ext ρ B H ρ1 (upd B1 a o) H1 := by
  refine ⟨fun c u q => ?_, e.p, e.frame, e.there, fun c u q nr n => ?_, e.frz⟩
  · have z := e.b c u q
    rw [upd_ne (ne_of_none z hb)]
    exact z
  · rw [upd_ne (ne_of_none q h)]
    exact e.new c u q nr n
end
section
variable {pg : Pg} {cl : Str → List W → Sto → R W} {E : Evs} {g : Gm} {Wx : WX} {X : Cx}

/-! ### for -/
theorem drop_at {α : Type} {l : List α} {i : Nat} {x : α} (h : l[i]? = some x) : l.drop i = x :: l.drop (i + 1) := by
  obtain ⟨hi, e⟩ := List.getElem?_eq_some_iff.mp h
  rw [List.drop_eq_getElem_cons hi, e]
theorem forR_chk {K : PySem.W.Frag} {body : Env' → Sto → R Out'} {bnd : W → Env' → Option Env'} {chk : Sto → Bool} {ws : List W} {env : Env'} {S : Sto} {ρ : List Addr} {B H : Hp} {ok : Out' → Sto → List Addr → Hp → Hp → Prop} {ex : Str → List (Str × W) → Env' → List Addr → Hp → Hp → Prop}
    (h : Hold K (forR body bnd chk ws env S) ρ B H ok ex) : chk S = true := by
  cases ws with
  | nil => exact (show Hold K (guard' (chk S) (.ok (.next env) S)) ρ B H ok ex from h).grd.1
  | cons w ws =>
    unfold forR at h
    exact h.grd.1
theorem lcR_chk {K : PySem.W.Frag} {fl : Bool} {step : W → Sto → R (Option W)} {chk : Sto → Bool} {ws acc : List W} {S : Sto} {ρ : List Addr} {B H : Hp} {ok : W → Sto → List Addr → Hp → Hp → Prop} {ex : Str → List (Str × W) → Env' → List Addr → Hp → Hp → Prop}
    (h : Hold K (lcR fl step chk ws acc S) ρ B H ok ex) : chk S = true := by
  cases ws with
  | nil => exact (show Hold K (guard' (chk S) (laidR fl acc S)) ρ B H ok ex from h).grd.1
  | cons w ws =>
    unfold lcR at h
    exact h.grd.1
theorem forR_ok {K : PySem.W.Frag} {body : Env' → Sto → R Out'} {tg : Expr} {items : Itm} {ex : Str → List (Str × W) → Env' → List Addr → Hp → Hp → Prop} {J : It} {tb : TS} {D : Ends} {σ : L2.St} {H : Hp} {env : Env'} {S : Sto} {ρ : List Addr} {B : Hp}
    (hb : ∀ {env : Env'} {S : Sto} {σ : L2.St} {ρ : List Addr} {B H : Hp} {D : Ends}, Sl K B ρ σ env → SR K ρ S B H → Hold K (body env S) ρ B H (okS K D) ex → tb D σ H)
    (wk : WkF K H B ρ J items) (sl : Sl K B ρ σ env) (sr : SR K ρ S B H) (h : Hold K (forR body (bindT g tg) items.2 items.1 env S) ρ B H (okS K D) ex) :
    ∃ W : Nat → Nat → L2.St → Hp → Prop, (∃ m, W 0 m σ H) ∧ ∀ i m σ H, W i m σ H →
      (J.stop i H ∧ D.nx σ H) ∨ (J.go i H ∧ ∃ N : L2.St → Hp → Prop, (∀ σ' H', N σ' H' → ∃ m', m' < m ∧ W (i + 1) m' σ' H') ∧ ∀ x H', J.yld i H x H' → tgG K g tg x σ H' fun σ2 H2 => tb { D with nx := N, ct := N, bk := D.nx } σ2 H2) := by
  obtain ⟨G, Y, w, hG, hY⟩ := wk.wk
  refine for_it w (fun i σ' H' => ∃ env S ρ1 B1, Fz H H' ∧ Same B B1 ∧ (∃ m, ρ1 = ρ ++ m) ∧ Sl K B1 ρ1 σ' env ∧ SR K ρ1 S B1 H' ∧ Hold K (forR body (bindT g tg) items.2 (items.1.drop i) env S) ρ1 B1 H' (okS K D) ex) ?_ ?_ ?_ ?_
  · exact ⟨env, S, ρ, B, fun _ _ _ z => z, Same.refl B, ⟨[], by simp⟩, sl, sr, h⟩
  · rintro i σ' H' hi ⟨env, S, ρ1, B1, fz, s, p, _, sr, h⟩
    exact hG ρ1 S B1 H' fz s p sr (forR_chk h)
  · rintro i x σ' H1 H2 hi ⟨env, S, ρ1, B1, fz, s, p, sl, sr, h⟩ y
    obtain ⟨B2, wi, e1, e2, s2, rx⟩ := hY i x H1 H2 ρ1 S B1 hi s p sr (forR_chk h) y
    have h2 := h.ext e2
    rw [drop_at e1] at h2
    unfold forR at h2
    replace h2 := h2.grd.2
    cases q : bindT g tg wi env with
    | none => rw [q] at h2; exact h2.elim
    | some env1 =>
      rw [q] at h2
      refine bindT_ok s2 (sl.mono e2) rx q fun σ2 sl2 _ => ?_
      refine hb sl2 s2 (h2.bind.imp (fun o S3 ρ3 B3 H3 x3 s3 k => ?_) fun _ _ _ _ _ _ z => z)
      have fz3 : Fz H H3 := fun a o u z => x3.frz _ _ _ (e2.frz _ _ _ (fz _ _ _ z))
      have pp : Same B B3 ∧ ∃ m, ρ3 = ρ ++ m := by
        obtain ⟨m1, p1⟩ := p
        obtain ⟨m2, p2⟩ := e2.pre
        obtain ⟨m3, p3⟩ := x3.pre
        exact ⟨(s.trans e2.b).trans x3.b, ⟨m1 ++ m2 ++ m3, by rw [p3, p2, p1]; simp⟩⟩
      cases o with
      | next env2 => exact fun σ3 sl3 => ⟨env2, S3, ρ3, B3, fz3, pp.1, pp.2, sl3, s3, k⟩
      | cont env2 => exact fun σ3 sl3 => ⟨env2, S3, ρ3, B3, fz3, pp.1, pp.2, sl3, s3, k⟩
      | brk env2 => exact fun σ3 sl3 => k.here s3 σ3 sl3
      | ret v => exact fun u ru => k.here s3 u ru
  · rintro σ' H' ⟨env, S, ρ1, B1, _, s, p, sl, sr, h⟩
    rw [List.drop_length] at h
    exact (show Hold K (guard' (items.2 S) (.ok (.next env) S)) ρ1 B1 H' (okS K D) ex from h).grd.2.here sr σ' sl

/-! ### while -/
theorem whileR_ok {K : PySem.W.Frag} {test : Env' → Sto → R Bool} {body : Env' → Sto → R Out'} {ex : Str → List (Str × W) → Env' → List Addr → Hp → Hp → Prop} {tt : TT} {tb : TS} {D : Ends} {σ : L2.St} {H : Hp} {env : Env'} {S : Sto} {ρ : List Addr} {B : Hp} {m : Nat}
    (ht : ∀ {env : Env'} {S : Sto} {σ : L2.St} {ρ : List Addr} {B H : Hp} {Q : Bool → Hp → Prop}, Sl K B ρ σ env → SR K ρ S B H → Hold K (test env S) ρ B H (okT Q) ex → tt σ H Q)
    (hb : ∀ {env : Env'} {S : Sto} {σ : L2.St} {ρ : List Addr} {B H : Hp} {D : Ends}, Sl K B ρ σ env → SR K ρ S B H → Hold K (body env S) ρ B H (okS K D) ex → tb D σ H)
    (sl : Sl K B ρ σ env) (sr : SR K ρ S B H) (h : Hold K (whileR test body m env S) ρ B H (okS K D) ex) : tWhile tt tb D σ H := by
  refine ⟨fun m σ' H' => ∃ env S ρ1 B1, Sl K B1 ρ1 σ' env ∧ SR K ρ1 S B1 H' ∧ Hold K (whileR test body m env S) ρ1 B1 H' (okS K D) ex, ⟨m, env, S, ρ, B, sl, sr, h⟩, ?_⟩
  rintro m σ' H' ⟨env, S, ρ1, B1, sl, sr, h⟩
  cases m with
  | zero => exact h.elim
  | succ m =>
    unfold whileR at h
    refine ht sl sr (h.bind.imp (fun c S2 ρ2 B2 H2 x2 s2 k => ?_) fun _ _ _ _ _ _ z => z)
    cases c with
    | false =>
      exact (show D.nx σ' H2 from k.here s2 σ' (sl.mono x2))
    | true =>
      refine ⟨fun σ3 H3 => ∃ env S ρ1 B1, Sl K B1 ρ1 σ3 env ∧ SR K ρ1 S B1 H3 ∧ Hold K (whileR test body m env S) ρ1 B1 H3 (okS K D) ex, fun σ3 H3 n => ⟨m, Nat.lt_succ_self m, n⟩, ?_⟩
      refine hb (sl.mono x2) s2 (k.bind.imp (fun o S3 ρ3 B3 H3 x3 s3 k => ?_) fun _ _ _ _ _ _ z => z)
      cases o with
      | next env2 => exact fun σ3 sl3 => ⟨env2, S3, ρ3, B3, sl3, s3, k⟩
      | cont env2 => exact fun σ3 sl3 => ⟨env2, S3, ρ3, B3, sl3, s3, k⟩
      | brk env2 => exact fun σ3 sl3 => k.here s3 σ3 sl3
      | ret v => exact fun u ru => k.here s3 u ru

def wEb (X : Cx) (scope : Scope) (e : Expr) : TE := fun σ H Q => ∀ (s0 : Shared) (H0 : Hp) (C : Addr) (cl : List (Str × Addr)) (fp : List Addr), wE (X.blk s0 H0 scope (compEnvC scope cl C X.env) fp) e σ H Q
def wTb (X : Cx) (scope : Scope) (e : Expr) : TT := fun σ H Q => ∀ (s0 : Shared) (H0 : Hp) (C : Addr) (cl : List (Str × Addr)) (fp : List Addr), wT (X.blk s0 H0 scope (compEnvC scope cl C X.env) fp) e σ H Q
theorem cx_blk (C : CxOk pg cl g Wx X) (scope : Scope) (s0 : Shared) (H0 : Hp) (Ca : Addr) (cls : List (Str × Addr)) (fp : List Addr) : CxOk pg cl (blkG g scope) (fun _ _ _ _ => False) (X.blk s0 H0 scope (compEnvC scope cls Ca X.env) fp) :=
  C.elim fun lv C => ⟨lv, {
    N := C.N
    nd := C.nd
    sc := by
      show relS scope X.env.scope = relS scope g.sc
      rw [C.sc]
    fn := rfl
    calm := C.calm
    un := C.un
    pass := PassesOwn.never
    tk := takes0
    cst := C.cst
    fns := C.fns
    wd := C.wd
    free := C.free
    flds := C.flds
    xcs := C.xcs
    top := fun h => by cases h
    exk := C.exk
    exm := C.exm
    exf := C.exf
    exi := C.exi
    isi := C.isi
    mts := C.mts
    news := C.news
    eqs := C.eqs
    ownT := C.ownT
    rm := C.rm
    lam := fun h => nomatch h
    told := C.told }⟩
/-- what a turn of a comprehension leaves -/
def turnP (Dl : Addr) (PN : Hp → Prop) : Option V → Hp → Prop
  | none, H' => PN H'
  | some y, H' => ∃ acc, H' Dl = some (.lst acc) ∧ acc.length < sizeLine ∧ PN (upd H' Dl (.lst (acc ++ [y])))
theorem lcR_ok {K : PySem.W.Frag} {fl : Bool} {step : W → Sto → R (Option W)} {tg : Expr} {items : Itm} {ex : Str → List (Str × W) → Env' → List Addr → Hp → Hp → Prop} {J : It} {tt : TT} {te : TE} {σ : L2.St} {H : Hp} {env : Env'} {S : Sto} {ρ : List Addr} {B : Hp} {vs : List Nat} {Q : VK} {Dl : Addr}
    (hv : ∀ i ∈ slots g tg, i ∈ vs)
    (hs : ∀ {w : W} {S : Sto} {σ : L2.St} {ρ : List Addr} {B H : Hp} {P : Option V → Hp → Prop}, Sl K B ρ σ env → SR K ρ S B H → ∀ {v}, Rep K B ρ v w → Hold K (step w S) ρ B H (fun o S' ρ' B' H' => match o with
        | none => P none H'
        | some y => ∀ v', Rep K B' ρ' v' y → P (some v') H') ex → tgG K g tg v (wipe σ vs) H fun σ2 H2 => wipe σ2 vs = wipe σ vs ∧ tt σ2 H2 fun b H3 => if b = true then te σ2 H3 fun y H4 => P (some y) H4 else P none H3)
    (wk : WkF K H B ρ J items) (sl : Sl K B ρ σ env) (sr : SR K ρ S B H) (hD : H Dl = none) (h : Hold K (lcR fl step items.2 items.1 [] S) ρ B H (okE K Q) ex) :
    ∃ W : Nat → Nat → Hp → Prop, (∃ m, W 0 m (upd H Dl (.lst []))) ∧ ∀ i m H, W i m H →
      (J.stop i H ∧ Q (.ref Dl) H) ∨ (J.go i H ∧ ∃ Nx : Hp → Prop, (∀ H', Nx H' → ∃ m', m' < m ∧ W (i + 1) m' H') ∧ ∀ x H', J.yld i H x H' → tgG K g tg x (wipe σ vs) H' fun σ2 H2 => wipe σ2 vs = wipe σ vs ∧ tt σ2 H2 fun b H3 =>
        if b = true then te σ2 H3 fun y H4 => ∃ acc, H4 Dl = some (.lst acc) ∧ acc.length < sizeLine ∧ Nx (upd H4 Dl (.lst (acc ++ [y]))) else Nx H3) := by
  obtain ⟨G, Y, w, hG, hY⟩ := wk.wk
  refine lc_it w (fun i H' => ∃ S ρ1 B1 acc accV, Ext ρ B H ρ1 B1 H' ∧ SR K ρ1 S B1 H' ∧ H' Dl = some (.lst accV) ∧ Dl ∉ ρ1 ∧ B1 Dl = none ∧ RepL K B1 ρ1 accV acc ∧ Hold K (lcR fl step items.2 (items.1.drop i) acc S) ρ B H (okE K Q) ex) ?_ ?_ ?_ ?_
  · exact ⟨S, ρ, B, [], [], Ext.refl.side hD, sr.junk hD, upd_same, sr.notin hD, sr.same.free hD, .nil, h⟩
  · rintro i H' hi ⟨S, ρ1, B1, acc, accV, x, s, _, _, _, _, h⟩
    exact hG ρ1 S B1 H' x.frz x.b x.pre s (lcR_chk h)
  · rintro i x H1 H2 hi ⟨S, ρ1, B1, acc, accV, x1, s1, hd, hn, hb, ra, h⟩ y
    obtain ⟨B2, wi, e1, e2, s2, rx⟩ := hY i x H1 H2 ρ1 S B1 hi x1.b x1.pre s1 (lcR_chk h) y
    rw [drop_at e1] at h
    unfold lcR at h
    replace h := h.grd.2
    have x2 := x1.trans e2
    have hd2 := e2.frame _ _ hd (fun _ => rfl) hn
    have hb2 := e2.new _ _ hd hn hb
    have hn2 : Dl ∉ ρ := sr.notin hD
    have key := (h.bind0).ext x2
    refine hs (P := turnP Dl _) (sl.mono x2) s2 rx (key.imp (fun o S3 ρ3 B3 H3 x3 s3 k => ?_) fun _ _ _ _ _ _ z => z)
    have hnr : Dl ∉ ρ3 := by
      obtain ⟨m3, p3, q3⟩ := x3.p
      intro hm
      rw [p3] at hm
      rcases List.mem_append.mp hm with hm | hm
      · exact hn hm
      · rw [q3 _ hm] at hd2; cases hd2
    have hd3 := x3.frame _ _ hd2 (fun _ => rfl) hn
    have hb3 := x3.new _ _ hd2 hn hb2
    have ra3 := ra.mono (e2.trans x3).b (e2.trans x3).pre
    cases o with
    | none => exact ⟨S3, ρ3, B3, acc, accV, x2.trans x3, s3, hd3, hnr, hb3, ra3, k⟩
    | some y =>
      intro v' rv
      obtain ⟨k1, k2⟩ := k.grd
      refine ⟨accV, hd3, ?_, S3, ρ3, B3, acc ++ [y], accV ++ [v'], (x2.trans x3).side hD, s3.side hb3 hnr hd3, upd_same, hnr, hb3, ra3.append (.cons rv .nil), k2⟩
      rw [ra3.length]
      exact small_lt k1
  · rintro H' ⟨S, ρ1, B1, acc, accV, x, s, hd, hn, hb, ra, h⟩
    rw [List.drop_length] at h
    replace h := (show Hold K (guard' (items.2 S) (laidR fl acc S)) _ _ _ (okE K Q) ex from h).grd.2
    cases fl with
    | true => exact h (ρ1 ++ [Dl]) B1 H' (x.own hD) (s.own hn hb hd ra) _ (.ref (by rw [← s.len]; simp))
    | false =>
    refine h ρ1 (upd B1 Dl (.lst accV)) H' (x.keep hD hb) (s.keep hb hn hd) _ (.lst upd_same (ra.mono (fun c u q => ?_) ⟨[], by simp⟩))
    rw [upd_ne (ne_of_none q hb)]
    exact q
/-! ### a dict's comprehension -/
theorem dc_it {J : It} {n : Nat} {G : Hp → Prop} {Y : Nat → Hp → V → Hp → Prop} (w : Walk J n G Y) {g : TG} {tt : TT} {tk tv : TE} {vs : List Nat} {σ : L2.St} {H1 : Hp} {D : Addr} {Qd : Hp → Prop} (Pv : Nat → Hp → Prop) (h0 : Pv 0 (upd H1 D (.dK []))) (hG : ∀ i H, i ≤ n → Pv i H → G H)
    (hs : ∀ i x H H', i < n → Pv i H → Y i H x H' → g x (wipe σ vs) H' fun σ2 H2 => wipe σ2 vs = wipe σ vs ∧ tt σ2 H2 fun b H3 =>
      if b = true then tk σ2 H3 fun y H4 => tv σ2 H4 fun z H5 => ∃ kvs k, y = kV k ∧ H5 D = some (.dK kvs) ∧ kvs.length < sizeLine ∧ Pv (i + 1) (upd H5 D (.dK (putK kvs k z))) else Pv (i + 1) H3) (hd : ∀ H, Pv n H → Qd H) :
    ∃ W : Nat → Nat → Hp → Prop, (∃ m, W 0 m (upd H1 D (.dK []))) ∧ ∀ i m H, W i m H →
      (J.stop i H ∧ Qd H) ∨ (J.go i H ∧ ∃ Nx : Hp → Prop, (∀ H', Nx H' → ∃ m', m' < m ∧ W (i + 1) m' H') ∧ ∀ x H', J.yld i H x H' → g x (wipe σ vs) H' fun σ2 H2 => wipe σ2 vs = wipe σ vs ∧ tt σ2 H2 fun b H3 =>
        if b = true then tk σ2 H3 fun y H4 => tv σ2 H4 fun z H5 => ∃ kvs k, y = kV k ∧ H5 D = some (.dK kvs) ∧ kvs.length < sizeLine ∧ Nx (upd H5 D (.dK (putK kvs k z))) else Nx H3) := by
  refine ⟨fun i m H => m = n - i ∧ i ≤ n ∧ Pv i H, ⟨n, (Nat.sub_zero n).symm, Nat.zero_le _, h0⟩, ?_⟩
  intro i m H hw
  obtain ⟨em, hi, p⟩ := hw
  have g0 := hG i H hi p
  rcases Nat.lt_or_eq_of_le hi with lt | eq
  · exact .inr ⟨w.goes i H lt g0, Pv (i + 1), fun H' q => ⟨n - (i + 1), by omega, rfl, lt, q⟩, fun x H' y => hs i x H H' lt p (w.yields i H x H' lt g0 y)⟩
  · subst eq
    exact .inl ⟨w.stops H g0, hd H p⟩
def turnD (Dl : Addr) (PN : Hp → Prop) : Option (V × V) → Hp → Prop
  | none, H' => PN H'
  | some (y, z), H' => ∃ kvs k, y = kV k ∧ H' Dl = some (.dK kvs) ∧ kvs.length < sizeLine ∧ PN (upd H' Dl (.dK (putK kvs k z)))
theorem dcR_ok {K : PySem.W.Frag} {step : W → Sto → R (Option (W × W))} {tg : Expr} {items : Itm} {ex : Str → List (Str × W) → Env' → List Addr → Hp → Hp → Prop} {J : It} {tt : TT} {tk tv : TE} {σ : L2.St} {H : Hp} {env : Env'} {S : Sto} {ρ : List Addr} {B : Hp} {vs : List Nat} {Q : VK} {Dl : Addr}
    (hs : ∀ {w : W} {S : Sto} {σ : L2.St} {ρ : List Addr} {B H : Hp} {P : Option (V × V) → Hp → Prop}, Sl K B ρ σ env → SR K ρ S B H → ∀ {v}, Rep K B ρ v w → Hold K (step w S) ρ B H (fun o S' ρ' B' H' => match o with
        | none => P none H'
        | some (k, y) => ∀ v1 v2, Rep K B' ρ' v1 k → Rep K B' ρ' v2 y → P (some (v1, v2)) H') ex → tgG K g tg v (wipe σ vs) H fun σ2 H2 => wipe σ2 vs = wipe σ vs ∧ tt σ2 H2 fun b H3 => if b = true then tk σ2 H3 fun y H4 => tv σ2 H4 fun z H5 => P (some (y, z)) H5 else P none H3)
    (wk : WkF K H B ρ J items) (sl : Sl K B ρ σ env) (sr : SR K ρ S B H) (hD : H Dl = none) (h : Hold K (dcR step items.2 items.1 [] S) ρ B H (okE K Q) ex) :
    ∃ W : Nat → Nat → Hp → Prop, (∃ m, W 0 m (upd H Dl (.dK []))) ∧ ∀ i m H, W i m H →
      (J.stop i H ∧ Q (.ref Dl) H) ∨ (J.go i H ∧ ∃ Nx : Hp → Prop, (∀ H', Nx H' → ∃ m', m' < m ∧ W (i + 1) m' H') ∧ ∀ x H', J.yld i H x H' → tgG K g tg x (wipe σ vs) H' fun σ2 H2 => wipe σ2 vs = wipe σ vs ∧ tt σ2 H2 fun b H3 =>
        if b = true then tk σ2 H3 fun y H4 => tv σ2 H4 fun z H5 => ∃ kvs k, y = kV k ∧ H5 Dl = some (.dK kvs) ∧ kvs.length < sizeLine ∧ Nx (upd H5 Dl (.dK (putK kvs k z))) else Nx H3) := by
  obtain ⟨G, Y, w, hG, hY⟩ := wk.wk
  have chk : ∀ {ws : List W} {acc : List (Key × W)} {S : Sto}, Hold K (dcR step items.2 ws acc S) ρ B H (okE K Q) ex → items.2 S = true := fun {ws acc S} h => by
    cases ws with
    | nil => exact (show Hold K (guard' (items.2 S) (.ok (.dct acc) S)) ρ B H (okE K Q) ex from h).grd.1
    | cons w ws =>
      unfold dcR at h
      exact h.grd.1
  refine dc_it w (fun i H' => ∃ S ρ1 B1 acc accV, Ext ρ B H ρ1 B1 H' ∧ SR K ρ1 S B1 H' ∧ H' Dl = some (.dK accV) ∧ Dl ∉ ρ1 ∧ B1 Dl = none ∧ (accV.map Prod.fst = acc.map Prod.fst ∧ RepL K B1 ρ1 (accV.map Prod.snd) (acc.map Prod.snd)) ∧ Hold K (dcR step items.2 (items.1.drop i) acc S) ρ B H (okE K Q) ex) ?_ ?_ ?_ ?_
  · exact ⟨S, ρ, B, [], [], Ext.refl.side hD, sr.junk hD, upd_same, sr.notin hD, sr.same.free hD, ⟨rfl, .nil⟩, h⟩
  · rintro i H' _ ⟨S, ρ1, B1, acc, accV, x, s, _, _, _, _, h⟩
    exact hG ρ1 S B1 H' x.frz x.b x.pre s (chk h)
  · rintro i x H1 H2 hi ⟨S, ρ1, B1, acc, accV, x1, s1, hd, hn, hb, ra, h⟩ y
    obtain ⟨B2, wi, e1, e2, s2, rx⟩ := hY i x H1 H2 ρ1 S B1 hi x1.b x1.pre s1 (chk h) y
    rw [drop_at e1] at h
    unfold dcR at h
    replace h := h.grd.2
    have x2 := x1.trans e2
    have hd2 := e2.frame _ _ hd (fun _ => rfl) hn
    have hb2 := e2.new _ _ hd hn hb
    have key := (h.bind0).ext x2
    refine hs (P := turnD Dl _) (sl.mono x2) s2 rx (key.imp (fun o S3 ρ3 B3 H3 x3 s3 k => ?_) fun _ _ _ _ _ _ z => z)
    have hnr : Dl ∉ ρ3 := by
      obtain ⟨m3, p3, q3⟩ := x3.p
      intro hm
      rw [p3] at hm
      rcases List.mem_append.mp hm with hm | hm
      · exact hn hm
      · rw [q3 _ hm] at hd2; cases hd2
    have hd3 := x3.frame _ _ hd2 (fun _ => rfl) hn
    have hb3 := x3.new _ _ hd2 hn hb2
    have ra3 := ra.2.mono (e2.trans x3).b (e2.trans x3).pre
    cases o with
    | none => exact ⟨S3, ρ3, B3, acc, accV, x2.trans x3, s3, hd3, hnr, hb3, ⟨ra.1, ra3⟩, k⟩
    | some ky =>
      obtain ⟨kk, yy⟩ := ky
      intro v1 v2 r1 r2
      have k' : Hold K (match keyW kk with
        | some k => guard' (small (acc.length + 1)) (dcR step items.2 (items.1.drop (i + 1)) (storeK acc k yy) S3)
        | none => .bad) ρ B H (okE K Q) ex := k
      cases qk : keyW kk with
      | none => rw [qk] at k'; exact k'.elim
      | some key0 =>
        rw [qk] at k'
        obtain ⟨k1, k2⟩ := k'.grd
        have l1 := congrArg List.length ra.1
        simp only [List.length_map] at l1
        obtain ⟨z1, z2⟩ := store_kv (k := key0) r2 ra.1 ra3
        exact ⟨accV, key0, keyW_ok r1 qk, hd3, by rw [l1]; exact small_lt k1, S3, ρ3, B3, storeK acc key0 yy, putK accV key0 v2, (x2.trans x3).side hD, s3.side hb3 hnr hd3, upd_same, hnr, hb3, ⟨z1, z2⟩, k2⟩
  · rintro H' ⟨S, ρ1, B1, acc, accV, x, s, hd, hn, hb, ra, h⟩
    rw [List.drop_length] at h
    replace h := (show Hold K (guard' (items.2 S) (.ok (.dct acc) S)) _ _ _ (okE K Q) ex from h).grd.2
    refine h ρ1 (upd B1 Dl (.dK accV)) H' (x.keep hD hb) (s.keep hb hn hd) _ (.dct (.inl upd_same) ra.1 (ra.2.mono (fun c u q => ?_) ⟨[], by simp⟩))
    rw [upd_ne (ne_of_none q hb)]
    exact q
end
end Mi

set_option Elab.async false
set_option linter.all false
set_option maxRecDepth 100000
set_option maxHeartbeats 4000000
noncomputable section
/-! Ma7b: dicts as they are written. -/
namespace Mi
open PySem PySem.Spec PyProof.Rows L2
variable [Gam]
section
variable {K : PySem.W.Frag}
/-- what was laid becomes a cell, of any kind -/
theorem SR.ownO {ρ : List Addr} {S : Sto} {B H : Hp} {a : Addr} {o : HO} {so : SO} (s : SR K ρ S B H) (hn : a ∉ ρ) (hb : B a = none) (ha : H a = some o) (r : RepO K B ρ o so) : SR K (ρ ++ [a]) (S ++ [so]) B H := by
  refine ⟨s.same, by simp [s.len], ?_, fun i c so' e1 e2 => ?_, s.tb, s.nb⟩
  · rw [List.nodup_append]
    refine ⟨s.nd, by simp, fun x hx y hy e => ?_⟩
    rw [List.mem_singleton.mp hy] at e
    rw [e] at hx
    exact hn hx
  · by_cases hi : i < ρ.length
    · rw [List.getElem?_append_left hi] at e1
      rw [List.getElem?_append_left (by rw [← s.len]; exact hi)] at e2
      exact (s.cell i c so' e1 e2).mono (Same.refl B) ⟨[a], rfl⟩ (fun n => n) (fun u hu => hu)
    · have hl : i = ρ.length := by
        have z := (List.getElem?_eq_some_iff.mp e1).1
        simp at z
        omega
      subst hl
      simp at e1
      rw [s.len] at e2
      simp at e2
      subst e1
      subst e2
      exact Cel.mk hb ha (r.mono (Same.refl B) ⟨[a], rfl⟩)
/-- something laid ahead, to be filled behind what is reckoned in between: not held meanwhile -/
theorem Ext.ahead {ρ ρ1 : List Addr} {S : Sto} {B B1 H H1 : Hp} {p : Addr} {o : HO} (s : SR K ρ S B H) (h : H p = none) (e : Ext ρ B (upd H p o) ρ1 B1 H1) (po : notTbl o = true := by rfl) : Ext ρ B H ρ1 B1 H1 ∧ H1 p = some o ∧ B1 p = none ∧ p ∉ ρ1 := by
  have hn := s.notin h
  have hb : B p = none := s.same.free h
  refine ⟨(Ext.junk h).trans e, e.frame p o upd_same (fun _ => po) hn, e.new p o upd_same hn hb, fun hm => ?_⟩
  obtain ⟨m, em, hm'⟩ := e.p
  rw [em] at hm
  rcases List.mem_append.mp hm with z | z
  · exact hn z
  · have q := hm' p z
    rw [upd_same] at q
    cases q
end
section
variable {pg : Pg} {cl : Str → List W → Sto → R W} {E : Evs} {g : Gm} {Wx : WX} {X : Cx}
def prs (X : Cx) : List (Option Expr) → List Expr → List (TE × TE)
  | some k :: ks, v :: vs => (wE X k, wE X v) :: prs X ks vs
  | _, _ => []
theorem pps_ok {pos : Pos} : ∀ {ks : List (Option Expr)} {vs : List Expr}, ks.all (·.isSome) = true → ks.length = vs.length → PPs X pos ks vs (prs X ks vs)
  | [], [], _, _ => pps_nil
  | [], _ :: _, _, h => by cases h
  | _ :: _, [], _, h => by cases h
  | none :: ks, v :: vs, h, _ => by cases h
  | some k :: ks, v :: vs, h, hl => pps_cons pwE pwE (pps_ok (by simpa using h) (by simpa using hl))
def okP (K : PySem.W.Frag) (Q : List (V × V) → Hp → Prop) : List (Key × W) → Sto → List Addr → Hp → Hp → Prop := fun ps _ ρ' B' H' => ∀ kv : List (Key × V), kv.map Prod.fst = ps.map Prod.fst → RepL K B' ρ' (kv.map Prod.snd) (ps.map Prod.snd) → Q (kv.map fun p => (kV p.1, p.2)) H'
theorem pairR_ok (hE : EvOk pg cl E) (C : CxOk pg cl g Wx X) {env : Env'} {σ : L2.St} : ∀ {ks : List (Option Expr)} {vs : List Expr} {S : Sto} {ρ : List Addr} {B H : Hp} {Q : List (V × V) → Hp → Prop}, Sl X.K B ρ σ env → SR X.K ρ S B H →
    Hold X.K (pairR (fun e S => E.e g env S e) ks vs S) ρ B H (okP X.K Q) (ExP X.K X.mg Wx) → tPairs (prs X ks vs) σ H Q
  | [], [], S, ρ, B, H, Q, sl, sr, h => h.here sr [] rfl .nil
  | [], _ :: _, S, ρ, B, H, Q, sl, sr, h => h.elim
  | none :: _, [], S, ρ, B, H, Q, sl, sr, h => h.elim
  | none :: _, _ :: _, S, ρ, B, H, Q, sl, sr, h => h.elim
  | some _ :: _, [], S, ρ, B, H, Q, sl, sr, h => h.elim
  | some k :: ks, v :: vs, S, ρ, B, H, Q, sl, sr, h => by
    show wE X k σ H _
    refine hE.e' C sl sr h fun w S1 ρ1 B1 H1 x x1 s1 sl1 r1 q1 => ?_
    show wE X v σ H1 _
    refine hE.e' C sl1 s1 q1 fun w2 S2 ρ2 B2 H2 y x2 s2 sl2 r2 q2 => ?_
    cases qk : keyW w with
    | none => rw [qk] at q2; exact q2.elim
    | some kk =>
      rw [qk] at q2
      have ek := keyW_ok r1 qk
      subst ek
      refine pairR_ok hE C sl2 s2 (q2.bind.imp (fun ps S3 ρ3 B3 H3 x3 s3 q3 kv e r => ?_) fun _ _ _ _ _ _ z => z)
      exact q3.here s3 ((kk, y) :: kv) (by rw [List.map_cons, List.map_cons, e]) (.cons (r2.mono x3.b x3.pre) r)
theorem disp_ok (hE : EvOk pg cl E) (C : CxOk pg cl g Wx X) {ks : List (Option Expr)} {vs : List Expr} {pos : Pos} {env : Env'} {S : Sto} {σ : L2.St} {ρ : List Addr} {B H : Hp} {Q : VK} {f : List (Key × W) → Sto → R W} (sl : Sl X.K B ρ σ env) (sr : SR X.K ρ S B H) (h0 : ks ≠ []) (hg : dispG ks vs = true)
    (h : Hold X.K ((pairR (fun e S => E.e g env S e) ks vs S).bind fun ps S1 => guard' (decide (ps.length ≤ 15)) (f ps S1)) ρ B H (okE X.K Q) (ExP X.K X.mg Wx))
    (fin : ∀ (ps : List (Key × W)) S1 ρ1 B1 H1 p (kv : List (Key × V)), Ext ρ B H ρ1 B1 H1 → SR X.K ρ1 S1 B1 H1 → H p = none → H1 p = some (.dK []) → B1 p = none → p ∉ ρ1 → kv.map Prod.fst = (mergeW [] ps).map Prod.fst → RepL X.K B1 ρ1 (kv.map Prod.snd) ((mergeW [] ps).map Prod.snd) → Hold X.K (f ps S1) ρ B H (okE X.K Q) (ExP X.K X.mg Wx) → Q (.ref p) (upd H1 p (.dK kv))) :
    wE X (.Dict ks vs pos) σ H Q := by
  unfold dispG at hg
  rw [Bool.and_eq_true, Bool.and_eq_true] at hg
  obtain ⟨g1, g2, g3⟩ := hg
  refine wE_of (pe_disp (pps_ok g1 (of_decide_eq_true g2)) g1 (of_decide_eq_true g2) h0 (of_decide_eq_true g3)) fun p hp => ?_
  have sj : SR X.K ρ S B (upd H p (.dK [])) := sr.junk hp
  have ej : Ext ρ B H ρ B (upd H p (.dK [])) := Ext.junk hp
  refine pairR_ok hE C (sl.mono ej) sj ((h.bind0.ext ej).imp (fun ps S1 ρ1 B1 H1 x1 s1 q1 kv e r => ?_) fun _ _ _ _ _ _ z => z)
  obtain ⟨k1, k2⟩ := q1.grd
  obtain ⟨a1, a2, a3, a4⟩ := Ext.ahead sr hp x1
  have hl : kv.length ≤ 15 := by
    have z := congrArg List.length e
    rw [List.length_map, List.length_map] at z
    rw [z]
    exact of_decide_eq_true k1
  obtain ⟨z1, z2⟩ := merge_rep (kv := []) (ks := []) e r rfl .nil
  exact ⟨a2, kv, rfl, hl, fin ps S1 ρ1 B1 H1 p _ a1 s1 hp a2 a3 a4 z1 z2 k2⟩
theorem dispE_ok (hE : EvOk pg cl E) (C : CxOk pg cl g Wx X) {ks : List (Option Expr)} {vs : List Expr} {pos : Pos} {env : Env'} {S : Sto} {σ : L2.St} {ρ : List Addr} {B H : Hp} {Q : VK} (sl : Sl X.K B ρ σ env) (sr : SR X.K ρ S B H) (h0 : ks ≠ []) (hg : dispG ks vs = true)
    (h : Hold X.K ((pairR (fun e S => E.e g env S e) ks vs S).bind fun ps S1 => guard' (decide (ps.length ≤ 15)) (.ok (.dct (mergeW [] ps)) S1)) ρ B H (okE X.K Q) (ExP X.K X.mg Wx)) : wE X (.Dict ks vs pos) σ H Q := by
  refine disp_ok hE C sl sr h0 hg h fun ps S1 ρ1 B1 H1 p kv x1 s1 hp hq hb hn e r k => ?_
  exact k _ _ _ ((x1.side hp).keep hp hb) ((s1.side hb hn hq).keep hb hn upd_same) _ (.dct (.inl upd_same) e (r.mono (fun c u q => by rw [upd_ne (ne_of_none q hb)]; exact q) ⟨[], by simp⟩))
theorem dispC_ok (hE : EvOk pg cl E) (C : CxOk pg cl g Wx X) {ks : List (Option Expr)} {vs : List Expr} {pos : Pos} {env : Env'} {S : Sto} {σ : L2.St} {ρ : List Addr} {B H : Hp} {Q : VK} (sl : Sl X.K B ρ σ env) (sr : SR X.K ρ S B H) (h0 : ks ≠ []) (hg : dispG ks vs = true)
    (h : Hold X.K ((pairR (fun e S => E.e g env S e) ks vs S).bind fun ps S1 => guard' (decide (ps.length ≤ 15)) (.ok (.ref S1.length) (S1 ++ [SO.dct (mergeW [] ps)]))) ρ B H (okE X.K Q) (ExP X.K X.mg Wx)) : wE X (.Dict ks vs pos) σ H Q := by
  refine disp_ok hE C sl sr h0 hg h fun ps S1 ρ1 B1 H1 p kv x1 s1 hp hq hb hn e r k => ?_
  exact k _ _ _ ((x1.side hp).own hp) ((s1.side hb hn hq).ownO hn hb upd_same (.dct e r)) _ (.ref (by rw [← s1.len]; simp))
end
end Mi

set_option Elab.async false
set_option linter.all false
set_option maxRecDepth 100000
set_option maxHeartbeats 4000000
/-! Mi8: one step deeper is right. -/
noncomputable section
namespace Mi
open PySem PySem.Spec PyProof.Rows L2
variable [Gam]
section
variable {pg : Pg} {cl : Str → List W → Sto → R W} {E : Evs} {g : Gm} {Wx : WX} {X : Cx}
def tPt (X : Cx) : Option Expr → TO
  | none => tNoPart
  | some e => tPart (wE X e)
theorem poT {o : Option Expr} : PO X o (tPt X o) := by
  cases o with
  | none => exact po_none
  | some e => exact po_some pwE
theorem partR_ok (hE : EvOk pg cl E) (C : CxOk pg cl g Wx X) {β : Type} {o : Option Expr} {env : Env'} {S : Sto} {σ : L2.St} {ρ : List Addr} {B H : Hp} {Q : Option Int → Hp → Prop} {f : Option Int → Sto → R β} {ok : β → Sto → List Addr → Hp → Hp → Prop} (sl : Sl X.K B ρ σ env) (sr : SR X.K ρ S B H)
    (hd : Hold X.K ((stepE0.partR E g env S o).bind f) ρ B H ok (ExP X.K X.mg Wx)) (k : ∀ w S' ρ' B' H', Ext ρ B H ρ' B' H' → SR X.K ρ' S' B' H' → Sl X.K B' ρ' σ env → Hold X.K (f w S') ρ' B' H' ok (ExP X.K X.mg Wx) → Q w H') : tPt X o σ H Q := by
  cases o with
  | none => exact k none S ρ B H Ext.refl sr sl hd
  | some e =>
    unfold stepE0.partR at hd
    refine hE.e' C sl sr hd.bind fun w S1 ρ1 B1 H1 v x s1 sl1 r q => ?_
    cases w with
    | int i =>
      cases r
      exact ⟨i, rfl, k (some i) S1 ρ1 B1 H1 x s1 sl1 (q.here s1)⟩
    | _ => exact q.elim
theorem plain_ix {i : Expr} (h : plainIx i = true) : PlainIx i := by
  intro o k
  cases i <;> first | rfl | cases h
theorem not_set {i : Expr} {env : Env} (h : notSet i = true) : ∀ x, foldedSetIterable i env x = pure x := by
  intro x
  cases i <;> first | rfl | cases h
theorem names_slots {g : Gm} {N : List Str} (hN : g.N = N) {tg : Expr} (h : tgOk g tg = true) : ∀ i ∈ slots g tg, i ∈ (ownOf N tg).map (·.2) := by
  subst hN
  have one : ∀ {x : Str} {p : Pos}, nameOk g (.Name x p) = true → ∃ j, slotOf g.N x = some j := fun h => by
    unfold nameOk at h
    rw [Bool.and_eq_true] at h
    exact Option.isSome_iff_exists.mp h.2
  intro i hi
  cases tg with
  | Name x p =>
    obtain ⟨j, hj⟩ := one (p := p) h
    have e : i = j := by
      have z := List.mem_singleton.mp (show i ∈ [(slotOf g.N x).getD 0] from hi)
      rw [hj] at z
      exact z
    subst e
    unfold ownOf tgNames
    simp [hj]
  | Tuple es k p =>
    obtain ⟨e, he, hi⟩ := List.mem_filterMap.mp (show i ∈ es.filterMap (fun | .Name x _ => some ((slotOf g.N x).getD 0) | _ => none) from hi)
    cases e with
    | Name x q =>
      have z := List.all_eq_true.mp (show es.all (nameOk g) = true from h) _ he
      obtain ⟨j, hj⟩ := one (p := q) z
      have e : i = j := by
        have y : (slotOf g.N x).getD 0 = i := Option.some.inj hi
        rw [hj] at y
        exact y.symm
      subst e
      refine List.mem_map.mpr ⟨(x, i), ?_, rfl⟩
      unfold ownOf tgNames
      refine List.mem_filterMap.mpr ⟨x, List.mem_filterMap.mpr ⟨_, he, rfl⟩, by rw [hj]; rfl⟩
    | _ => cases hi
  | _ => cases hi
theorem Hold.noExc {K : PySem.W.Frag} {α : Type} {r : R α} {ρ : List Addr} {B H : Hp} {ok : α → Sto → List Addr → Hp → Hp → Prop} {ex ex' : Str → List (Str × W) → Env' → List Addr → Hp → Hp → Prop} (h : Hold K (noExc r) ρ B H ok ex) : Hold K r ρ B H ok ex' := by
  cases r with
  | ok a S => exact h
  | exc c fs e S => exact h.elim
  | bad => exact h
def ttOf (X : Cx) (scope : Scope) : List Expr → TT
  | [] => tYes
  | c :: _ => wTb X scope c
theorem pts_of {scope : Scope} {ifs : List Expr} (h : ifs.length ≤ 1) (s0 : Shared) (H0 : Hp) (Ca : Addr) (cs : List (Str × Addr)) (fp : List Addr) : PTs (X.blk s0 H0 scope (compEnvC scope cs Ca X.env) fp) ifs (ttOf X scope ifs) := by
  cases ifs with
  | nil => exact pts_nil
  | cons c r =>
    cases r with
    | nil => exact pts_one ⟨fun pins s σ' H' Q' I q => q s0 H0 Ca cs fp pins s I⟩
    | cons _ _ => simp at h
theorem lcTurn_ok (hE : EvOk pg cl E) (C : CxOk pg cl g Wx X) {elt tg : Expr} {ifs : List Expr} {scope : Scope} {env : Env'} (g3 : tgOk (blkG g scope) tg = true) (g4 : decide (ifs.length ≤ 1) = true) {w : W} {S : Sto} {σ' : L2.St} {ρ' : List Addr} {B' H' : Hp} {P : Option V → Hp → Prop}
    (sl' : Sl X.K B' ρ' σ' env) (sr' : SR X.K ρ' S B' H') {v : V} (rv : Rep X.K B' ρ' v w) (hk : Hold X.K (lcStep E g env elt tg ifs scope w S) ρ' B' H' (fun o S' ρ' B' H' => match o with
        | none => P none H'
        | some y => ∀ v', Rep X.K B' ρ' v' y → P (some v') H') (ExP X.K X.mg Wx)) :
    tgG X.K (blkG g scope) tg v (wipe σ' ((ownOf g.N tg).map (·.2))) H' fun σ2 H2 => wipe σ2 ((ownOf g.N tg).map (·.2)) = wipe σ' ((ownOf g.N tg).map (·.2)) ∧ (ttOf X scope ifs) σ2 H2 fun b H3 => if b = true then (wEb X scope elt) σ2 H3 fun y H4 => P (some y) H4 else P none H3 := by
  have gm : (blkG g scope).N = g.N := rfl
  unfold lcStep at hk
  cases q : bindT (blkG g scope) tg w (wipeE env ((ownOf g.N tg).map (·.2))) with
  | none => rw [q] at hk; exact hk.elim
  | some env1 =>
    rw [q] at hk
    refine bindT_ok sr' (sl'.wipe _) rv q fun σ2 sl2 hw => ⟨?_, ?_⟩
    · rw [hw _ (names_slots gm g3)]
      exact wipe_wipe
    · cases ifs with
      | nil =>
        exact (show wEb X scope elt σ2 H' _ from fun s0 H0 Ca cs fp => hE.e (cx_blk C scope s0 H0 Ca cs fp) sl2 sr' (hk.bind.noExc.imp (fun y S2 ρ2 B2 H2 x2 s2 k2 v' rv' => k2.here s2 v' rv') fun _ _ _ _ _ _ z => z))
      | cons c rest =>
        cases rest with
        | cons _ _ =>
          have z := of_decide_eq_true g4
          simp at z
        | nil =>
          refine (show wTb X scope c σ2 H' _ from fun s0 H0 Ca cs fp => hE.t (cx_blk C scope s0 H0 Ca cs fp) sl2 sr' (hk.bind.noExc.imp (fun b S2 ρ2 B2 H2 x2 s2 k2 => ?_) fun _ _ _ _ _ _ z => z))
          cases b with
          | false => exact (show P none H2 from k2.here s2)
          | true => exact (show wEb X scope elt σ2 H2 _ from fun s0 H0 Ca cs fp => hE.e (cx_blk C scope s0 H0 Ca cs fp) (sl2.mono x2) s2 (k2.bind.noExc.imp (fun y S2 ρ2 B2 H2 x2 s2 k2 v' rv' => k2.here s2 v' rv') fun _ _ _ _ _ _ z => z))
/-- a comprehension, its parts -/
theorem lcE_ok (hE : EvOk pg cl E) (C : CxOk pg cl g Wx X) {fl : Bool} {elt tg iter : Expr} {ifs : List Expr} {scope : Scope} {env : Env'} {S : Sto} {σ : L2.St} {ρ : List Addr} {B H : Hp} {Q : VK} (sl : Sl X.K B ρ σ env) (sr : SR X.K ρ S B H)
    (h : Hold X.K (lcE pg E g env S fl elt tg iter ifs scope) ρ B H (okE X.K Q) (ExP X.K X.mg Wx)) :
    tLc (wI X tg iter) (tgG X.K (blkG g scope) tg) (ttOf X scope ifs) (wEb X scope elt) ((ownOf g.N tg).map (·.2)) σ H Q ∧ notSet iter = true ∧ BlkOk X.N X.env.scope scope (ownOf g.N tg) ∧ tgOk (blkG g scope) tg = true ∧ ifs.length ≤ 1 := by
  obtain ⟨h1, h2⟩ := (show Hold X.K (guard' (lcG g tg iter ifs scope) ((evIter pg g (fun e S => E.e g env S e) tg iter S).bind fun items S1 => lcR fl (lcStep E g env elt tg ifs scope) items.2 items.1 [] S1)) ρ B H (okE X.K Q) (ExP X.K X.mg Wx) from h).grd
  unfold lcG at h1
  rw [Bool.and_eq_true, Bool.and_eq_true, Bool.and_eq_true] at h1
  obtain ⟨⟨⟨g1, g2⟩, g3⟩, g4⟩ := h1
  have gm : (blkG g scope).N = g.N := rfl
  have bk : BlkOk X.N X.env.scope scope (ownOf g.N tg) := by
    rw [C.N, C.sc]
    exact blkOk_by g2
  refine ⟨?_, g1, bk, g3, of_decide_eq_true g4⟩
  refine evIter_ok hE C sl sr (h2.bind.imp (fun items S1 ρ1 B1 H1 x1 s1 k J wk D hD => ?_) fun _ _ _ _ _ _ z => z)
  exact lcR_ok (names_slots gm g3) (fun {w S σ' ρ' B' H' P} sl' sr' v rv hk => lcTurn_ok hE C g3 g4 sl' sr' rv hk) wk.f (sl.mono x1) s1 hD k

/-! ### objects -/
theorem objS_ok {K : PySem.W.Frag} {ρ : List Addr} {S : Sto} {B H : Hp} {v : V} {w : W} {c : Str} {fs : List (Str × W)} (s : SR K ρ S B H) (r : Rep K B ρ v w) (e : objS S w = some (c, fs)) :
    ∃ a C dx fv, v = .ref a ∧ H a = some (.ins C dx fv) ∧ Gam.cls c = some C ∧ fv.map Prod.fst = fs.map Prod.fst ∧ RepL K B ρ (fv.map Prod.snd) (fs.map Prod.snd) := by
  cases r with
  | obj hc h e0 rr =>
    cases e
    exact ⟨_, _, _, _, rfl, s.same _ _ h, hc, e0, rr⟩
  | @ref n a h =>
    unfold objS at e
    cases q : S[n]? with
    | none => simp only [q] at e; cases e
    | some o =>
      simp only [q] at e
      cases o with
      | ins c' fs' =>
        cases e
        obtain ⟨u, hu, ro⟩ := s.at h q
        cases ro with
        | ins hc e0 rr => exact ⟨_, _, _, _, rfl, hu, hc, e0, rr⟩
      | _ => cases e
  | _ => cases e
theorem look_ok {K : PySem.W.Frag} {ρ : List Addr} {B : Hp} {f : Str} : ∀ {fv : List (Str × V)} {fs : List (Str × W)}, fv.map Prod.fst = fs.map Prod.fst → RepL K B ρ (fv.map Prod.snd) (fs.map Prod.snd) →
    (∀ w, fs.lookup f = some w → ∃ v, fv.lookup f = some v ∧ Rep K B ρ v w) ∧ (fs.lookup f = none → fv.lookup f = none)
  | [], [], _, _ => ⟨fun w h => by (cases h), fun _ => rfl⟩
  | [], _ :: _, e, _ => by cases e
  | _ :: _, [], e, _ => by cases e
  | (x, v) :: fv, (y, w) :: fs, e, r => by
    injection e with e1 e2
    have e1 : x = y := e1
    subst e1
    cases r with
    | cons r1 r2 =>
      obtain ⟨h1, h2⟩ := look_ok (f := f) e2 r2
      rw [List.lookup_cons, List.lookup_cons]
      cases f == x with
      | true => exact ⟨fun w' h => by cases h; exact ⟨v, rfl, r1⟩, fun h => by cases h⟩
      | false => exact ⟨h1, h2⟩
theorem put_ok {K : PySem.W.Frag} {ρ : List Addr} {B : Hp} {f : Str} {y : V} {u : W} (ry : Rep K B ρ y u) : ∀ {fv : List (Str × V)} {fs : List (Str × W)}, fv.map Prod.fst = fs.map Prod.fst → RepL K B ρ (fv.map Prod.snd) (fs.map Prod.snd) →
    (putF f y fv).map Prod.fst = (putW f u fs).map Prod.fst ∧ RepL K B ρ ((putF f y fv).map Prod.snd) ((putW f u fs).map Prod.snd)
  | [], [], _, _ => ⟨rfl, .cons ry .nil⟩
  | [], _ :: _, e, _ => by cases e
  | _ :: _, [], e, _ => by cases e
  | (x, v) :: fv, (z, w) :: fs, e, r => by
    injection e with e1 e2
    have e1 : x = z := e1
    subst e1
    cases r with
    | cons r1 r2 =>
      obtain ⟨h1, h2⟩ := put_ok (f := f) ry e2 r2
      unfold putF putW
      by_cases h : x = f
      · rw [if_pos h, if_pos h]
        exact ⟨by simp only [List.map_cons]; rw [e2], .cons ry r2⟩
      · rw [if_neg h, if_neg h]
        exact ⟨by simp only [List.map_cons]; rw [h1], .cons r1 h2⟩
theorem own_meth {o : Expr} {m : Str} {env : Env} {as : List Expr} {apos pos : Pos} (h : ownB o = true) (hs : ∀ e ∈ as, notStar e = true) (hn : as.length < 30) (hl : (apos.endLine == pos.line) = true) : ∃ pl : Sem Bool, eval (.Call (.Attribute o m apos) as [] pos) env = (do
      let recv ← eval o env
      standAt apos.atName
      let (g, own) ← holding [recv] (getMethod recv m pl)
      callWith pos g own (backTo pos (starEach as env)) (backToKw pos (keywordEach [] env))) := by
  have few : methodCallForm (as.length + ([] : List Keyword).length) (backTo pos (starEach as env)) (backToKw pos (keywordEach [] env)) = true := by
    unfold methodCallForm
    have h1 : (backTo pos (starEach as env)).all (fun x => !x.1) = true := by
      rw [← List.not_any_eq_all_not, stars_no hs]
      rfl
    rw [h1]
    show (true && true && decide (as.length + 0 + 0 < 30)) = true
    rw [decide_eq_true (by omega)]
    rfl
  refine ⟨do return (← importBound o env).getD true, ?_⟩
  have e1 : eval (.Call (.Attribute o m apos) as [] pos) env = (do
      let ov ← attributeBase o m env (eval o env)
      standAt apos.atName
      methodCall o m apos pos env ov (as.length + ([] : List Keyword).length) (backTo pos (starEach as env)) (backToKw pos (keywordEach [] env))) := rfl
  rw [e1, own_base h]
  unfold methodCall methodCallPos calleeOf
  rw [few, hl]
  rfl
theorem back_ok {ρ : List Addr} {B H : Hp} {ok : W → Sto → List Addr → Hp → Hp → Prop} {env : Env'} {σ : L2.St} {r : R W} (sl : Sl X.K B ρ σ env) (h : Hold X.K (back env r) ρ B H ok (ExP X.K X.mg Wx)) :
    Hold X.K r ρ B H ok (fun c fs _ ρ' B' H' => ∀ C d fv, X.mg c = some (.ref C) → H' d = some (.xd fv) → RepF X.K B' ρ' fv fs → WE Wx σ (.ref C) (some d) H') := by
  cases r with
  | bad => exact h.elim
  | ok w S2 => exact h
  | exc c fs en S2 => exact fun ρ' B' H' x s C' d fv mc hd rf => h ρ' B' H' x s σ C' d fv (sl.mono x) mc hd rf
theorem mkR_ok {ρ : List Addr} {B H : Hp} {S : Sto} {Q : VK} {env : Env'} {σ : L2.St} {c : Str} {Ca a dx : Addr} {fz : Bool} {r : R W} (sl : Sl X.K B ρ σ env) (s : SR X.K ρ S B H) (hc : Gam.cls c = some Ca) (h1 : H a = none) (h2 : H dx = none) (hne : dx ≠ a)
    (h : Hold X.K (mkR env S.length c fz r) ρ B H (okE X.K Q) (ExP X.K X.mg Wx)) :
    SR X.K (ρ ++ [a]) (S ++ [SO.ins c []]) B (upd (upd H dx (.own a)) a (.ins Ca dx [])) ∧ Rep X.K B (ρ ++ [a]) (.ref a) (.ref S.length) ∧ Ext ρ B H (ρ ++ [a]) B (upd (upd H dx (.own a)) a (.ins Ca dx [])) ∧
    Hold X.K r (ρ ++ [a]) B (upd (upd H dx (.own a)) a (.ins Ca dx [])) (fun w S' ρ' B' H' => ∀ v, Rep X.K B' ρ' v w → v = .non ∧ Q (.ref a) H')
      (fun c fs _ ρ' B' H' => ∀ C d fv, X.mg c = some (.ref C) → H' d = some (.xd fv) → RepF X.K B' ρ' fv fs → WE Wx σ (.ref C) (some d) H') := by
  have h1' : upd H dx (.own a) a = none := by rw [upd_ne (Ne.symm hne)]; exact h1
  have x1 : Ext ρ B H ρ B (upd H dx (.own a)) := Ext.junk h2
  have x2 : Ext ρ B (upd H dx (.own a)) (ρ ++ [a]) B (upd (upd H dx (.own a)) a (.ins Ca dx [])) := Ext.cell h1'
  have s2 := (s.junk (o := .own a) h2).newCell (so := SO.ins c []) h1' (RepO.ins (dx := dx) (fv := []) hc rfl .nil)
  refine ⟨s2, .ref (by rw [← s.len]; simp), x1.trans x2, ?_⟩
  have hx := x1.trans x2
  unfold mkR at h
  have ra : ∀ {ρ' : List Addr} {B' H' : Hp}, Ext (ρ ++ [a]) B (upd (upd H dx (.own a)) a (.ins Ca dx [])) ρ' B' H' → Rep X.K B' ρ' (.ref a) (.ref S.length) := fun x => .ref (pre_get x.pre (by rw [← s.len]; simp))
  cases r with
  | bad => exact h.elim
  | exc c fs en S2 => exact fun ρ' B' H' x s' C' d fv mc hd rf => (show ExP X.K X.mg Wx c fs env ρ' B' H' from h ρ' B' H' (hx.trans x) s') σ C' d fv (sl.mono (hx.trans x)) mc hd rf
  | ok w S2 =>
    intro ρ' B' H' x s' v rv
    cases w with
    | non =>
      cases rv
      refine ⟨rfl, ?_⟩
      cases fz with
      | false => exact (show Hold X.K (R.ok (.ref S.length) S2) ρ B H (okE X.K Q) (ExP X.K X.mg Wx) from h) ρ' B' H' (hx.trans x) s' _ (ra x)
      | true => exact exitW_ok (hx.trans x) s' (ra x) s.len (show Hold X.K (exitW S.length (.ref S.length) S2) ρ B H (okE X.K Q) (ExP X.K X.mg Wx) from h)
    | _ => exact False.elim h
/-! ### isinstance -/
theorem tyW_ok {K : PySem.W.Frag} {ρ : List Addr} {S : Sto} {B H : Hp} {v : V} {w : W} {c : Str} {u : Value} (s : SR K ρ S B H) (r : Rep K B ρ v w) (e : tyW S w = some c) (t : TyN K c u) : TyX K H v u := by
  have own : ∀ {c' : Str} {C a dx : Addr} {fv : List (Str × V)}, ownC c' = some c → Gam.cls c' = some C → H a = some (.ins C dx fv) → TyX K H (.ref a) u := fun {c' C a dx fv} h1 h2 h3 => by
    unfold ownC at h1
    split at h1
    · cases h1
    · rename_i hb
      cases h1
      unfold TyN at t
      rw [hb] at t
      obtain ⟨C2, h4, h5, h6⟩ := t
      cases h2.symm.trans h4
      rw [h5]
      exact .base (.ins h3 h6.cl h6.ha h6.hn h6.htk h6.hm)
  cases r with
  | non => cases e; cases (show u = .type "NoneType" from t); exact .base .non
  | bl b => cases e; cases (show u = .type "bool" from t); exact .base (.bl b)
  | int b => cases e; cases (show u = .type "int" from t); exact .base (.int b)
  | str b => cases e; cases (show u = .type "str" from t); exact .base (.str b)
  | tup h q =>
    cases e
    cases (show u = .type "tuple" from t)
    rcases Same.tup s.same h with (h | ⟨o, h⟩) | ⟨o, its, n, h1, h2, h3⟩
    · exact .base (.tup h)
    · exact .fTuple h
    · exact .kTuple h1 h2
  | lst h q => cases e; cases (show u = .type "list" from t); exact .base (.lst (s.same _ _ h))
  | frl h q _ => cases e
  | obj hc h e0 q => exact own e hc (s.same _ _ h)
  | dct h e0 q =>
    cases e
    cases (show u = .type "dict" from t)
    rcases Same.rd s.same h with h | ⟨o, h⟩
    · exact .base (.dK h)
    · exact .fDict h
  | @ref n a h =>
    unfold tyW at e
    cases q : S[n]? with
    | none => simp only [q] at e; cases e
    | some o =>
      simp only [q] at e
      cases o with
      | imd ks =>
        cases e
        cases (show u = .type "dict" from t)
        obtain ⟨kv, h1, e0, rr⟩ := s.cell n a _ h q
        rcases Same.rd s.same h1 with h | ⟨o, h⟩
        · exact .base (.dK h)
        · exact .fDict h
      | lck ks =>
        cases e
        cases (show u = .type "dict" from t)
        obtain ⟨_, o, kv, h1, e0, rr⟩ := s.cell n a _ h q
        exact .fDict h1
      | kd ks vs => cases e
      | lst ws =>
        obtain ⟨x, hx, ro⟩ := s.at h q
        cases ro with
        | lst rr => cases e; cases (show u = .type "list" from t); exact .base (.lst hx)
      | dct ks =>
        obtain ⟨x, hx, ro⟩ := s.at h q
        cases ro with
        | dct e0 rr => cases e; cases (show u = .type "dict" from t); exact .base (.dK hx)
      | ins c' fs =>
        obtain ⟨x, hx, ro⟩ := s.at h q
        cases ro with
        | ins hc e0 rr => exact own e hc hx
theorem TyN.uniq {K : PySem.W.Frag} {c : Str} {u u' : Value} (h : TyN K c u) (h' : TyN K c u') : u = u' := by
  unfold TyN at h h'
  split at h
  · rename_i n q
    rw [q] at h'
    exact h.trans h'.symm
  · rename_i q
    rw [q] at h'
    obtain ⟨C, h1, h2, _⟩ := h
    obtain ⟨C', h3, h4, _⟩ := h'
    cases h1.symm.trans h3
    exact h2.trans h4.symm
theorem names_ok (C : CxOk pg cl g Wx X) {ty : Str} {u : Value} (tn : TyN X.K ty u) : ∀ {ts : List Expr} {ns : List Str} {b : Bool} {σ : L2.St} {H : Hp}, ts.all (isNameG g) = true → namesOf ts = some ns → isiAny pg ty ns = some b →
    ∃ (cs : List V) (us : List Value), cs.length = ts.length ∧ Paired ClsV cs us ∧ PySem.W.kitAny X.K u us = some b ∧ ∀ {P : List V → Hp → Prop}, P cs H → wA X ts σ H P
  | [], ns, b, σ, H, _, h2, h3 => by
    cases h2
    cases h3
    exact ⟨[], [], rfl, .nil, rfl, fun p => wA_of pa_nil p⟩
  | e :: ts, ns, b, σ, H, h1, h2, h3 => by
    rw [List.all_cons, Bool.and_eq_true] at h1
    cases e with
    | Name x p =>
      obtain ⟨g1, g2⟩ := Bool.and_eq_true_iff.mp (show (gloB g.sc x && !odd x) = true from h1.1)
      have no := odd_no g2
      have h2' : (match nameOf (.Name x p), namesOf ts with
        | some x, some xs => some (x :: xs)
        | _, _ => none) = some ns := h2
      cases q : namesOf ts with
      | none => rw [q] at h2'; cases h2'
      | some xs =>
        rw [q] at h2'
        cases h2'
        have h3' : (match pg.isi ty x, isiAny pg ty xs with
          | some b1, some b2 => some (b1 || b2)
          | _, _ => none) = some b := h3
        cases q1 : pg.isi ty x with
        | none => rw [q1] at h3'; cases h3'
        | some b1 =>
          cases q2 : isiAny pg ty xs with
          | none => rw [q1, q2] at h3'; cases h3'
          | some b2 =>
            rw [q1, q2] at h3'
            cases h3'
            obtain ⟨u', cv, tn', kit, hcv⟩ := C.isi ty x b1 q1
            cases tn.uniq tn'
            obtain ⟨cs, us, l, pr, ka, k⟩ := names_ok C tn (σ := σ) (H := H) h1.2 q q2
            have ka' : PySem.W.kitAny X.K u (cv :: us) = some (b1 || b2) := by
              unfold PySem.W.kitAny
              rw [kit]
              cases b1 with
              | true => rfl
              | false => exact ka
            rcases hcv with ⟨Ct, m3, rfl⟩ | ⟨m3, T, hb, rfl⟩
            · exact ⟨.ref Ct :: cs, _, by simp [l], .cons (.own _) pr, ka', fun p => wA_of (pa_cons (pe_glob (glo_okB C g1) m3 (v := .ref Ct) rfl no.1) pwA) (by exact (show wA X ts σ H _ from k p))⟩
            · exact ⟨.ty T :: cs, _, by simp [l], .cons (.ty _) pr, ka', fun p => wA_of (pa_cons (pe_bltn (glo_okB C g1) m3 hb (v := .ty T) rfl no.2.2 no.1) pwA) (by exact (show wA X ts σ H _ from k p))⟩
    | _ => cases h1.1
/-! ### d.get(k, x) -/
theorem dget_ok (hE : EvOk pg cl E) (C : CxOk pg cl g Wx X) {o e1 e2 : Expr} {m : Str} {apos pos : Pos} {env : Env'} {S S1 : Sto} {σ : L2.St} {ρ : List Addr} {B H : Hp} {Q : VK} {w : W} (g1 : ownB o = true) (ns1 : notStar e1 = true) (ns2 : notStar e2 = true) (g4 : (apos.endLine == pos.line) = true)
    (sl : Sl X.K B ρ σ env) (sr : SR X.K ρ S B H) (q : E.e g env S o = .ok w S1)
    (h : Hold X.K (guard' (decide (m = "get") && (seqD S1 w).isSome) ((E.e g env S1 e1).bind fun k S2 => (E.e g env S2 e2).bind fun d S3 => (match keyW k, seqD S3 w with
      | some kk, some ks => .ok ((findK ks kk).getD d) S3
      | _, _ => .bad))) ρ B H (okE X.K Q) (ExP X.K X.mg Wx)) : wE X (.Call (.Attribute o m apos) [e1, e2] [] pos) σ H Q := by
  obtain ⟨h1, h2⟩ := h.grd
  rw [Bool.and_eq_true] at h1
  have em : m = "get" := of_decide_eq_true h1.1
  subst em
  obtain ⟨ks1, hk1⟩ := Option.isSome_iff_exists.mp h1.2
  have st1 : starEach [e1, e2] X.env = (false, eval e1 X.env) :: starEach [e2] X.env := star_no ns1
  have st2 : starEach [e2] X.env = (false, eval e2 X.env) :: starEach [] X.env := star_no ns2
  have tr : backTo pos (starEach [e1, e2] X.env) = [(false, eval e1 X.env), (false, eval e2 X.env)] := by
    rw [st1, st2]
    rfl
  refine wE_of (pe_dget2 (by have := C.un; omega) pwE pwE pwE ⟨own_base g1 _, by rw [tr]; rfl, g4, tr⟩) ?_
  refine (show wE X o σ H _ from hE.e C sl sr ?_)
  rw [q]
  intro ρ1 B1 H1 x1 s1 v rv
  obtain ⟨a, kv1, rfl, d1, _, _⟩ := seqD_ok s1 rv hk1
  refine ⟨a, rfl, .inl ⟨kv1, d1⟩, (show wE X e1 σ H1 _ from hE.e' C (sl.mono x1) s1 (h2.ext x1) fun k S2 ρ2 B2 H2 y x2 s2 sl2 r2 k2 => ?_)⟩
  refine (show wE X e2 σ H2 _ from hE.e' C sl2 s2 k2 fun d S3 ρ3 B3 H3 z x3 s3 sl3 r3 k3 => ?_)
  cases qk : keyW k with
  | none => rw [qk] at k3; exact k3.elim
  | some kk =>
    cases qd : seqD S3 w with
    | none => rw [qk, qd] at k3; exact k3.elim
    | some ks =>
      rw [qk, qd] at k3
      replace k3 : Hold X.K (R.ok ((findK ks kk).getD d) S3) ρ3 B3 H3 (okE X.K Q) (ExP X.K X.mg Wx) := k3
      cases keyW_ok r2 qk
      obtain ⟨a', kv, ea, d3, e3, r4⟩ := seqD_ok s3 ((rv.mono x2.b x2.pre).mono x3.b x3.pre) qd
      cases ea
      refine ⟨_, .inl ⟨kv, kk, d3, rfl, rfl⟩, ?_⟩
      obtain ⟨f1, f2⟩ := find_ok (k := kk) e3 r4
      cases qf : findK ks kk with
      | none =>
        rw [qf] at f2 k3
        have n : valV kv kk = none := by
          cases z : valV kv kk with
          | none => rfl
          | some _ => rw [z] at f2; cases f2
        rw [n]
        exact k3.here s3 _ r3
      | some u =>
        rw [qf] at k3
        obtain ⟨v', hv, rv'⟩ := f1 u qf
        rw [hv]
        exact k3.here s3 _ rv'
/-! ### texts' methods -/
theorem strMeth_ok (hE : EvOk pg cl E) (C : CxOk pg cl g Wx X) {o e1 : Expr} {m : Str} {apos pos : Pos} {env : Env'} {S S1 : Sto} {σ : L2.St} {ρ : List Addr} {B H : Hp} {Q : VK} {z : Str} (g1 : ownB o = true) (ns : notStar e1 = true) (g4 : (apos.endLine == pos.line) = true)
    (sl : Sl X.K B ρ σ env) (sr : SR X.K ρ S B H) (q : E.e g env S o = .ok (.str z) S1) (h : Hold X.K (guard' (isStrM m) ((E.e g env S1 e1).bind fun y S2 => lift (bmStr S2 m z y) S2)) ρ B H (okE X.K Q) (ExP X.K X.mg Wx)) : wE X (.Call (.Attribute o m apos) [e1] [] pos) σ H Q := by
  obtain ⟨hm, h⟩ := h.grd
  have go : ∀ {r : V → List V → Hp → VK → Prop}, (∀ S2 ρ2 B2 H2 v w y, SR X.K ρ2 S2 B2 H2 → Rep X.K B2 ρ2 v y → bmStr S2 m z y = some w → Val X.K w S2 Q ρ2 B2 H2 → r (.str z) [v] H2 Q) → tM1 r (wE X o) (wE X e1) σ H Q := fun {r} k => by
    refine (show wE X o σ H _ from hE.e C sl sr ?_)
    rw [q]
    intro ρ1 B1 H1 x1 s1 v rv
    cases rv
    refine ⟨⟨z, rfl⟩, (show wE X e1 σ H1 _ from hE.e' C (sl.mono x1) s1 (h.ext x1) fun y S2 ρ2 B2 H2 v2 x2 s2 sl2 r2 k2 => ?_)⟩
    obtain ⟨w, e, k3⟩ := k2.lift
    exact k S2 ρ2 B2 H2 v2 w y s2 r2 e fun ρ' B' H' v' x s r => k3 ρ' B' H' x s v' r
  have st : starEach [e1] X.env = [(false, eval e1 X.env)] := star_no ns
  by_cases m1 : m = "split"
  · subst m1
    refine wE_of (pe_m1 PySem.F.slot_str_split PySem.F.type_str_split mt_split pwE pwE st (own_base g1 _) g4) (go fun S2 ρ2 B2 H2 v w y s r e k => ?_)
    unfold bmStr at e
    rw [if_pos rfl] at e
    split at e
    · rename_i b
      split at e
      · rename_i hh
        rw [Bool.and_eq_true] at hh
        cases e
        cases r
        rw [txtSplit_eq] at k
        exact ⟨z, b, rfl, rfl, by simpa using hh.1, small_line hh.2, fun p hp => k.newL s (repL_strs _) hp⟩
      · cases e
    · cases e
  by_cases m2 : m = "find"
  · subst m2
    refine wE_of (pe_m1 PySem.F.slot_str_find PySem.F.type_str_find mt_find pwE pwE st (own_base g1 _) g4) (go fun S2 ρ2 B2 H2 v w y s r e k => ?_)
    unfold bmStr at e
    rw [if_neg m1, if_pos rfl] at e
    split at e
    · cases e
      cases r
      rw [txtFind_eq] at k
      exact ⟨z, _, rfl, rfl, k.here s (.int _)⟩
    · cases e
  by_cases m3 : m = "startswith"
  · subst m3
    refine wE_of (pe_m1 PySem.F.slot_str_startswith PySem.F.type_str_startswith mt_startswith pwE pwE st (own_base g1 _) g4) (go fun S2 ρ2 B2 H2 v w y s r e k => ?_)
    unfold bmStr at e
    rw [if_neg m1, if_neg m2, if_pos rfl] at e
    split at e
    · cases e
      cases r
      exact ⟨z, _, rfl, rfl, k.here s (.bl _)⟩
    · cases e
  by_cases m4 : m = "join"
  · subst m4
    refine wE_of (pe_m1 PySem.F.slot_str_join PySem.F.type_str_join mt_join pwE pwE st (own_base g1 _) g4) (go fun S2 ρ2 B2 H2 v w y s r e k => ?_)
    unfold bmStr at e
    rw [if_neg m1, if_neg m2, if_neg m3, if_pos rfl] at e
    split at e
    · rename_i ws hw
      split at e
      · rename_i ys hy
        split at e
        · rename_i hl
          cases e
          cases q1 : seqL S2 y with
          | some ws' =>
            rw [q1] at hw
            cases hw
            obtain ⟨a, xs, rfl, h1, h2⟩ := seqL_ok s r q1
            cases strsW_ok h2 hy
            rw [joinF_eq] at k
            exact ⟨z, a, ys, rfl, rfl, .inl h1, hl, k.here s (.str _)⟩
          | none =>
            rw [q1] at hw
            obtain ⟨a, xs, rfl, h1, h2⟩ := seqT_ok s r (show seqT y = some ws from hw)
            cases strsW_ok h2 hy
            rw [joinF_eq] at k
            exact ⟨z, a, ys, rfl, rfl, .inr h1, hl, k.here s (.str _)⟩
        · cases e
      · cases e
    · cases e
  unfold isStrM at hm
  rw [decide_eq_false m1, decide_eq_false m2, decide_eq_false m3, decide_eq_false m4] at hm
  cases hm
/-! ### walks of dicts -/
theorem pathN_ok (C : CxOk pg cl g Wx X) {x : Str} {p : Pos} {env : Env'} {σ : L2.St} {ρ : List Addr} {B : Hp} {w : W} (sl : Sl X.K B ρ σ env) (h : pathN g env x = some w) : ∃ i v, σ[i]? = some (some v) ∧ Rep X.K B ρ v w ∧ PE X (.Name x p) (tVar i) := by
  unfold pathN at h
  split at h
  · rename_i hc
    obtain ⟨o1, o2, o3⟩ := odd_no hc.1
    split at h
    · rename_i i hi
      split at h
      · rename_i w' hw
        cases h
        obtain ⟨v, e1, r⟩ := sl.at_ i w hw
        exact ⟨i, v, e1, r, pe_var (by rw [C.N]; exact slotOf_get hi) (vis_ok C hc.2) o1 o2⟩
      · cases h
    · cases h
  · cases h
/-- what a walk's lock leaves -/
def Kp (H H' : Hp) : Prop := (∀ a Ca dx fv, H a = some (.ins Ca dx fv) → H' a = some (.ins Ca dx fv)) ∧ ∀ a kv, L2.Rd H a (.dK kv) → L2.Rd H' a (.dK kv)
theorem path_ok (C : CxOk pg cl g Wx X) {e : Expr} {env : Env'} {S : Sto} {σ : L2.St} {ρ : List Addr} {B H : Hp} {w : W} (sl : Sl X.K B ρ σ env) (sr : SR X.K ρ S B H) (h : pathW pg g env S e = some w) :
    ∃ v, Rep X.K B ρ v w ∧ ∀ {H' : Hp}, Kp H H' → ∀ {Q : VK}, Q v H' → wE X e σ H' Q := by
  unfold pathW at h
  split at h
  · rename_i x p
    obtain ⟨i, v, e1, r, pe⟩ := pathN_ok C (p := p) sl h
    exact ⟨v, r, fun {H'} _ {Q} q => wE_of pe ⟨v, e1, q⟩⟩
  · rename_i x p f p2
    split at h
    · rename_i w0 hw
      obtain ⟨i, v0, e1, r0, pe⟩ := pathN_ok C (p := p) sl hw
      split at h
      · rename_i c fs ho
        split at h
        · rename_i hf
          obtain ⟨a, Ca, dx, fv, rfl, ha, hc, e0, rr⟩ := objS_ok sr r0 ho
          obtain ⟨C2, hc2, cl2, na⟩ := C.flds c f hf
          cases hc.symm.trans hc2
          obtain ⟨v, hl, rv⟩ := (look_ok e0 rr).1 _ h
          exact ⟨v, rv, fun {H'} keep {Q} q => wE_of (pe_fld pe (own_base (o := .Name x p) rfl _)) ⟨_, e1, a, _, dx, fv, v, rfl, keep.1 _ _ _ _ ha, cl2, na, hl, q⟩⟩
        · cases h
      · cases h
    · cases h
  · rename_i x p k cc cp sp
    split at h
    · rename_i w0 hw
      obtain ⟨i, v0, e1, r0, pe⟩ := pathN_ok C (p := p) sl hw
      split at h
      · rename_i ks hk
        obtain ⟨a, kv, rfl, h1, e0, rr⟩ := seqD_ok sr r0 hk
        obtain ⟨v, hv, rv⟩ := (find_ok (k := .inr k) e0 rr).1 _ h
        exact ⟨v, rv, fun {H'} keep {Q} q => wE_of (pe_dget (by have := C.un; omega) pe pe_str (fun _ _ => rfl)) ⟨_, e1, a, v, rfl, .inl ⟨kv, .inr k, keep.2 _ _ h1, rfl, hv.symm⟩, q⟩⟩
      · cases h
    · cases h
  · cases h
theorem dictAt_ok {K : PySem.W.Frag} {ρ : List Addr} {S S1 : Sto} {B H : Hp} {v : V} {w : W} {ks : List (Key × W)} (s : SR K ρ S B H) (r : Rep K B ρ v w) (e : dictAt S w = some (ks, S1)) (hl : liveD S w = none) :
    ∃ d kv, v = .ref d ∧ S1 = S ∧ (B d = some (.dK kv) ∨ ∃ o, H d = some (.frz o (.dK kv))) ∧ kv.map Prod.fst = ks.map Prod.fst ∧ RepL K B ρ (kv.map Prod.snd) (ks.map Prod.snd) := by
  have two : ∀ {d : Addr} {kv : List (Key × V)}, L2.Rd B d (.dK kv) → B d = some (.dK kv) ∨ ∃ o, H d = some (.frz o (.dK kv)) := fun h => by
    rcases h with h | ⟨o, h⟩
    · exact .inl h
    · exact .inr ⟨o, s.same _ _ h⟩
  cases r with
  | dct h e0 rr => cases e; exact ⟨_, _, rfl, rfl, two h, e0, rr⟩
  | @ref n a h =>
    unfold dictAt at e
    unfold liveD at hl
    cases q : S[n]? with
    | none => simp only [q] at e; cases e
    | some o =>
      simp only [q] at e hl
      cases o with
      | imd ks' =>
        cases e
        obtain ⟨kv, h1, e0, rr⟩ := s.cell n a _ h q
        exact ⟨a, kv, rfl, rfl, two h1, e0, rr⟩
      | lck ks' =>
        cases e
        obtain ⟨_, o, kv, h1, e0, rr⟩ := s.cell n a _ h q
        exact ⟨a, kv, rfl, rfl, .inr ⟨o, h1⟩, e0, rr⟩
      | dct ks' => cases hl
      | _ => cases e
  | _ => cases e
theorem dictAt_live {K : PySem.W.Frag} {ρ : List Addr} {S S1 : Sto} {B H : Hp} {v : V} {w : W} {ks : List (Key × W)} {n : Nat} (s : SR K ρ S B H) (r : Rep K B ρ v w) (e : dictAt S w = some (ks, S1)) (hl : liveD S w = some n) :
    ∃ d kv, v = .ref d ∧ S1 = S.set n (.lck ks) ∧ ρ[n]? = some d ∧ B d = none ∧ H d = some (.dK kv) ∧ kv.map Prod.fst = ks.map Prod.fst ∧ RepL K B ρ (kv.map Prod.snd) (ks.map Prod.snd) := by
  cases r with
  | @ref n' a h =>
    unfold dictAt at e
    unfold liveD at hl
    cases q : S[n']? with
    | none => simp only [q] at e; cases e
    | some o =>
      simp only [q] at e hl
      cases o with
      | dct ks' =>
        cases e
        cases hl
        obtain ⟨hb, u, hu, ro⟩ := s.cell n a _ h q
        cases ro with
        | @dct kv _ e0 rr => exact ⟨a, kv, rfl, rfl, h, hb, hu, e0, rr⟩
      | _ => cases hl
  | _ => cases hl
/-- what walks the locked dict -/
theorem dI_ok {tg iter p : Expr} {k : Nat} {σ : L2.St} {ρ : List Addr} {B H : Hp} {d : Addr} {o : Obj} {kv : List (Key × V)} {ks : List (Key × W)} {R' : It → Hp → Prop} (hw : walkOf iter = (p, k)) (ht : ¬ (k = 2 ∧ isTupE tg = false)) (own : ownB p = true)
    (hd : H d = some (.frz o (.dK kv))) (e : kv.map Prod.fst = ks.map Prod.fst) (r : RepL X.K B ρ (kv.map Prod.snd) (ks.map Prod.snd)) (hp : ∀ {Q : VK}, Q (.ref d) H → wE X p σ H Q) (hR : ∀ J, WkF X.K H B ρ J (still (itemsOf ks k)) → R' J H) : wI X tg iter σ H R' := by
  unfold walkOf at hw
  split at hw
  · rename_i p' m ap cp
    split at hw
    · rename_i hl
      split at hw
      · rename_i hm
        cases hw
        subst hm
        exact wI_of (pi_values pwE (own_base own _) hl) (hp ⟨d, o, kv, rfl, hd, hR _ (wk_vals hd e r)⟩)
      · split at hw
        · rename_i hm
          cases hw
          subst hm
          cases tg with
          | Tuple es kk tp => exact wI_of (pi_items pwE (own_base own _) hl) (hp ⟨d, o, kv, rfl, hd, hR _ (wk_items hd e r)⟩)
          | _ => exact absurd ⟨rfl, rfl⟩ ht
        · cases hw
          exact wI_of (pi_keys pwE) (hp ⟨d, o, rfl, .inl ⟨kv, hd, hR _ (wk_keys hd e)⟩⟩)
    · cases hw
      exact wI_of (pi_keys pwE) (hp ⟨d, o, rfl, .inl ⟨kv, hd, hR _ (wk_keys hd e)⟩⟩)
  · cases hw
    exact wI_of (pi_keys pwE) (hp ⟨d, o, rfl, .inl ⟨kv, hd, hR _ (wk_keys hd e)⟩⟩)
theorem kp_rd {H : Hp} {d : Addr} {kv : List (Key × V)} {u u' : HO} (hd : H d = some u) (i : Is kv u) (i' : Is kv u') : ∀ a kv', L2.Rd H a (.dK kv') → L2.Rd (upd H d u') a (.dK kv') := fun a kv' r => by
  by_cases h : a = d
  · subst h
    rw [rd_one i hd r]
    exact i'.rd upd_same
  · rcases r with r | ⟨o, r⟩
    · exact .inl (by rw [upd_ne h]; exact r)
    · exact .inr ⟨o, by rw [upd_ne h]; exact r⟩
theorem path_own {e : Expr} {env : Env'} {S : Sto} {w : W} (h : pathW pg g env S e = some w) : ownB e = true := by
  unfold pathW at h
  split at h <;> first | rfl | cases h
/-- a comprehension over a dict -/
theorem lcD_ok (hE : EvOk pg cl E) (C : CxOk pg cl g Wx X) {elt tg iter : Expr} {ifs : List Expr} {scope : Scope} {pos : Pos} {env : Env'} {S S1 : Sto} {items : List W} {σ : L2.St} {ρ : List Addr} {B H : Hp} {Q : VK} (sl : Sl X.K B ρ σ env) (sr : SR X.K ρ S B H)
    (hdw : dWalk pg g env S tg iter = some (items, S1)) (g1 : notSet iter = true) (bk : BlkOk X.N X.env.scope scope (ownOf g.N tg)) (g3 : tgOk (blkG g scope) tg = true) (g4 : decide (ifs.length ≤ 1) = true)
    (h : Hold X.K (match dFlag pg g env S iter with
      | some n => unlR n (noExc (lcR false (lcStep E g env elt tg ifs scope) (fun _ => true) items [] S1))
      | none => noExc (lcR false (lcStep E g env elt tg ifs scope) (fun _ => true) items [] S1)) ρ B H (okE X.K Q) (ExP X.K X.mg Wx)) : wE X (.ListComp elt [⟨tg, iter, ifs, 0⟩] scope pos) σ H Q := by
  unfold dWalk at hdw
  cases qw : walkOf iter with
  | mk p k =>
    rw [qw] at hdw
    cases qp : pathW pg g env S p with
    | none => simp only [qp] at hdw; cases hdw
    | some w =>
      simp only [qp] at hdw
      have qf : dFlag pg g env S iter = liveD S w := by
        unfold dFlag
        rw [qw]
        simp only [qp]
      rw [qf] at h
      cases qd : dictAt S w with
      | none => simp only [qd] at hdw; cases hdw
      | some z =>
        obtain ⟨ks, S1'⟩ := z
        simp only [qd] at hdw
        split at hdw
        · cases hdw
        · rename_i ht
          cases hdw
          obtain ⟨v, rv, hp⟩ := path_ok C sl sr qp
          have core : ∀ {d : Addr} {kv : List (Key × V)} {B2 H2 : Hp} {o : Obj} {Q2 : VK}, v = .ref d → H2 d = some (.frz o (.dK kv)) → kv.map Prod.fst = ks.map Prod.fst → Sl X.K B2 ρ σ env → SR X.K ρ S1 B2 H2 → RepL X.K B2 ρ (kv.map Prod.snd) (ks.map Prod.snd) → Kp H H2 →
              Hold X.K (lcR false (lcStep E g env elt tg ifs scope) (fun _ => true) (itemsOf ks k) [] S1) ρ B2 H2 (okE X.K Q2) (ExP X.K X.mg Wx) → wE X (.ListComp elt [⟨tg, iter, ifs, 0⟩] scope pos) σ H2 Q2 := by
            intro d kv B2 H2 o Q2 ev hd2 e0 sl2 s2 rr2 keep hh
            subst ev
            have t : tLc (wI X tg iter) (tgG X.K (blkG g scope) tg) (ttOf X scope ifs) (wEb X scope elt) ((ownOf g.N tg).map (·.2)) σ H2 Q2 := by
              refine dI_ok qw ht (path_own qp) hd2 e0 rr2 (fun {Q} q => hp keep q) fun J wk D hD => ?_
              exact lcR_ok (items := still (itemsOf ks k)) (names_slots rfl g3) (fun {w S σ' ρ' B' H' P} sl' sr' v rv hk => lcTurn_ok hE C g3 g4 sl' sr' rv hk) wk sl2 s2 hD hh
            exact wE_of (pe_lc C.calm C.nd pwI bk (fun s0 H0 Ca cs fp => pg_tg (cx_blk C scope s0 H0 Ca cs fp) g3) (pts_of (of_decide_eq_true g4)) (fun s0 H0 Ca cs fp => ⟨fun pins s σ' H' Q' I q => q s0 H0 Ca cs fp pins s I⟩) (not_set g1)) t
          have keep2 : ∀ {d : Addr} {kv : List (Key × V)} {od : Obj}, H d = some (.dK kv) → Kp H (upd H d (.frz od (.dK kv))) := fun {d kv od} hd => ⟨fun a Ca dx fv z => by
            have hne : a ≠ d := fun e => by rw [e, hd] at z; cases z
            rw [upd_ne hne]
            exact z, kp_rd hd (.inl rfl) (.inr ⟨_, rfl⟩)⟩
          have plain : ∀ {r : R W} {ex : Str → List (Str × W) → Env' → List Addr → Hp → Hp → Prop}, Hold X.K (noExc r) ρ B H (okE X.K Q) ex → Hold X.K r ρ B H (okE X.K Q) (ExP X.K X.mg Wx) := fun {r ex} h1 => by
            cases r with
            | bad => exact h1.elim
            | exc c fs en S2 => exact h1.elim
            | ok w2 S2 => exact h1
          cases ql : liveD S w with
          | none =>
            rw [ql] at h
            replace h := (show Hold X.K (noExc (lcR false (lcStep E g env elt tg ifs scope) (fun _ => true) (itemsOf ks k) [] S1)) ρ B H (okE X.K Q) (ExP X.K X.mg Wx) from h)
            obtain ⟨d, kv, ev, eS, rd, e0, rr⟩ := dictAt_ok sr rv qd ql
            subst eS
            rcases rd with hb | ⟨o, hd⟩
            · have hd : H d = some (.dK kv) := sr.same _ _ hb
              refine wE_of (pe_lock pwE) ⟨d, .dK kv, hd, trivial, fun od => ?_⟩
              have i : Is kv (.dK kv) := .inl rfl
              have i' : Is kv (.frz od (.dK kv)) := .inr ⟨od, rfl⟩
              refine (show wE X _ σ (upd H d (.frz od (.dK kv))) _ from core ev upd_same e0 (sl.swap hb i i') (sr.swap hb i i') (rr.swap hb i i') (keep2 hd) ((h.lock hb hd i i' (ex' := ExP X.K X.mg Wx)).imp (fun w S' ρ' B' H' x s' q v r => ?_) fun _ _ _ _ _ _ z => z))
              exact ⟨q.2.1, q.2.2 v (r.swap q.1 i' i)⟩
            · exact core ev hd e0 sl sr rr ⟨fun _ _ _ _ z => z, fun _ _ z => z⟩ (plain h)
          | some n =>
            rw [ql] at h
            replace h := (show Hold X.K (unlR n (noExc (lcR false (lcStep E g env elt tg ifs scope) (fun _ => true) (itemsOf ks k) [] S1))) ρ B H (okE X.K Q) (ExP X.K X.mg Wx) from h)
            obtain ⟨d, kv, ev, eS, hn, hb, hd, e0, rr⟩ := dictAt_live sr rv qd ql
            subst eS
            refine wE_of (pe_lock pwE) ⟨d, .dK kv, hd, trivial, fun od => ?_⟩
            have z := Hold.lockL (od := od) h hn hd
            have z2 : Hold X.K (lcR false (lcStep E g env elt tg ifs scope) (fun _ => true) (itemsOf ks k) [] (S.set n (.lck ks))) ρ B (upd H d (.frz od (.dK kv))) (fun a S' ρ' B' H' => H' d = some (.frz od (.dK kv)) ∧ ∃ S2, okE X.K Q a S2 ρ' B' (upd H' d (.dK kv))) (ExP X.K X.mg Wx) := by
              cases qr : lcR false (lcStep E g env elt tg ifs scope) (fun _ => true) (itemsOf ks k) [] (S.set n (.lck ks)) with
              | bad => rw [qr] at z; exact z.elim
              | exc c fs en S2 => rw [qr] at z; exact z.elim
              | ok w2 S2 => rw [qr] at z; exact z
            refine (show wE X _ σ (upd H d (.frz od (.dK kv))) _ from core ev upd_same e0 sl (sr.lockL hn hb hd e0 rr) rr (keep2 hd) (z2.imp (fun w S' ρ' B' H' x s' q v r => ?_) fun _ _ _ _ _ _ z => z))
            obtain ⟨q1, S2, q2⟩ := q
            exact ⟨q1, q2 v r⟩
/-- a dict's comprehension, its parts -/
theorem dcE_ok (hE : EvOk pg cl E) (C : CxOk pg cl g Wx X) {kx vx tg iter : Expr} {ifs : List Expr} {scope : Scope} {pos : Pos} {env : Env'} {S : Sto} {σ : L2.St} {ρ : List Addr} {B H : Hp} {Q : VK} (sl : Sl X.K B ρ σ env) (sr : SR X.K ρ S B H)
    (h : Hold X.K (stepE0 pg cl E g env S (.DictComp kx vx [⟨tg, iter, ifs, 0⟩] scope pos)) ρ B H (okE X.K Q) (ExP X.K X.mg Wx)) :
    tDc (wI X tg iter) (tgG X.K (blkG g scope) tg) (ttOf X scope ifs) (wEb X scope kx) (wEb X scope vx) ((ownOf g.N tg).map (·.2)) σ H Q ∧ notSet iter = true ∧ BlkOk X.N X.env.scope scope (ownOf g.N tg) ∧ tgOk (blkG g scope) tg = true ∧ ifs.length ≤ 1 := by
  unfold stepE0 at h
  obtain ⟨h1, h2⟩ := h.grd
  rw [Bool.and_eq_true, Bool.and_eq_true, Bool.and_eq_true] at h1
  obtain ⟨⟨⟨g1, g2⟩, g3⟩, g4⟩ := h1
  have gm : (blkG g scope).N = g.N := rfl
  have bk : BlkOk X.N X.env.scope scope (ownOf g.N tg) := by
    rw [C.N, C.sc]
    exact blkOk_by g2
  refine ⟨?_, g1, bk, g3, of_decide_eq_true g4⟩
  refine evIter_ok hE C sl sr (h2.bind.imp (fun items S1 ρ1 B1 H1 x1 s1 k J wk D hD => ?_) fun _ _ _ _ _ _ z => z)
  refine dcR_ok (fun {w S σ' ρ' B' H' P} sl' sr' v rv hk => ?_) wk.f (sl.mono x1) s1 hD k
  cases q : bindT (blkG g scope) tg w (wipeE env ((ownOf g.N tg).map (·.2))) with
  | none => rw [q] at hk; exact hk.elim
  | some env1 =>
    rw [q] at hk
    have two : ∀ {σ2 : L2.St} {ρ2 : List Addr} {S2 : Sto} {B2 H2 : Hp}, Sl X.K B2 ρ2 σ2 env1 → SR X.K ρ2 S2 B2 H2 → Hold X.K ((noExc (E.e (blkG g scope) env1 S2 kx)).bind fun k S3 => (noExc (E.e (blkG g scope) env1 S3 vx)).bind fun y S4 => R.ok (some (k, y)) S4) ρ2 B2 H2 (fun o S' ρ' B' H' => match o with
        | none => P none H'
        | some (k, y) => ∀ v1 v2, Rep X.K B' ρ' v1 k → Rep X.K B' ρ' v2 y → P (some (v1, v2)) H') (ExP X.K X.mg Wx) → wEb X scope kx σ2 H2 fun y H4 => wEb X scope vx σ2 H4 fun z H5 => P (some (y, z)) H5 := by
      intro σ2 ρ2 S2 B2 H2 sl2 s2 hh s0 H0 Ca cs fp
      refine hE.e (cx_blk C scope s0 H0 Ca cs fp) sl2 s2 (hh.bind.noExc.imp (fun k S3 ρ3 B3 H3 x3 s3 k3 v1 r1 => ?_) fun _ _ _ _ _ _ z => z)
      intro s0' H0' Ca' cs' fp'
      refine hE.e (cx_blk C scope s0' H0' Ca' cs' fp') (sl2.mono x3) s3 (k3.bind.noExc.imp (fun y S4 ρ4 B4 H4 x4 s4 k4 v2 r2 => ?_) fun _ _ _ _ _ _ z => z)
      exact k4.here s4 v1 v2 (r1.mono x4.b x4.pre) r2
    refine bindT_ok sr' (sl'.wipe _) rv q fun σ2 sl2 hw => ⟨?_, ?_⟩
    · rw [hw _ (names_slots gm g3)]
      exact wipe_wipe
    · cases ifs with
      | nil => exact two sl2 sr' hk
      | cons c rest =>
        cases rest with
        | cons _ _ =>
          have z := of_decide_eq_true g4
          simp at z
        | nil =>
          refine (show wTb X scope c σ2 H' _ from fun s0 H0 Ca cs fp => hE.t (cx_blk C scope s0 H0 Ca cs fp) sl2 sr' (hk.bind.noExc.imp (fun b S2 ρ2 B2 H2 x2 s2 k2 => ?_) fun _ _ _ _ _ _ z => z))
          cases b with
          | false => exact (show P none H2 from k2.here s2)
          | true => exact two (sl2.mono x2) s2 k2
theorem stepE0_ok (hE : EvOk pg cl E) (C : CxOk pg cl g Wx X) {e : Expr} {env : Env'} {S : Sto} {σ : L2.St} {ρ : List Addr} {B H : Hp} {Q : VK} (sl : Sl X.K B ρ σ env) (sr : SR X.K ρ S B H)
    (h : Hold X.K (stepE0 pg cl E g env S e) ρ B H (okE X.K Q) (ExP X.K X.mg Wx)) : wE X e σ H Q := by
  unfold stepE0 at h
  split at h
  · exact nameE_ok C sl sr h
  · split at h
    · exact wE_of pe_int (h.here sr _ (.int _))
    · exact wE_of pe_bl (h.here sr _ (.bl _))
    · exact wE_of pe_non (h.here sr _ .non)
    · exact wE_of pe_str (h.here sr _ (.str _))
    · exact h.elim
  · refine wE_of (pe_tup pwA) (mapS_bind hE C sl sr h fun ws S1 ρ1 B1 H1 vs x s1 sl1 r k => ?_)
    obtain ⟨k1, k2⟩ := k.grd
    exact ⟨by rw [r.length]; exact small_line k1, fun p hp => k2.val.newT s1 r hp⟩
  · refine wE_of (pe_lst pwA) (mapS_bind hE C sl sr h fun ws S1 ρ1 B1 H1 vs x s1 sl1 r k => ?_)
    obtain ⟨k1, k2⟩ := k.grd
    exact ⟨by rw [r.length]; exact small_line k1, fun p hp => k2.val.newL s1 r hp⟩
  · refine wE_of (pe_op opW_r pwE pwE) (hE.e' C sl sr h fun w S1 ρ1 B1 H1 v x1 s1 sl1 r1 k1 => hE.e' C sl1 s1 k1 fun w2 S2 ρ2 B2 H2 v2 x2 s2 sl2 r2 k2 => ?_)
    obtain ⟨c, e, k3⟩ := k2.lift
    exact binop_ok s2 (r1.mono x2.b x2.pre) r2 e (fun ρ' B' H' v' x s r => k3 ρ' B' H' x s v' r)
  · refine wE_of (pe_not pwE) (hE.e' C sl sr h fun w S1 ρ1 B1 H1 v x1 s1 sl1 r1 k1 => ?_)
    split at k1
    · cases r1
      exact ⟨_, rfl, k1.here s1 _ (.bl _)⟩
    · exact k1.elim
  · refine wE_of (pe_un un_neg pwE) (hE.e' C sl sr h fun w S1 ρ1 B1 H1 v x1 s1 sl1 r1 k1 => ?_)
    split at k1
    · cases r1
      exact ⟨_, rfl, k1.here s1 _ (.int _)⟩
    · exact k1.elim
  · exact valR_ok hE C sl sr h
  · obtain ⟨h1, h2⟩ := h.grd
    refine wE_of (pe_cmpR opW_r pwE pwE (by simpa using h1)) (hE.e' C sl sr h2 fun w S1 ρ1 B1 H1 v x1 s1 sl1 r1 k1 => hE.e' C sl1 s1 k1 fun w2 S2 ρ2 B2 H2 v2 x2 s2 sl2 r2 k2 => ?_)
    obtain ⟨c, e, k3⟩ := k2.bind.lift
    exact cmpX_ok C.un C.eqs C.ownT s2 (r1.mono x2.b x2.pre) r2 e (fun ρ' B' H' v' x s r => (k3 ρ' B' H' x s).here s v' r)
  · obtain ⟨h1, h2⟩ := h.grd
    refine wE_of (pe_chain opW_r opW_r pwE pwE pwE (by simpa using h1)) (hE.e' C sl sr h2 fun w S1 ρ1 B1 H1 v x1 s1 sl1 r1 k1 => hE.e' C sl1 s1 k1 fun w2 S2 ρ2 B2 H2 v2 x2 s2 sl2 r2 k2 => ?_)
    obtain ⟨c, e, k3⟩ := k2.bind.lift
    refine cmpX_ok C.un C.eqs C.ownT s2 (r1.mono x2.b x2.pre) r2 e (fun ρ3 B3 H3 v3 x3 s3 r3 => ?_)
    cases r3
    have k4 := k3 ρ3 B3 H3 x3 s3
    refine ⟨c, rfl, ?_⟩
    cases c with
    | false => exact (show Q (.bl false) H3 from k4.here s3 _ (.bl _))
    | true =>
      refine (show wE X _ σ H3 _ from hE.e' C (sl2.mono x3) s3 k4 fun w5 S5 ρ5 B5 H5 v5 x5 s5 sl5 r5 k5 => ?_)
      obtain ⟨c', e', k6⟩ := k5.bind.lift
      exact cmpX_ok C.un C.eqs C.ownT s5 ((r2.mono x3.b x3.pre).mono x5.b x5.pre) r5 e' (fun ρ' B' H' v' x s r => (k6 ρ' B' H' x s).here s v' r)
  · refine wE_of (pe_ifExp pwT pwE pwE) (hE.t' C sl sr h fun c S1 ρ1 B1 H1 x1 s1 sl1 k1 => ?_)
    cases c with
    | true => exact (show wE X _ σ H1 Q from hE.e C sl1 s1 k1)
    | false => exact (show wE X _ σ H1 Q from hE.e C sl1 s1 k1)
  · refine wE_of (pe_slice slW_r pwE poT poT) (hE.e' C sl sr h fun w S1 ρ1 B1 H1 v x1 s1 sl1 r1 k1 => partR_ok hE C sl1 s1 k1 fun lo S2 ρ2 B2 H2 x2 s2 sl2 k2 => partR_ok hE C sl2 s2 k2 fun hi S3 ρ3 B3 H3 x3 s3 sl3 k3 => ?_)
    obtain ⟨c, e, k4⟩ := k3.lift
    exact slS_ok s3 ((r1.mono x2.b x2.pre).mono x3.b x3.pre) e (fun ρ' B' H' v' x s r => k4 ρ' B' H' x s v' r)
  · obtain ⟨h1, h2⟩ := h.grd
    refine wE_of (pe_ix ixW_r pwE pwE (plain_ix h1)) (hE.e' C sl sr h2 fun w S1 ρ1 B1 H1 v x1 s1 sl1 r1 k1 => hE.e' C sl1 s1 k1 fun w2 S2 ρ2 B2 H2 v2 x2 s2 sl2 r2 k2 => ?_)
    obtain ⟨c, e, k3⟩ := k2.lift
    exact ixS_ok C.un C.wd s2 (r1.mono x2.b x2.pre) r2 e (fun ρ' B' H' v' x s r => k3 ρ' B' H' x s v' r)
  · rename_i elt tg iter ifs scope pos
    cases qd : dWalk pg g env S tg iter with
    | some z =>
      obtain ⟨items, S1⟩ := z
      rw [qd] at h
      obtain ⟨h1, h2⟩ := (show Hold X.K (guard' (lcG g tg iter ifs scope) (match dFlag pg g env S iter with
        | some n => unlR n (noExc (lcR false (lcStep E g env elt tg ifs scope) (fun _ => true) items [] S1))
        | none => noExc (lcR false (lcStep E g env elt tg ifs scope) (fun _ => true) items [] S1))) ρ B H (okE X.K Q) (ExP X.K X.mg Wx) from h).grd
      unfold lcG at h1
      rw [Bool.and_eq_true, Bool.and_eq_true, Bool.and_eq_true] at h1
      obtain ⟨⟨⟨g1, g2⟩, g3⟩, g4⟩ := h1
      have bk : BlkOk X.N X.env.scope scope (ownOf g.N tg) := by
        rw [C.N, C.sc]
        exact blkOk_by g2
      exact lcD_ok hE C sl sr qd g1 bk g3 g4 h2
    | none =>
    rw [qd] at h
    obtain ⟨q, g1, bk, g3, g4⟩ := lcE_ok hE C sl sr (show Hold X.K (lcE pg E g env S false elt tg iter ifs scope) ρ B H (okE X.K Q) (ExP X.K X.mg Wx) from h)
    exact wE_of (pe_lc C.calm C.nd pwI bk (fun s0 H0 Ca cs fp => pg_tg (cx_blk C scope s0 H0 Ca cs fp) g3) (pts_of g4) (fun s0 H0 Ca cs fp => ⟨fun pins s σ' H' Q' I q => q s0 H0 Ca cs fp pins s I⟩) (not_set g1)) q
  · refine wE_of pe_dnewK fun p hp => ?_
    split at h
    · exact h _ _ _ (Ext.cell hp) (sr.newCell hp (RepO.dct (kv := []) (ks := []) rfl .nil)) _ (.ref (by rw [← sr.len]; simp))
    · exact h _ _ _ (Ext.fresh sr.same hp) (sr.fresh hp) _ (.dct (kv := []) (.inl upd_same) rfl .nil)
  · obtain ⟨h1, h2⟩ := h.grd
    exact dispE_ok hE C sl sr (by simp) h1 h2
  · rename_i kx vx tg iter ifs scope pos
    obtain ⟨q, g1, bk, g3, g4⟩ := dcE_ok hE C (pos := pos) sl sr (show Hold X.K (stepE0 pg cl E g env S (.DictComp kx vx [⟨tg, iter, ifs, 0⟩] scope pos)) ρ B H (okE X.K Q) (ExP X.K X.mg Wx) from h)
    exact wE_of (pe_dc C.calm C.nd pwI bk (fun s0 H0 Ca cs fp => pg_tg (cx_blk C scope s0 H0 Ca cs fp) g3) (pts_of g4) (fun s0 H0 Ca cs fp => ⟨fun pins s σ' H' Q' I q => q s0 H0 Ca cs fp pins s I⟩) (fun s0 H0 Ca cs fp => ⟨fun pins s σ' H' Q' I q => q s0 H0 Ca cs fp pins s I⟩) (not_set g1)) q
  · rename_i o f pos
    obtain ⟨h1, h2⟩ := h.grd
    refine wE_of (pe_fld pwE (own_base h1 _)) (hE.e' C sl sr h2 fun w S1 ρ1 B1 H1 v x s1 sl1 r k => ?_)
    cases q : objS S1 w with
    | none => rw [q] at k; exact k.elim
    | some cf =>
      obtain ⟨c, fs⟩ := cf
      rw [q] at k
      obtain ⟨k1, k2⟩ := k.grd
      obtain ⟨w', e, k3⟩ := k2.lift
      obtain ⟨a, Ca, dx, fv, rfl, ha, hc, e0, rr⟩ := objS_ok s1 r q
      obtain ⟨C2, hc2, cl2, na⟩ := C.flds c f k1
      cases hc.symm.trans hc2
      obtain ⟨v', hl, rv⟩ := (look_ok e0 rr).1 _ e
      exact ⟨a, _, dx, fv, v', rfl, ha, cl2, na, hl, k3 _ _ _ Ext.refl s1 v' rv⟩
  · rename_i o m apos as pos
    obtain ⟨h1, h2⟩ := h.grd
    rw [Bool.and_eq_true, Bool.and_eq_true, Bool.and_eq_true] at h1
    obtain ⟨⟨⟨g1, g2⟩, g3⟩, g4⟩ := h1
    have hs : ∀ e ∈ as, notStar e = true := fun e he => List.all_eq_true.mp g2 e he
    cases q : E.e g env S o with
    | bad => rw [q] at h2; exact h2.elim
    | exc c fs en S1 => rw [q] at h2; exact h2.elim
    | ok w S1 =>
      rw [q] at h2
      have h3 : Hold X.K (match objS S1 w with
        | some (c, fs) => (match pg.mt c m with
          | some n => guard' ((fs.lookup m).isNone) ((mapR (fun e S => E.e g env S e) as S1).bind fun ws S2 => guard' (decide (ws.length = n)) (back env (cl (mName c m) (w :: ws) S2)))
          | none => .bad)
        | none => methR E g env S1 m as w) ρ B H (okE X.K Q) (ExP X.K X.mg Wx) := h2
      cases q2 : objS S1 w with
      | none =>
        rw [q2] at h3
        have h3' : Hold X.K (methR E g env S1 m as w) ρ B H (okE X.K Q) (ExP X.K X.mg Wx) := h3
        clear h3
        unfold methR at h3'
        split at h3'
        · rename_i z e1
          exact strMeth_ok hE C g1 (hs e1 (List.mem_singleton.mpr rfl)) g4 sl sr q h3'
        · rename_i e1 e2
          exact dget_ok hE C g1 (hs e1 (by simp)) (hs e2 (by simp)) g4 sl sr q h3'
        rename_i nn
        obtain ⟨k1, k2⟩ := h3'.grd
        rw [Bool.and_eq_true, Bool.and_eq_true] at k1
        obtain ⟨m1, m2, m3⟩ := k1
        have em : m = "append" := of_decide_eq_true m1
        subst em
        obtain ⟨zs, hz⟩ := Option.isSome_iff_exists.mp m3
        cases as with
        | nil => cases m2
        | cons e1 es =>
          have few : ((backTo pos (starEach (e1 :: es) X.env)).all (fun x => !x.1) && (backToKw pos (keywordEach [] X.env)).all (fun x => x.1.isSome) && decide ((e1 :: es).length + ([] : List Keyword).length + (if ([] : List Keyword).isEmpty then 0 else 1) < 30)) = true := by
            have f1 : (backTo pos (starEach (e1 :: es) X.env)).all (fun x => !x.1) = true := by
              rw [← List.not_any_eq_all_not, stars_no hs]
              rfl
            rw [f1]
            show (true && true && decide ((e1 :: es).length + 0 + 0 < 30)) = true
            rw [decide_eq_true (by have := of_decide_eq_true g3; omega)]
            rfl
          refine wE_of (pe_bm PySem.F.plainAttrs_list PySem.F.slot_list_append PySem.F.type_list_append mt_append pwE pwA (own_base g1 _) few g4 (star_no (hs e1 (List.mem_cons_self ..))) (stars_no fun e' he => hs e' (List.mem_cons_of_mem _ he))) ?_
          refine (show wE X o σ H _ from hE.e C sl sr ?_)
          rw [q]
          intro ρ1 B1 H1 x1 s1 v r
          obtain ⟨a, xs, rfl, hl, _⟩ := seqL_ok s1 r hz
          refine ⟨.inl ⟨rfl, xs, hl⟩, (show wA X (e1 :: es) σ H1 _ from mapR_bind hE C (sl.mono x1) s1 (k2.ext x1) fun ws S2 ρ2 B2 H2 vs x2 s2 sl2 r2 k3 => ?_)⟩
          have r' := r.mono x2.b x2.pre
          unfold bmeth at k3
          split at k3
          · rename_i w3 S3 heq
            split at heq
            · rename_i n y
              rw [if_pos rfl] at heq
              split at heq
              · rename_i zs' hn
                split at heq
                · rename_i hsm
                  cases heq
                  cases r' with
                  | ref hn2 =>
                    obtain ⟨v1, e2, rv⟩ := one_of r2
                    obtain ⟨u, hu, ro⟩ := s2.at hn2 hn
                    cases ro with
                    | lst rr =>
                      refine ⟨_, _, v1, rfl, e2, hu, by rw [rr.length]; exact small_lt hsm, ?_⟩
                      exact k3 _ _ _ (Ext.setCell hn2 hu) (s2.setCell hn2 hn (RepO.lst (rr.append (.cons rv .nil)))) _ .non
                · cases heq
              · cases heq
            · cases heq
          · exact k3.elim
      | some cf =>
        obtain ⟨c, fs⟩ := cf
        rw [q2] at h3
        have h4 : Hold X.K (match pg.mt c m with
          | some n => guard' ((fs.lookup m).isNone) ((mapR (fun e S => E.e g env S e) as S1).bind fun ws S2 => guard' (decide (ws.length = n)) (back env (cl (mName c m) (w :: ws) S2)))
          | none => .bad) ρ B H (okE X.K Q) (ExP X.K X.mg Wx) := h3
        cases q3 : pg.mt c m with
        | none => rw [q3] at h4; exact h4.elim
        | some n =>
          rw [q3] at h4
          obtain ⟨k1, k2⟩ := h4.grd
          obtain ⟨Ca, fa, fd, k, ps, hc, hcl, hm, F, b, hr⟩ := C.mts c m n q3
          obtain ⟨pl, hev⟩ := own_meth (o := o) (m := m) (env := X.env) (as := as) (apos := apos) (pos := pos) g1 hs (of_decide_eq_true g3) g4
          have recv : ∀ {P : List V → Hp → Prop} {T : TA}, (∀ ρ1 B1 H1 v, Ext ρ B H ρ1 B1 H1 → SR X.K ρ1 S1 B1 H1 → Sl X.K B1 ρ1 σ env → Rep X.K B1 ρ1 v w → T σ H1 fun vs H2 => SpF X.K X.mg cl (mName c m) (n + 1) (v :: (vs ++ [])) H2 Q (WE Wx σ)) →
              wE X o σ H (fun v H1 => ∃ a dx fs, v = .ref a ∧ H1 a = some (.ins Ca dx fs) ∧ fs.lookup m = none ∧ T σ H1 fun vs H2 => SpF X.K X.mg cl (mName c m) (n + 1) (v :: (vs ++ [])) H2 Q (WE Wx σ)) := by
            intro P T hT
            refine hE.e C sl sr ?_
            rw [q]
            intro ρ1 B1 H1 x1 s1 v r
            obtain ⟨a, C3, dx, fv, rfl, ha, hc3, e0, rr⟩ := objS_ok s1 r q2
            cases hc.symm.trans hc3
            exact ⟨a, dx, fv, rfl, ha, (look_ok e0 rr).2 (Option.isNone_iff_eq_none.mp k1), hT ρ1 B1 H1 _ x1 s1 (sl.mono x1) r⟩
          cases as with
          | nil =>
            refine wE_of (pe_methD0 (E := fun σ => WE Wx σ) pwE hcl hm F hr b .nil (fun σ => passAt C.tk σ) hev) (recv (P := fun _ _ => True) (T := tNil) fun ρ1 B1 H1 v x1 s1 sl1 r => ?_)
            have k3 := (k2.ext x1)
            obtain ⟨k4, k5⟩ := (show Hold X.K (guard' (decide (([] : List W).length = n)) (back env (cl (mName c m) [w] S1))) ρ1 B1 H1 (okE X.K Q) (ExP X.K X.mg Wx) from k3).grd
            refine ⟨by rw [← of_decide_eq_true k4]; rfl, ρ1, S1, B1, [w], s1, .cons r .nil, ?_⟩
            exact back_ok sl1 k5
          | cons e1 es =>
            refine wE_of (pe_methD (E := fun σ => WE Wx σ) pwE hcl hm F hr b .nil (fun σ => passAt C.tk σ) pwA (star_no (hs e1 (List.mem_cons_self ..))) (stars_no fun e' he => hs e' (List.mem_cons_of_mem _ he)) hev) (recv (P := fun _ _ => True) (T := wA X (e1 :: es)) fun ρ1 B1 H1 v x1 s1 sl1 r => ?_)
            refine mapR_bind hE C sl1 s1 (k2.ext x1) fun ws S2 ρ2 B2 H2 vs x2 s2 sl2 r2 k3 => ?_
            obtain ⟨k4, k5⟩ := k3.grd
            refine ⟨by rw [List.append_nil, List.length_cons, r2.length, of_decide_eq_true k4], ρ2, S2, B2, w :: ws, s2, by rw [List.append_nil]; exact .cons (r.mono x2.b x2.pre) r2, ?_⟩
            exact back_ok sl2 k5
  · rename_i p1 a t p2 pos
    obtain ⟨h1, h2⟩ := h.grd
    rw [Bool.and_eq_true, Bool.and_eq_true, Bool.and_eq_true, Bool.and_eq_true] at h1
    obtain ⟨⟨⟨⟨g1, g2⟩, g3⟩, g4⟩, g5⟩ := h1
    have no := odd_no g5
    have gi : X.mg "isinstance" = none := C.free _ (List.contains_iff_mem.mp g2)
    refine wE_of (pe_callB call_isi (glo_okB C g1) gi rfl (pa_cons pwE (pa_cons (pwE (X := X) (e := .Name t p2)) pa_nil) (star_no g3)) (he := star_no g3)) (hE.e' C sl sr h2 fun w S1 ρ1 B1 H1 v x s1 sl1 r k => ?_)
    cases q : tyW S1 w with
    | none => rw [q] at k; exact k.elim
    | some ty =>
      rw [q] at k
      obtain ⟨b, e, k2⟩ := k.bind.lift
      obtain ⟨u, cv, tn, kit, hcv⟩ := C.isi ty t b e
      have fin : ∀ c' : V, ClsV c' cv → rIsi X.K [v, c'] H1 Q := fun c' hc' => ⟨v, c', u, cv, b, rfl, hc', tyW_ok s1 r q tn, kit, (k2 _ _ _ Ext.refl s1).here s1 _ (.bl _)⟩
      rcases hcv with ⟨Ct, m3, rfl⟩ | ⟨m3, T, hb, rfl⟩
      · exact (show wE X (.Name t p2) σ H1 _ from wE_of (pe_glob (glo_okB C g4) m3 (v := .ref Ct) rfl no.1) (by exact fin (.ref Ct) (.own _)))
      · exact (show wE X (.Name t p2) σ H1 _ from wE_of (pe_bltn (glo_okB C g4) m3 hb (v := .ty T) rfl no.2.2 no.1) (by exact fin (.ty T) (.ty _)))
  · rename_i p1 a ts k2 p2 pos
    obtain ⟨h1, h2⟩ := h.grd
    rw [Bool.and_eq_true, Bool.and_eq_true, Bool.and_eq_true, Bool.and_eq_true] at h1
    obtain ⟨⟨⟨⟨g1, g2⟩, g3⟩, g4⟩, g5⟩ := h1
    have gi : X.mg "isinstance" = none := C.free _ (List.contains_iff_mem.mp g2)
    refine wE_of (pe_callB call_isiT (glo_okB C g1) gi rfl (pa_cons pwE (pa_cons (pe_tup (pwA (X := X) (es := ts))) pa_nil) (star_no g3)) (he := star_no g3)) (hE.e' C sl sr h2 fun w S1 ρ1 B1 H1 v x s1 sl1 r k => ?_)
    cases q : tyW S1 w with
    | none => rw [q] at k; exact k.elim
    | some ty =>
      cases qn : namesOf ts with
      | none => rw [q, qn] at k; exact k.elim
      | some ns =>
        rw [q, qn] at k
        cases ns with
        | nil => exact k.elim
        | cons c r' =>
        obtain ⟨b, e, k3⟩ := k.bind.lift
        have tnx : ∃ u, TyN X.K ty u := by
            have e' : (match pg.isi ty c, isiAny pg ty r' with
              | some b1, some b2 => some (b1 || b2)
              | _, _ => none) = some b := e
            cases q1 : pg.isi ty c with
            | none => rw [q1] at e'; cases e'
            | some b1 =>
              obtain ⟨u, _, tn, _⟩ := C.isi ty c b1 q1
              exact ⟨u, tn⟩
        obtain ⟨u, tn⟩ := tnx
        obtain ⟨cs, us, l, pr, ka, nm⟩ := names_ok C tn (σ := σ) (H := H1) g4 qn e
        refine nm ⟨by rw [l]; have := of_decide_eq_true g5; rw [sizeLine_eq]; omega, fun p hp => ?_⟩
        have s2 := s1.fresh (o := .tup cs) hp
        have x2 : Ext ρ1 B1 H1 ρ1 (upd B1 p (.tup cs)) (upd H1 p (.tup cs)) := Ext.fresh s1.same hp
        exact ⟨v, p, cs, u, us, b, rfl, upd_same, pr, tyW_ok s2 (r.mono x2.b x2.pre) q tn, ka, (k3 _ _ _ x2 s2).here s2 _ (.bl _)⟩
  · rename_i p1 p2 a p3 pos
    obtain ⟨h1, h2⟩ := h.grd
    rw [Bool.and_eq_true, Bool.and_eq_true, Bool.and_eq_true, Bool.and_eq_true] at h1
    obtain ⟨⟨⟨⟨g1, g2⟩, g3⟩, g4⟩, g5⟩ := h1
    refine wE_of (pe_lenSetS C.calm (glo_okB C g1) (C.free _ (List.contains_iff_mem.mp g3)) (glo_okB C g2) (C.free _ (List.contains_iff_mem.mp g4)) pwE (star_no g5)) (hE.e' C sl sr h2 fun w S1 ρ1 B1 H1 v x s1 sl1 r k => ?_)
    cases q : seqX S1 w with
    | none => rw [q] at k; exact k.elim
    | some ys =>
      rw [q] at k
      obtain ⟨k1, k2⟩ := k.grd
      have k3 := k2.here s1 _ (.int _)
      unfold seqX at q
      cases q1 : seqL S1 w with
      | some ws =>
        rw [q1] at q
        obtain ⟨l, xs, rfl, h1, h2⟩ := seqL_ok s1 r q1
        cases strsW_ok h2 q
        exact ⟨l, ys, rfl, .inl h1, of_decide_eq_true k1, k3⟩
      | none =>
        rw [q1] at q
        cases q2 : seqT w with
        | none =>
          rw [q2] at q
          cases q
        | some ws =>
          rw [q2] at q
          obtain ⟨l, xs, rfl, h1, h2⟩ := seqT_ok s1 r q2
          cases strsW_ok h2 q
          exact ⟨l, ys, rfl, .inr h1, of_decide_eq_true k1, k3⟩
  · rename_i f p a as pos hx hx2 hx3
    obtain ⟨h1, h2⟩ := h.grd
    rw [Bool.and_eq_true, Bool.and_eq_true] at h1
    obtain ⟨⟨g1, g2⟩, g3⟩ := h1
    have hs := mapR_stars h2
    cases q : pg.ar f with
    | some n =>
      obtain ⟨fa, fd, k, ps, hn, F, m, kp, b, hr⟩ := C.fns f n q
      refine wE_of (pe_callS (E := fun σ => WE Wx σ) F (hr.mono (by omega)) (glo_okB C g1) m kp b (fun σ => passAt C.tk σ) pwA (odd_no g2).1 (star_no (hs a (List.mem_cons_self ..))) (stars_no fun e' he => hs e' (List.mem_cons_of_mem _ he))) ?_
      refine (show wA X (a :: as) σ H _ from mapR_bind hE C sl sr h2 fun ws S1 ρ1 B1 H1 vs x1 s1 sl1 r k1 => ?_)
      rw [q] at k1
      obtain ⟨k2, k3⟩ := k1.grd
      refine ⟨by rw [r.length]; exact of_decide_eq_true k2, ρ1, S1, B1, ws, s1, r, ?_⟩
      cases qc : cl f ws S1 with
      | bad => rw [qc] at k3; exact k3.elim
      | ok w S2 => rw [qc] at k3; exact k3
      | exc c fs en S2 =>
        rw [qc] at k3
        exact fun ρ' B' H' x s C' d fv mc hd rf => k3 ρ' B' H' x s σ C' d fv (sl1.mono x) mc hd rf
    | none =>
      cases qn : pg.new f with
      | some nf =>
        obtain ⟨n, fz⟩ := nf
        obtain ⟨Ca, fa, fd, kk, ps, hc, hm, M, F, b0, hr⟩ := C.news f n fz qn
        obtain ⟨ds, dv, b, b2, b3⟩ := b0 ((pg.dfl f).length + (a :: as).length - n)
        refine wE_of (pe_makeD (E := fun σ => WE Wx σ) M F hr (glo_okB C g1) hm b b2 (fun σ => passAt C.tk σ) pwA (odd_no g2).1 (star_no (hs a (List.mem_cons_self ..))) (stars_no fun e' he => hs e' (List.mem_cons_of_mem _ he))) ?_
        refine (show wA X (a :: as) σ H _ from mapR_bind hE C sl sr h2 fun ws S1 ρ1 B1 H1 vs x1 s1 sl1 r k1 => ?_)
        rw [q, qn] at k1
        obtain ⟨k2, k3⟩ := k1.grd
        intro p dx hp hdx hne
        obtain ⟨z1, z2, z3, z4⟩ := mkR_ok sl1 s1 hc hp hdx hne k3
        refine ⟨by rw [List.length_cons, (r.append (b3 B1 ρ1)).length, of_decide_eq_true k2], ρ1 ++ [p], S1 ++ [SO.ins f []], B1, _, z1, .cons z2 ((r.mono z3.b z3.pre).append (b3 _ _)), z4⟩
      | none =>
      rw [q, qn] at g3
      have g4 : (known f && pg.free.contains f) = true := g3
      rw [Bool.and_eq_true] at g4
      refine bcall_ok C g1 g4.1 g2 (free_ok C g4.2) hs pwA (mapR_bind hE C sl sr h2 fun ws S1 ρ1 B1 H1 vs x1 s1 sl1 r k1 => ?_) wA_mono
      rw [q, qn] at k1
      obtain ⟨w, e, k2⟩ := k1.lift
      exact ⟨S1, ρ1, B1, ws, w, s1, r, e, fun ρ' B' H' v x s rv => k2 ρ' B' H' x s v rv⟩
  · rename_i f p pos
    obtain ⟨h1, h2⟩ := h.grd
    rw [Bool.and_eq_true] at h1
    obtain ⟨g1, g2⟩ := h1
    cases q : pg.ar f with
    | some n =>
      rw [q] at h2
      obtain ⟨k2, k3⟩ := h2.grd
      obtain ⟨fa, fd, k, ps, hn, F, m, kp, b, hr⟩ := C.fns f n q
      refine wE_of (pe_callD0 (E := fun σ => WE Wx σ) F (hr.mono (by omega)) (glo_okB C g1) m kp b .nil (fun σ => passAt C.tk σ) (odd_no g2).1) ?_
      exact ⟨by rw [← of_decide_eq_true k2]; rfl, ρ, S, B, [], sr, .nil, back_ok sl k3⟩
    | none =>
      rw [q] at h2
      cases qn : pg.new f with
      | none => rw [qn] at h2; exact h2.elim
      | some nf =>
        obtain ⟨n, fz⟩ := nf
        rw [qn] at h2
        obtain ⟨k2, k3⟩ := h2.grd
        obtain ⟨Ca, fa, fd, kk, ps, hc, hm, M, F, b0, hr⟩ := C.news f n fz qn
        obtain ⟨ds, dv, b, b2, b3⟩ := b0 (pg.dfl f).length
        have ed : dv = [] := by
          have z := (b3 B ρ).length
          rw [List.drop_length] at z
          exact List.length_eq_zero_iff.mp z
        subst ed
        refine wE_of (pe_makeD0 (E := fun σ => WE Wx σ) M F hr (glo_okB C g1) hm b b2 (fun σ => passAt C.tk σ) (odd_no g2).1) ?_
        intro p dx hp hdx hne
        obtain ⟨z1, z2, z3, z4⟩ := mkR_ok sl sr hc hp hdx hne k3
        exact ⟨by rw [← of_decide_eq_true k2]; rfl, ρ ++ [p], S ++ [SO.ins f []], B, [.ref S.length], z1, .cons z2 .nil, z4⟩
  · exact h.elim
end
end Mi

set_option Elab.async false
set_option linter.all false
set_option maxRecDepth 100000
set_option maxHeartbeats 4000000
noncomputable section
namespace Mi
open PySem PySem.Spec PyProof.Rows L2
variable [Gam]
section
variable {pg : Pg} {cl : Str → List W → Sto → R W} {E : Evs} {g : Gm} {Wx : WX} {X : Cx}
def nmE (t : Str × Pos) : Expr := .Name t.1 t.2
theorem names_map {f : Expr → Option Str} : ∀ {ts : List (Str × Pos)}, (∀ t ∈ ts, f (nmE t) = some t.1) → (ts.map nmE).filterMap f = ts.map Prod.fst
  | [], _ => rfl
  | t :: ts, h => by
    rw [List.map_cons, List.map_cons, List.filterMap_cons, h t (List.mem_cons_self ..), names_map (ts := ts) fun u hu => h u (List.mem_cons_of_mem _ hu)]
theorem stars_any {f : Expr → Bool} (hf : ∀ e, notStar e = true → f e = false) : ∀ {vs : List Expr}, vs.all notStar = true → vs.any f = false
  | [], _ => rfl
  | a :: vs, h => by
    rw [List.all_cons, Bool.and_eq_true] at h
    rw [List.any_cons, stars_any hf h.2, hf a h.1]
    rfl
theorem swapN {env : Env} {ts : List (Str × Pos)} {vs : List Expr} (hbk : (env.blockKind != .function) = false) (ln : (!((ts.map nmE).length == 2 || (ts.map nmE).length == 3) || vs.length != (ts.map nmE).length || false) = false)
    (h : ∀ t ∈ ts, (env.kindOf t.1 == some .local) = true ∧ (t.2.line == ((ts.head?.map (·.2.line)).getD 0)) = true) (hd : (ts.map Prod.fst).eraseDups.length = (ts.map Prod.fst).length) (hs : vs.all notStar = true)
    (hf : vs.all (foldedForSure 8) = false) (hc : vs.all (constantsAlone 8) = false) (kt : Nat) (pt pt2 : Pos) (k2 : Nat) : swappedStores [.Tuple (ts.map nmE) kt pt] (.Tuple vs k2 pt2) env = pure (some (ts.map Prod.fst)) := by
  have hL : (Option.map (fun x : Expr => x.pos.line) (ts.map nmE).head?).getD 0 = (ts.head?.map (·.2.line)).getD 0 := by
    cases ts <;> rfl
  unfold swappedStores
  simp only []
  rw [hbk, ln, if_neg Bool.false_ne_true, hL]
  refine (if_neg (by rw [stars_any (fun e he => by cases e <;> first | rfl | cases he) hs]; exact Bool.false_ne_true)).trans ?_
  rw [names_map (ts := ts)]
  · rw [hd, hf, hc, if_neg Bool.false_ne_true, if_neg Bool.false_ne_true, if_neg]
    rw [List.length_map, List.length_map]
    simp
  · intro t ht
    obtain ⟨h1, h2⟩ := h t ht
    show (if (env.kindOf t.1 == some .local && t.2.line == (ts.head?.map (·.2.line)).getD 0) = true then some t.1 else none) = some t.1
    rw [h1, h2]
    rfl
theorem swB_ok (C : CxOk pg cl g Wx X) {ts : List (Str × Pos)} {vs : List Expr} (ln : (!((ts.map nmE).length == 2 || (ts.map nmE).length == 3) || vs.length != (ts.map nmE).length || false) = false) (h : swB g ts vs = true) :
    (∀ t ∈ ts, X.N[(slotOf g.N t.1).getD 0]? = some t.1 ∧ X.env.scope.names.lookup t.1 = some .local) ∧ (ts.map Prod.fst).Nodup ∧ vs.all notStar = true ∧ ∀ kt pt pt2 k2, swappedStores [.Tuple (ts.map nmE) kt pt] (.Tuple vs k2 pt2) X.env = pure (some (ts.map Prod.fst)) := by
  unfold swB at h
  rw [Bool.and_eq_true, Bool.and_eq_true, Bool.and_eq_true, Bool.and_eq_true, Bool.and_eq_true, Bool.and_eq_true] at h
  obtain ⟨⟨⟨⟨⟨h1, h2⟩, h3, h4⟩, h5⟩, h6⟩, h7⟩ := h
  have k : ∀ t ∈ ts, X.N[(slotOf g.N t.1).getD 0]? = some t.1 ∧ (X.env.kindOf t.1 == some .local) = true ∧ (t.2.line == ((ts.head?.map (·.2.line)).getD 0)) = true := fun t ht => by
    have z := List.all_eq_true.mp h2 t ht
    rw [Bool.and_eq_true, Bool.and_eq_true] at z
    obtain ⟨i, hi⟩ := Option.isSome_iff_exists.mp z.2
    refine ⟨by rw [hi, C.N]; exact slotOf_get hi, ?_, z.1.2⟩
    show (X.env.scope.names.lookup t.1 == some .local) = true
    rw [C.sc]
    exact z.1.1
  refine ⟨fun t ht => ⟨(k t ht).1, ?_⟩, of_decide_eq_true h3, h5, swapN ?_ ln (fun t ht => (k t ht).2) (of_decide_eq_true h4) h5 (by simpa using h6) (by simpa using h7)⟩
  · have z := (k t ht).2.1
    have z' : (X.env.scope.names.lookup t.1 == some .local) = true := z
    cases w : X.env.scope.names.lookup t.1 with
    | none => rw [w] at z'; cases z'
    | some q =>
      rw [w] at z'
      cases q <;> first | rfl | cases z'
  · show ((if X.env.scope.kind.isAnnotationScope then ScopeKind.function else X.env.scope.kind) != .function) = false
    rw [C.sc]
    show (!((if g.sc.kind.isAnnotationScope then ScopeKind.function else g.sc.kind) == .function)) = false
    rw [h1]
    rfl
theorem slot_ne {N : List Str} {x y : Str} {i j : Nat} (h1 : N[i]? = some x) (h2 : N[j]? = some y) (h : x ≠ y) : i ≠ j := fun e => by
  subst e
  rw [h1] at h2
  exact h (Option.some.inj h2)
end
end Mi

set_option Elab.async false
set_option linter.all false
set_option maxRecDepth 100000
set_option maxHeartbeats 4000000
/-! Ma35: [d[k] for k in d], d a dict whose keys are tuples. -/
noncomputable section
namespace Mi
open PySem PySem.Spec PyProof.Rows L2
/-- the keys of the very object -/
def Itkd (d : Addr) (o : Obj) (xs : List XE) : It := ⟨fun i H => H d = some (kdO d o) ∧ i < xs.length, fun i H x H' => H' = H ∧ ∃ y, xs[i]? = some y ∧ x = .ref y.2.1, fun i H => H d = some (kdO d o) ∧ xs.length ≤ i⟩
theorem turn_kd {P : Program} {w wd : World} {K : PySem.W.Frag} {tg : Expr} {d it : Addr} {o : Obj} {es : Array DictEntry} {ep : Nat} {xs : List XE} (hod : o.data = .dict es ep) (he : es.toList = xs.map (entN wd)) :
    Turn P w K tg (Itkd d o xs) [it] it (fun i h => h.IsKeyIter it d i xs.length ep) where
  mem := List.mem_singleton.mpr rfl
  obj := fun i h st b hb => by
    obtain rfl := List.mem_singleton.mp hb
    obtain ⟨oi, e, _, dd⟩ := st
    exact ⟨oi, e, fun v z => by rw [dd] at z; cases z⟩
  keep := fun i h h' st k => st.at fun oi e => k it (List.mem_singleton.mpr rfl) oi e
  item := by
    intro X hP hw hK hc i pins s σ H E I hf st hg
    subst hP hw hK
    obtain ⟨hd, hi⟩ := hg
    obtain ⟨g0, g1, g2, g3, g4, g5⟩ := hf it (List.mem_singleton.mpr rfl)
    have at_ : s.heap.get? d = some o := (I.hok d _ hd).1
    have hsz : es.size = xs.length := by rw [← Array.length_toList, he, List.length_map]
    have hen : es[i]? = some (entN wd xs[i]) := by
      rw [← Array.getElem?_toList, he, List.getElem?_map, List.getElem?_eq_getElem hi]
      rfl
    refine next_key_item st at_ hod hsz hen fun h' st2 sb => ?_
    have I1 : Inv X pins σ H { s with heap := h' } := I.turned (t' := s.toks) (fun b ob hb e => (sb.2 b hb).trans e) g0 g1 g3 g4 g5
    obtain ⟨oi, e, c, dd⟩ := id st2
    exact ⟨_, rfl, go_of (s := { s with heap := h' }) e c dd (by decide) ⟨.ref xs[i].2.1, H, I1, rfl, ⟨rfl, xs[i], List.getElem?_eq_getElem hi, rfl⟩, st2, fun b hb => (hf b hb).1⟩⟩
  done := by
    intro X hP hw hK hc i pins s σ H E I hf st hg
    subst hP hw hK
    obtain ⟨hd, hi⟩ := hg
    obtain ⟨g0, g1, g2, g3, g4, g5⟩ := hf it (List.mem_singleton.mpr rfl)
    have at_ : s.heap.get? d = some o := (I.hok d _ hd).1
    have hsz : es.size = xs.length := by rw [← Array.length_toList, he, List.length_map]
    exact next_key_end (I.ok.hd hc) st at_ hod hsz hi fun h' eb => ⟨rfl, I.turned (t' := s.toks) (fun b ob hb e => eb b ob hb e) g0 g1 g3 g4 g5⟩
  self := fun A i s Q E st h => by
    have ty := st.typeIs
    refine wpAny_pyIter_slot ty PySem.F.slot_dict_keyiterator_iter (wpAny_call_entry PySem.F.slot_dict_keyiterator_iter ty PySem.F.entry_dict_keyiterator_iter ?_ (PySem.F.args_dict_keyiterator_iter_1 _))
    show wpAny _ _ (ret (Value.ref it)) _ _ s
    exact wpAny_pure ⟨_, rfl, "dict_keyiterator", _, ty, PySem.F.slot_dict_keyiterator_next.lookup, h⟩
theorem walk_kd {d : Addr} {o : Obj} {xs : List XE} : Walk (Itkd d o xs) xs.length (fun H => H d = some (kdO d o)) (fun i H x H' => H' = H ∧ ∃ y, xs[i]? = some y ∧ x = .ref y.2.1) :=
  ⟨fun _ _ hi q => ⟨q, hi⟩, fun _ q => ⟨q, Nat.le_refl _⟩, fun _ _ _ _ _ _ y => y⟩
section
variable {X : Cx} {tg : Expr}
def iKd (tl : TE) : TI := fun σ H R => tl σ H fun x H1 => ∃ d o wd xs, x = .ref d ∧ (d == sysModules) = false ∧ H1 d = some (kdO d o) ∧ KdObj wd o xs ∧ R (Itkd d o xs) H1
theorem pi_kd {l : Expr} {tl : TE} (hl : PE X l tl) : PI X tg l (iKd tl) := by
  refine ⟨fun pins s σ H R I h => ?_⟩
  refine thn (hl.run pins s σ H _ I h) fun v s1 ⟨x, H1, I1, r1, d, o, wd, xs, e, sy, hd, ⟨hx, es, ep, hdat, he, _⟩, q⟩ => ?_
  subst e
  cases r1
  have hsz : es.size = xs.length := by rw [← Array.length_toList, he, List.length_map]
  refine iter_keys sy (I1.hok d _ hd).1 hx hdat ?_
  refine ⟨s1.heap.objs.size, [s1.heap.objs.size], _, _, H1, rfl, I1.kept (t' := s1.toks) fun b ob e => Heap.get?_push_of_some _ e, turn_kd hdat he, ⟨_, Heap.get?_push_size _ rfl, rfl, by rw [hsz]; rfl⟩, fun b hb => ?_, q⟩
  obtain rfl := List.mem_singleton.mp hb
  exact I1.fpOk (Nat.le_refl _) (I1.hok.fresh (Nat.le_refl _))
end
section
variable [Gam] {pg : Pg} {cl : Str → List W → Sto → R W} {E : Evs} {g : Gm} {Wx : WX} {X : Cx}
theorem mapO_get {α β : Type} {f : α → Option β} : ∀ {xs : List α} {ys : List β} {i : Nat} {x : α}, mapO f xs = some ys → xs[i]? = some x → ∃ y, f x = some y ∧ ys[i]? = some y
  | [], _, _, _, _, h => by simp at h
  | x0 :: xs, ys, 0, x, e, h => by
    obtain ⟨y, ys', h1, h2, rfl⟩ := mapO_cons e
    simp at h
    subst h
    exact ⟨y, h1, rfl⟩
  | x0 :: xs, ys, i + 1, x, e, h => by
    obtain ⟨y, ys', h1, h2, rfl⟩ := mapO_cons e
    obtain ⟨y', h3, h4⟩ := mapO_get (i := i) h2 (by simpa using h)
    exact ⟨y', h3, by simpa using h4⟩
theorem mapO_len {α β : Type} {f : α → Option β} : ∀ {xs : List α} {ys : List β}, mapO f xs = some ys → ys.length = xs.length
  | [], _, e => by cases e; rfl
  | x0 :: xs, ys, e => by
    obtain ⟨y, ys', h1, h2, rfl⟩ := mapO_cons e
    simp [mapO_len h2]
theorem kdOf_ok (C : CxOk pg cl g Wx X) {iter : Expr} {env : Env'} {S : Sto} {σ : L2.St} {ρ : List Addr} {B : Hp} {p : List (NestedKey × W) × List W} (sl : Sl X.K B ρ σ env) (e : kdOf g env S iter = some p) : ∃ x i v w, iter = x ∧ σ[i]? = some (some v) ∧ Rep X.K B ρ v w ∧ PE X iter (tVar i) ∧ kdS S w = some p := by
  unfold kdOf at e
  split at e
  · rename_i d q
    split at e
    · rename_i w hw
      obtain ⟨i, v, e1, r0, pe⟩ := pathN_ok C (p := q) sl hw
      exact ⟨_, i, v, w, rfl, e1, r0, pe, e⟩
    · cases e
  · cases e
/-- [d[k] for k in d] -/
theorem lkd_ok (C : CxOk pg cl g Wx X) {tg iter : Expr} {scope : Scope} {d1 k1 : Str} {p1 p2 p3 : Pos} {env : Env'} {S : Sto} {σ : L2.St} {ρ : List Addr} {B H : Hp} {Q : VK} {ks : List (NestedKey × W)} {vs out : List W} (sl : Sl X.K B ρ σ env) (sr : SR X.K ρ S B H)
    (hk : kdOf g env S iter = some (ks, vs)) (g3 : tgOk (blkG g scope) tg = true) (hz : ks.length < 90000) (ho : mapO (fun x => kdItem g env S scope tg d1 k1 x.2) ks = some out) (q : Val X.K (.lst out) S Q ρ B H) :
    ∃ wi, PI X tg iter wi ∧ tLc wi (tgG X.K (blkG g scope) tg) (ttOf X scope []) (wEb X scope (.Subscript (.Name d1 p1) (.Name k1 p2) p3)) ((ownOf g.N tg).map (·.2)) σ H Q := by
  obtain ⟨_, i0, v0, w0, _, e1, r0, pe, hS⟩ := kdOf_ok C sl hk
  obtain ⟨n, d, rfl, hn, hSn, nb, g0, sy, sz, o, xs, us, hH, ob, kk, va, rr⟩ := kd_cell sr r0 hS
  have lx : xs.length = ks.length := Paired.length kk
  refine ⟨iKd (tVar i0), pi_kd pe, ⟨_, e1, d, o, Gam.wd, xs, rfl, sy, hH, ob, fun D hD => ?_⟩⟩
  have hDd : D ≠ d := fun z => by rw [z, hH] at hD; cases hD
  have hDn : D ∉ ρ := sr.notin hD
  have hDb : B D = none := sr.same.free hD
  have sr1 : ∀ l, SR X.K ρ S B (upd H D (.lst l)) := fun l => by
    have s1 : SR X.K ρ S B (upd H D (.lst [])) := sr.junk hD
    have s2 := s1.side (o := .lst l) hDb hDn upd_same
    rw [upd_upd] at s2
    exact s2
  refine lc_it walk_kd (fun i H' => ∃ l, H' = upd H D (.lst l) ∧ RepL X.K B ρ l (out.take i)) ?_ ?_ ?_ ?_
  · exact ⟨[], rfl, by rw [List.take_zero]; exact .nil⟩
  · rintro i H' hi ⟨l, rfl, _⟩
    show upd H D (.lst l) d = some (kdO d o)
    rw [upd_ne hDd.symm]
    exact hH
  · rintro i x H1 H2 hi ⟨l, rfl, rl⟩ ⟨rfl, y, hy, rfl⟩
    have hki : ks[i]? = some (ks[i]'(by omega)) := List.getElem?_eq_getElem _
    obtain ⟨y', hy', f1, f2, f3⟩ := pr_get kk hki
    rw [hy] at hy'
    cases hy'
    obtain ⟨oi, ho1, ho2⟩ := mapO_get ho hki
    unfold kdItem at ho1
    split at ho1
    · rename_i env1 hb
      refine bindT_ok (sr1 l) (sl.wipe _) (f3.mono (Same.refl B) ⟨ρ, by simp⟩) hb fun σ2 sl2 hw => ⟨?_, ?_⟩
      · have gm : (blkG g scope).N = g.N := rfl
        rw [hw _ (names_slots gm g3)]
        exact wipe_wipe
      · split at ho1
        · rename_i x0 y0 hx0 hy0
          split at ho1
          · rename_i p k0 hp hk0
            show wEb X scope _ σ2 (upd H D (.lst l)) _
            intro s0 H0 Ca cs fp
            have C' := cx_blk C scope s0 H0 Ca cs fp
            obtain ⟨i1, v1, e3, r1, pe1⟩ := pathN_ok C' (p := p1) sl2 hx0
            obtain ⟨i2, v2, e4, r2, pe2⟩ := pathN_ok C' (p := p2) sl2 hy0
            refine wE_of (pe_ix ixW_r pe1 pe2 (plain_ix rfl)) ⟨v1, e3, v2, e4, ?_⟩
            refine ixK_kd (ks := p.1) (vs := p.2) C'.un C'.wd (sr1 l) r1 r2 hp hk0 ho1 fun v' rv => ⟨l, upd_same, ?_, l ++ [v'], by rw [upd_upd], ?_⟩
            · rw [rl.length, List.length_take, sizeLine_eq]
              have := mapO_len ho
              omega
            · have ho3 : out.take (i + 1) = out.take i ++ [oi] := by
                rw [List.take_succ, ho2]
                rfl
              rw [ho3]
              exact rl.append (.cons rv .nil)
          · cases ho1
        · cases ho1
    · cases ho1
  · rintro H' ⟨l, rfl, rl⟩
    have hl : out.take xs.length = out := List.take_of_length_le (by have := mapO_len ho; omega)
    rw [hl] at rl
    exact q.newL sr rl hD
/-- {}, told by its object -/
theorem pe_dnewKd {pos : Pos} : PE X (.Dict [] [] pos) (fun σ H Q => ∀ p o, H p = none → (p == sysModules) = false → KdObj Gam.wd o [] → Q (.ref p) (upd H p (kdO p o))) := by
  refine ⟨fun pins s σ H Q I h => ?_⟩
  refine thn (pe_dnewK.run pins s σ H (fun x H1 => ∃ p, x = .ref p ∧ H p = none ∧ H1 = upd H p (.dK [])) I fun p hp => ⟨p, rfl, hp, rfl⟩) fun u s1 ⟨x, H1, I1, rx, p, ex, hp, e1⟩ => ?_
  subst ex
  subst e1
  obtain ⟨o, I2, ob, sy⟩ := kd_retag I1 upd_same
  rw [upd_upd] at I2
  exact ⟨.ref p, _, I2, rx, h p o hp sy ob⟩
theorem SR.newKd {K : PySem.W.Frag} {ρ : List Addr} {S : Sto} {B H : Hp} {a : Addr} {o : Obj} (s : SR K ρ S B H) (h : H a = none) (g0 : Gam.tabs = []) (sy : (a == sysModules) = false) (ob : KdObj Gam.wd o []) : SR K (ρ ++ [a]) (S ++ [SO.kd [] []]) B (upd H a (kdO a o)) := by
  have hb : B a = none := s.same.free h
  have s1 := s.newCell h (RepO.lst (ws := []) .nil)
  have s2 := s1.setKd (i := ρ.length) (a := a) (o := o) (ks := []) (vs := []) (by simp) g0 hb ⟨hb, g0, sy, Nat.zero_le _, o, [], [], upd_same, ob, .nil, .nil, .nil⟩
  rw [upd_upd, s.len] at s2
  have e : (S ++ [SO.lst []]).set S.length (SO.kd [] []) = S ++ [SO.kd [] []] := by
    rw [List.set_append_right _ _ (Nat.le_refl _), Nat.sub_self]
    rfl
  rw [e] at s2
  exact s2
end
end Mi

set_option Elab.async false
set_option linter.all false
set_option maxRecDepth 100000
set_option maxHeartbeats 4000000
/-! Mi9: tests and statements; the evaluator is right. -/
noncomputable section
namespace Mi
open PySem PySem.Spec PyProof.Rows L2
variable [Gam]
section
variable {pg : Pg} {cl : Str → List W → Sto → R W} {E : Evs} {g : Gm} {Wx : WX} {X : Cx}
theorem plain_t {e : Expr} {env : Env} (h : plainT e = true) : ∀ whole, isTrue e env whole = (do let v ← whole; standAt e.pos; holding [v] (truthy v)) := by
  intro w
  cases e with
  | UnaryOp op a p => cases op <;> first | rfl | cases h
  | _ => first | rfl | cases h
theorem stepT_ok (hE : EvOk pg cl E) (C : CxOk pg cl g Wx X) {e : Expr} {env : Env'} {S : Sto} {σ : L2.St} {ρ : List Addr} {B H : Hp} {Q : Bool → Hp → Prop} (sl : Sl X.K B ρ σ env) (sr : SR X.K ρ S B H)
    (h : Hold X.K (stepT pg cl E g env S e) ρ B H (okT Q) (ExP X.K X.mg Wx)) : wT X e σ H Q := by
  unfold stepT at h
  split at h
  · refine wT_of (pt_not pwT) (hE.t' C sl sr h fun b S1 ρ1 B1 H1 x s1 sl1 k => ?_)
    exact k.here s1
  · exact wT_of (PW.pt pwW) (allR_ok hE C sl sr h)
  · obtain ⟨h1, h2⟩ := h.grd
    refine wT_of (pt_cmpR opW_r pwE pwE (by simpa using h1)) (hE.e' C sl sr h2 fun w S1 ρ1 B1 H1 v x1 s1 sl1 r1 k1 => hE.e' C sl1 s1 k1 fun w2 S2 ρ2 B2 H2 v2 x2 s2 sl2 r2 k2 => ?_)
    obtain ⟨c, e, k3⟩ := k2.lift
    refine cmpX_ok C.un C.eqs C.ownT s2 (r1.mono x2.b x2.pre) r2 e (fun ρ' B' H' v' x s r => ?_)
    cases r
    exact ⟨c, rfl, k3 ρ' B' H' x s⟩
  · obtain ⟨h1, h2⟩ := h.grd
    refine wT_of (pt_chain opW_r opW_r pwE pwE pwE (by simpa using h1)) (hE.e' C sl sr h2 fun w S1 ρ1 B1 H1 v x1 s1 sl1 r1 k1 => hE.e' C sl1 s1 k1 fun w2 S2 ρ2 B2 H2 v2 x2 s2 sl2 r2 k2 => ?_)
    obtain ⟨c, e, k3⟩ := k2.bind.lift
    refine cmpX_ok C.un C.eqs C.ownT s2 (r1.mono x2.b x2.pre) r2 e (fun ρ3 B3 H3 v3 x3 s3 r3 => ?_)
    cases r3
    have k4 := k3 ρ3 B3 H3 x3 s3
    refine ⟨c, rfl, ?_⟩
    cases c with
    | false => exact (show ∃ k, V.bl false = .bl k ∧ Q k H3 from ⟨false, rfl, k4.here s3⟩)
    | true =>
      refine (show wE X _ σ H3 _ from hE.e' C (sl2.mono x3) s3 k4 fun w5 S5 ρ5 B5 H5 v5 x5 s5 sl5 r5 k5 => ?_)
      obtain ⟨c', e', k6⟩ := k5.lift
      refine cmpX_ok C.un C.eqs C.ownT s5 ((r2.mono x3.b x3.pre).mono x5.b x5.pre) r5 e' (fun ρ' B' H' v' x s r => ?_)
      cases r
      exact ⟨c', rfl, k6 ρ' B' H' x s⟩
  · obtain ⟨h1, h2⟩ := h.grd
    refine wT_of (pt_truth pwE (plain_t h1)) (hE.e' C sl sr h2 fun w S1 ρ1 B1 H1 v x1 s1 sl1 r1 k1 => ?_)
    obtain ⟨b, e, k2⟩ := k1.lift
    exact ⟨b, truth_ok s1 r1 e, k2 ρ1 B1 H1 Ext.refl s1⟩

/-! ### statements -/
theorem nextN_ok {K : PySem.W.Frag} {x : Str} {w : W} {env : Env'} {S : Sto} {ρ : List Addr} {B H : Hp} {D : Ends} {σ : L2.St} {v : V} {ex : Str → List (Str × W) → Env' → List Addr → Hp → Hp → Prop} (h : Hold K (nextN g x w env S) ρ B H (okS K D) ex) (sr : SR K ρ S B H) (sl : Sl K B ρ σ env) (r : Rep K B ρ v w) :
    D.nx (σ.set ((slotOf g.N x).getD 0) (some v)) H := by
  unfold nextN at h
  cases q : bindN g x w env with
  | none => rw [q] at h; exact h.elim
  | some env1 =>
    rw [q] at h
    exact h.here sr _ (bindN_ok sl r q)
theorem name_slot (C : CxOk pg cl g Wx X) {x : Str} {p : Pos} (h : nameOk g (.Name x p) = true) : X.N[(slotOf g.N x).getD 0]? = some x ∧ L2.Loc X.env.scope x ∧ (X.fn x = true ∨ X.env.scope.names.lookup x = some .local) := by
  unfold nameOk at h
  rw [Bool.and_eq_true] at h
  obtain ⟨i, hi⟩ := Option.isSome_iff_exists.mp h.2
  rw [hi]
  exact ⟨by rw [C.N]; exact slotOf_get hi, loc_ok C h.1⟩
theorem no_comp {e : Expr} {t : Option Expr} {l : Nat} {env : Env} (h : (!isComp e) = true) : swapsWith e t l env = pure false := by
  cases e <;> first | rfl | cases h
theorem no_sole {t e : Expr} {l : Nat} {env : Env} (h : (!isComp e) = true) : swapsWithSole [t] e l env = pure false := by
  cases e <;> first | rfl | cases h
theorem no_swap {tg e : Expr} {env : Env} (h : (!isTup e) = true) : swappedStores [tg] e env = pure none := by
  cases e <;> first | (cases h; done) | (cases tg <;> rfl)
def rGetL (K : PySem.W.Frag) : V → V → Hp → VK → Prop := fun o i H Q => ∃ p xs k v, o = .ref p ∧ i = .int k ∧ SqL K H p xs ∧ 0 ≤ k ∧ k < 2 ^ 62 ∧ xs[k.toNat]? = some v ∧ Q v H
theorem get_list : PGet X (rGetL X.K) := by
  intro pins s σ H o i ov iv Q I ro ri h
  obtain ⟨p, xs, k, v, rfl, rfl, hq, h0, h1, hv, q⟩ := h
  cases ro
  obtain ⟨t, rfl⟩ := ri
  obtain ⟨its, rv, pl, hz⟩ := I.list hq
  obtain ⟨u, hu, ru⟩ := rv.get hv
  exact wpAny_getItem_list pl.isList h0 (by omega) (by simpa using hu) ⟨v, H, I, ru, q⟩
theorem ixN_in {n : Nat} {k : Int} (h0 : 0 ≤ k) (h : k.toNat < n) : ixN n k = some k.toNat := by
  unfold ixN
  rw [if_pos h0, if_pos (by omega)]
theorem aug_store {i : Expr} {ov iv new : Value} (h : plainIx i = true) : augStore i ov iv new = (do holding [new, ov, iv] (setItem ov iv new); release [new, ov, iv] []; pure .next) := by
  cases i <;> first | rfl | cases h
theorem sw_comp (elt : Expr) (gs : List Comprehension) (scope : Scope) (pos : Pos) (y : Str) (py : Pos) (l : Nat) (env : Env) : (swapsWith (.ListComp elt gs scope pos) (some (.Name y py)) l env = pure true ∧ env.scope.names.lookup y = some .local) ∨ swapsWith (.ListComp elt gs scope pos) (some (.Name y py)) l env = pure false := by
  have e : swapsWith (.ListComp elt gs scope pos) (some (.Name y py)) l env = pure (env.blockKind == .function && env.kindOf y == some .local && py.line == pos.line && !(scope.names.any fun (n, k) => n == y && (k == .local || k == .cell))) := rfl
  rw [e]
  cases q : (env.blockKind == .function && env.kindOf y == some .local && py.line == pos.line && !(scope.names.any fun (n, k) => n == y && (k == .local || k == .cell))) with
  | false => exact .inr rfl
  | true =>
    refine .inl ⟨rfl, ?_⟩
    rw [Bool.and_eq_true, Bool.and_eq_true, Bool.and_eq_true] at q
    have z : env.kindOf y = some .local := by
      have z := q.1.1.2
      cases w : env.kindOf y with
      | none => rw [w] at z; cases z
      | some k =>
        rw [w] at z
        cases k <;> first | rfl | cases z
    exact z
theorem valC0_ok (hE : EvOk pg cl E) (C : CxOk pg cl g Wx X) {fl : Bool} {e : Expr} {env : Env'} {S : Sto} {σ : L2.St} {ρ : List Addr} {B H : Hp} {Q : VK} (sl : Sl X.K B ρ σ env) (sr : SR X.K ρ S B H)
    (h : Hold X.K (valC0 pg E g env S fl e) ρ B H (okE X.K Q) (ExP X.K X.mg Wx)) : wE X e σ H Q := by
  unfold valC0 at h
  split at h
  · refine wE_of (pe_lst pwA) (mapS_bind hE C sl sr h fun ws S1 ρ1 B1 H1 vs x s1 sl1 r k => ?_)
    obtain ⟨k1, k2⟩ := k.grd
    refine ⟨by rw [r.length]; exact small_line k1, fun p hp => ?_⟩
    exact k2 _ _ _ (Ext.cell hp) (s1.newCell hp (RepO.lst r)) _ (.ref (by rw [← s1.len]; simp))
  · refine wE_of pe_dnewK fun p hp => ?_
    exact h _ _ _ (Ext.cell hp) (sr.newCell hp (RepO.dct (kv := []) (ks := []) rfl .nil)) _ (.ref (by rw [← sr.len]; simp))
  · obtain ⟨h1, h2⟩ := h.grd
    exact dispC_ok hE C sl sr (by simp) h1 h2
  · rename_i o ap a cp
    obtain ⟨h1, h2⟩ := h.grd
    rw [Bool.and_eq_true, Bool.and_eq_true] at h1
    obtain ⟨⟨g1, g2⟩, g3⟩ := h1
    refine wE_of (pe_m1 PySem.F.slot_str_split PySem.F.type_str_split mt_split pwE pwE (star_no g2) (own_base g1 _) g3) ?_
    refine (show wE X o σ H _ from hE.e' C sl sr h2 fun x S1 ρ1 B1 H1 v x1 s1 sl1 r1 k1 => ?_)
    cases x with
    | str z =>
      cases r1
      refine ⟨⟨z, rfl⟩, (show wE X a σ H1 _ from hE.e' C sl1 s1 k1 fun y S2 ρ2 B2 H2 v2 x2 s2 sl2 r2 k2 => ?_)⟩
      cases y with
      | str b =>
        cases r2
        obtain ⟨k3, k4⟩ := k2.grd
        rw [Bool.and_eq_true] at k3
        rw [txtSplit_eq] at k4
        exact ⟨z, b, rfl, rfl, by simpa using k3.1, small_line k3.2, fun p hp => k4 _ _ _ (Ext.cell hp) (s2.newCell hp (RepO.lst (repL_strs _))) _ (.ref (by rw [← s2.len]; simp))⟩
      | _ => exact k2.elim
    | _ => exact k1.elim
  · rename_i dp a cp
    obtain ⟨h1, h2⟩ := h.grd
    rw [Bool.and_eq_true, Bool.and_eq_true] at h1
    refine wE_of (pe_callTy callW_r (glo_okB C h1.1.1) (free_ok C h1.1.2) PyProof.Rows.boot_dict (pa_cons pwE pa_nil (hs := star_no h1.2)) (by decide) (by decide) (star_no h1.2) (by rfl)) ?_
    refine (show wE X a σ H _ from hE.e' C sl sr h2 fun w S1 ρ1 B1 H1 v x1 s1 sl1 r1 k => ?_)
    cases q : dictOf S1 w with
    | none => rw [q] at k; exact k.elim
    | some ks =>
      rw [q] at k
      exact dictOf_ok C s1 r1 q fun p kv e r hp => k _ _ _ (Ext.cell hp) (s1.newCell hp (RepO.dct e r)) _ (.ref (by rw [← s1.len]; simp))
  · refine wE_of (pe_op opW_r pwE pwE) (hE.e' C sl sr h fun w S1 ρ1 B1 H1 v x1 s1 sl1 r1 k1 => hE.e' C sl1 s1 k1 fun w2 S2 ρ2 B2 H2 v2 x2 s2 sl2 r2 k2 => ?_)
    split at k2
    · rename_i xs ys q1 q2
      obtain ⟨k3, k4⟩ := k2.grd
      obtain ⟨a1, vs1, rfl, h1, rr1⟩ := lstE_ok s2 (r1.mono x2.b x2.pre) q1
      obtain ⟨a2, vs2, rfl, h2, rr2⟩ := lstE_ok s2 r2 q2
      exact opW_of op_cat ⟨_, _, _, _, rfl, rfl, h1, h2, by rw [rr1.length, rr2.length]; exact small_line k3, fun p hp => k4 _ _ _ (Ext.cell hp) (s2.newCell hp (RepO.lst (rr1.append rr2))) _ (.ref (by rw [← s2.len]; simp))⟩
    · obtain ⟨c, e, k3⟩ := k2.lift
      exact binop_ok s2 (r1.mono x2.b x2.pre) r2 e (fun ρ' B' H' v' x s r => k3 ρ' B' H' x s v' r)
  · exact hE.e C sl sr h
theorem valC_ok (hE : EvOk pg cl E) (C : CxOk pg cl g Wx X) {fl : Bool} {e : Expr} {env : Env'} {S : Sto} {σ : L2.St} {ρ : List Addr} {B H : Hp} {Q : VK} (sl : Sl X.K B ρ σ env) (sr : SR X.K ρ S B H)
    (h : Hold X.K (valC pg E g env S fl e) ρ B H (okE X.K Q) (ExP X.K X.mg Wx)) : wE X e σ H Q := by
  unfold valC at h
  split at h
  · refine wE_of (pe_ifExp pwT pwE pwE) (hE.t' C sl sr h fun c S1 ρ1 B1 H1 x1 s1 sl1 k => ?_)
    cases c with
    | true => exact iteT (valC0_ok hE C sl1 s1 k)
    | false => exact iteF (valC0_ok hE C sl1 s1 k)
  · exact valC0_ok hE C sl sr h
theorem valC_bind (hE : EvOk pg cl E) (C : CxOk pg cl g Wx X) {β : Type} {fl : Bool} {e : Expr} {env : Env'} {S : Sto} {σ : L2.St} {ρ : List Addr} {B H : Hp} {Q : VK} {f : W → Sto → R β} {ok : β → Sto → List Addr → Hp → Hp → Prop} (sl : Sl X.K B ρ σ env) (sr : SR X.K ρ S B H)
    (hd : Hold X.K ((valC pg E g env S fl e).bind f) ρ B H ok (ExP X.K X.mg Wx)) (k : ∀ w S' ρ' B' H' v, Ext ρ B H ρ' B' H' → SR X.K ρ' S' B' H' → Sl X.K B' ρ' σ env → Rep X.K B' ρ' v w → Hold X.K (f w S') ρ' B' H' ok (ExP X.K X.mg Wx) → Q v H') : wE X e σ H Q :=
  valC_ok hE C sl sr (hd.bind.imp (fun w S' ρ' B' H' x s' q v r => k w S' ρ' B' H' v x s' (sl.mono x) r q) fun _ _ _ _ _ _ q => q)
theorem no_swapA {e o : Expr} {f : Str} {p : Pos} {n : Nat} {env : Env} : swapsWith e (some (.Attribute o f p)) n env = pure false := by
  cases e <;> rfl
theorem zip_rep {K : PySem.W.Frag} {B : Hp} {ρ : List Addr} : ∀ {ns : List Str} {vs : List V} {ws : List W}, RepL K B ρ vs ws → RepF K B ρ (ns.zip vs) (ns.zip ws)
  | [], _, _, _ => .nil
  | _ :: _, _, _, .nil => .nil
  | _ :: _, _, _, .cons h r => .cons h (zip_rep r)
theorem repF_app {K : PySem.W.Frag} {B : Hp} {ρ : List Addr} : ∀ {a c : List (Str × V)} {b d : List (Str × W)}, RepF K B ρ a b → RepF K B ρ c d → RepF K B ρ (a ++ c) (b ++ d)
  | _, _, _, _, .nil, s => s
  | _, _, _, _, .cons h r, s => .cons h (repF_app r s)
theorem repF_rev {K : PySem.W.Frag} {B : Hp} {ρ : List Addr} : ∀ {a : List (Str × V)} {b : List (Str × W)}, RepF K B ρ a b → RepF K B ρ a.reverse b.reverse
  | _, _, .nil => .nil
  | _, _, .cons h r => by
    rw [List.reverse_cons, List.reverse_cons]
    exact repF_app (repF_rev r) (.cons h .nil)
theorem passF {W : WX} (σ : L2.St) : PassesAt (L2.CX X.prog X.w) X σ (fun _ _ _ => False) := passAt (W := fun _ _ _ _ => False) takes0 σ
/-! ### except clauses -/
theorem repF_look {K : PySem.W.Frag} {B : Hp} {ρ : List Addr} {f : Str} {w : W} : ∀ {fv : List (Str × V)} {fs : List (Str × W)}, RepF K B ρ fv fs → fs.lookup f = some w → ∃ v, fv.lookup f = some v ∧ Rep K B ρ v w
  | _, _, .nil, h => by cases h
  | _, _, @RepF.cons _ _ _ _ x v w' fv fs r t, h => by
    rw [List.lookup_cons] at h ⊢
    cases q : f == x with
    | true =>
      rw [q] at h
      cases h
      exact ⟨v, rfl, r⟩
    | false =>
      rw [q] at h
      exact repF_look t h
theorem xd_out {K : PySem.W.Frag} {ρ : List Addr} {S : Sto} {B H : Hp} {d : Addr} {fv : List (Str × V)} (s : SR K ρ S B H) (h : H d = some (.xd fv)) : d ∉ ρ := fun hm => by
  obtain ⟨i, hi⟩ := List.getElem?_of_mem hm
  have hl : i < S.length := by rw [← s.len]; exact (List.getElem?_eq_some_iff.mp hi).1
  have c := s.cell i d S[i] hi (by simp [hl])
  cases q : isImd S[i] with
  | false =>
    obtain ⟨_, u, hu, r⟩ := c.live q
    rw [h] at hu
    cases hu
    cases r
  | true =>
    cases qs : S[i] with
    | imd ks =>
      rw [qs] at c
      obtain ⟨kv, h1, _⟩ := c
      rcases Same.rd s.same h1 with z | ⟨o, z⟩
      · rw [h] at z; cases z
      · rw [h] at z; cases z
    | lck ks =>
      rw [qs] at c
      obtain ⟨_, o, kv, h1, _⟩ := c
      rw [h] at h1; cases h1
    | kd ks vs =>
      rw [qs] at c
      obtain ⟨_, _, _, _, o, xs, us, h1, _⟩ := c
      rw [h] at h1; cases h1
    | _ => rw [qs] at q; cases q
theorem repF_mono {K : PySem.W.Frag} {B B' : Hp} {ρ ρ' : List Addr} (s : Same B B') (p : ∃ m, ρ' = ρ ++ m) : ∀ {fv : List (Str × V)} {fs : List (Str × W)}, RepF K B ρ fv fs → RepF K B' ρ' fv fs
  | _, _, .nil => .nil
  | _, _, .cons r t => .cons (r.mono s p) (repF_mono s p t)
section
variable {n c : Str} {fs : List (Str × W)} {i : Nat} {a d Ca : Addr} {oe : Obj} {pn : List (Addr × Obj)} {fv : List (Str × V)} {σ : L2.St}
theorem suT_ok (C : CxOk pg cl g Wx X) (hi : X.N[i]? = some n) (hv : visB g.sc n = true) (od : odd n = false) (hs : σ[i]? = some (some (.ref a))) (hc : X.mg c = some (.ref Ca)) (hz : Zc (.ref Ca) (some d) oe) (hf : ∃ vs, oe.data = .fields vs)
    {e : Expr} {b : Bool} {ρ : List Addr} {S : Sto} {B H : Hp} {Q : Bool → Hp → Prop} (sr : SR X.K ρ S B H) (hd : H d = some (.xd fv)) (h : suT pg g n c e = some b) (q : Q b H) : wT (X.suite a ((a, oe) :: pn)) e σ H Q := by
  unfold suT at h
  split at h
  · rename_i f p1 y p2 t p3 pos
    split at h
    · rename_i hh
      obtain ⟨rfl, rfl, g1, g2, g3, g4⟩ := hh
      obtain ⟨C2, cv, m2, xc, kit, hcv⟩ := C.exi c t b h
      cases hc.symm.trans m2
      have no := odd_no (x := y) (by rw [od]; rfl)
      have not_ := odd_no (x := t) (by rw [g4]; rfl)
      have p1 : PE (X.suite a ((a, oe) :: pn)) (.Name y p2) (tVar i) := pe_var hi (vis_ok C hv) no.1 no.2.1
      have gi : X.mg "isinstance" = none := C.free _ (List.contains_iff_mem.mp g2)
      refine wT_of (pt_truth (pe_callB (call_isX xc hz hf) (glo_okB C g1) gi rfl (pa_cons p1 (pa_cons (pwE (X := X.suite a ((a, oe) :: pn)) (e := .Name t p3)) pa_nil))) (fun _ => rfl)) ?_
      have fin : ∀ c' : V, RelV c' cv → (∀ u, RelV c' u → u = cv) → rIsX X.K Ca a d [.ref a, c'] H fun x H1 => ∃ b, TruV X.K x H1 b ∧ Q b H1 := fun c' _ h2 => ⟨c', cv, b, fv, rfl, h2, hd, kit, b, truth_ok sr (.bl b) rfl, q⟩
      rcases hcv with ⟨Ct, m3, rfl⟩ | ⟨m3, T, hb, rfl⟩
      · refine ⟨_, hs, (show wE (X.suite a ((a, oe) :: pn)) (.Name t p3) σ H _ from wE_of (pe_glob (X := X.suite a ((a, oe) :: pn)) (glo_okB C g3) m3 (v := .ref Ct) rfl not_.1) (by exact fin (.ref Ct) rfl fun u r => r))⟩
      · refine ⟨_, hs, (show wE (X.suite a ((a, oe) :: pn)) (.Name t p3) σ H _ from wE_of (pe_bltn (X := X.suite a ((a, oe) :: pn)) (glo_okB C g3) m3 hb (v := .ty T) rfl not_.2.2 not_.1) (by exact fin (.ty T) rfl fun u r => r))⟩
    · cases h
  · cases h
mutual
theorem suE_ok (C : CxOk pg cl g Wx X) (hi : X.N[i]? = some n) (hv : visB g.sc n = true) (od : odd n = false) (hs : σ[i]? = some (some (.ref a))) (hc : X.mg c = some (.ref Ca)) (hz : Zc (.ref Ca) (some d) oe) (hf : ∃ vs, oe.data = .fields vs) :
    ∀ {k : Nat} {e : Expr} {w : W} {ρ : List Addr} {S : Sto} {B H : Hp} {Q : VK}, SR X.K ρ S B H → H d = some (.xd fv) → RepF X.K B ρ fv fs → suE pg g n c fs k e = some w → Val X.K w S Q ρ B H → wE (X.suite a ((a, oe) :: pn)) e σ H Q
  | 0, e, w, ρ, S, B, H, Q, sr, hd, rf, h, q => by cases h
  | k + 1, e, w, ρ, S, B, H, Q, sr, hd, rf, h, q => by
    unfold suE at h
    split at h
    · split at h
      · cases h; exact wE_of pe_int (q.here sr (.int _))
      · cases h; exact wE_of pe_bl (q.here sr (.bl _))
      · cases h; exact wE_of pe_non (q.here sr .non)
      · cases h; exact wE_of pe_str (q.here sr (.str _))
      · cases h
    · rename_i y p1 f p2
      split at h
      · rename_i hh
        obtain ⟨rfl, hx⟩ := hh
        obtain ⟨C2, m2, T, no⟩ := C.exf c f hx
        cases hc.symm.trans m2
        have no2 := odd_no (x := y) (by rw [od]; rfl)
        have p1 : PE (X.suite a ((a, oe) :: pn)) (.Name y p1) (tVar i) := pe_var hi (vis_ok C hv) no2.1 no2.2.1
        obtain ⟨v, l, rv⟩ := repF_look rf h
        exact wE_of (pe_xf T no hz hf p1) ⟨_, hs, rfl, rfl, d, fv, v, rfl, hd, l, q.here sr rv⟩
      · cases h
    · rename_i es p1 p2
      split at h
      · rename_i ws ns hws
        split at h
        · rename_i hsm
          cases h
          refine wE_of (pe_tup pwA) (suEs_ok C hi hv od hs hc hz hf sr hd rf (fun e he => List.all_eq_true.mp ns e he) hws fun ρ1 B1 H1 vs x1 s1 r => ⟨by rw [r.length]; exact small_line hsm, fun p hp => ?_⟩)
          exact Val.newT (fun ρ' B' H' v x s rv => q ρ' B' H' v (x1.trans x) s rv) s1 r hp
        · cases h
      · cases h
    · rename_i t x y p1
      split at h
      · rename_i ht
        exact wE_of (pe_ifExp pwT pwE pwE) (suT_ok C hi hv od hs hc hz hf sr hd ht (show wE (X.suite a ((a, oe) :: pn)) _ σ H Q from suE_ok C hi hv od hs hc hz hf sr hd rf h q))
      · rename_i ht
        exact wE_of (pe_ifExp pwT pwE pwE) (suT_ok C hi hv od hs hc hz hf sr hd ht (show wE (X.suite a ((a, oe) :: pn)) _ σ H Q from suE_ok C hi hv od hs hc hz hf sr hd rf h q))
      · cases h
    · cases h
theorem suEs_ok (C : CxOk pg cl g Wx X) (hi : X.N[i]? = some n) (hv : visB g.sc n = true) (od : odd n = false) (hs : σ[i]? = some (some (.ref a))) (hc : X.mg c = some (.ref Ca)) (hz : Zc (.ref Ca) (some d) oe) (hf : ∃ vs, oe.data = .fields vs) :
    ∀ {k : Nat} {es : List Expr} {ws : List W} {ρ : List Addr} {S : Sto} {B H : Hp} {P : List V → Hp → Prop}, SR X.K ρ S B H → H d = some (.xd fv) → RepF X.K B ρ fv fs → (∀ e ∈ es, notStar e = true) → suEs pg g n c fs k es = some ws →
      (∀ ρ' B' H' vs, Ext ρ B H ρ' B' H' → SR X.K ρ' S B' H' → RepL X.K B' ρ' vs ws → P vs H') → wA (X.suite a ((a, oe) :: pn)) es σ H P
  | 0, es, ws, ρ, S, B, H, P, sr, hd, rf, ns, h, q => by cases h
  | k + 1, [], ws, ρ, S, B, H, P, sr, hd, rf, ns, h, q => by
    cases h
    exact wA_of pa_nil (q ρ B H [] Ext.refl sr .nil)
  | k + 1, e :: es, ws, ρ, S, B, H, P, sr, hd, rf, ns, h, q => by
    unfold suEs at h
    split at h
    · rename_i w ws' h1 h2
      cases h
      refine wA_of (pa_cons pwE pwA (star_no (ns e (List.mem_cons_self ..)))) (suE_ok C hi hv od hs hc hz hf sr hd rf h1 fun ρ1 B1 H1 v x1 s1 rv => ?_)
      have hd1 : H1 d = some (.xd fv) := x1.frame d _ hd (fun _ => rfl) (xd_out sr hd)
      refine (show wA (X.suite a ((a, oe) :: pn)) es σ H1 _ from suEs_ok C hi hv od hs hc hz hf s1 hd1 (repF_mono x1.b x1.pre rf) (fun e' he => ns e' (List.mem_cons_of_mem _ he)) h2 fun ρ2 B2 H2 vs x2 s2 rs => ?_)
      exact q ρ2 B2 H2 _ (x1.trans x2) s2 (.cons (rv.mono x2.b x2.pre) rs)
    · cases h
end
theorem suB_ok (C : CxOk pg cl g Wx X) (hi : X.N[i]? = some n) (hv : visB g.sc n = true) (od : odd n = false) (hs : σ[i]? = some (some (.ref a))) (hc : X.mg c = some (.ref Ca)) (hz : Zc (.ref Ca) (some d) oe) (hf : ∃ vs, oe.data = .fields vs)
    {e : Expr} {b : Bool} {ρ : List Addr} {S : Sto} {B H : Hp} {Q : Bool → Hp → Prop} (sr : SR X.K ρ S B H) (hd : H d = some (.xd fv)) (rf : RepF X.K B ρ fv fs) (h : suB pg g n c fs S e = some b) (q : ∀ ρ' B' H', Ext ρ B H ρ' B' H' → SR X.K ρ' S B' H' → Q b H') : wT (X.suite a ((a, oe) :: pn)) e σ H Q := by
  unfold suB at h
  split at h
  · rename_i l op r pos
    split at h
    · rename_i x y hm h1 h2
      refine wT_of (pt_cmpR opW_r pwE pwE hm) (suE_ok C hi hv od hs hc hz hf sr hd rf h1 fun ρ1 B1 H1 v1 x1 s1 r1 => ?_)
      have hd1 : H1 d = some (.xd fv) := x1.frame d _ hd (fun _ => rfl) (xd_out sr hd)
      refine (show wE (X.suite a ((a, oe) :: pn)) r σ H1 _ from suE_ok C hi hv od hs hc hz hf s1 hd1 (repF_mono x1.b x1.pre rf) h2 fun ρ2 B2 H2 v2 x2 s2 r2 => ?_)
      refine cmpop_ok (X := X.suite a ((a, oe) :: pn)) C.un s2 (r1.mono x2.b x2.pre) r2 h (fun ρ' B' H' v' x s r => ?_)
      cases r
      exact ⟨b, rfl, q ρ' B' H' ((x1.trans x2).trans x) s⟩
    · cases h
  · cases h
end
/-- what a clause does, whatever the exception's object -/
def tsOf (X : Cx) (suite : List Stmt) : Addr → Value → Option Addr → TS := fun a cls d D σ H => ∀ oe pn, Zc cls d oe → (∃ vs, oe.data = .fields vs) → wSs (X.suite a ((a, oe) :: pn)) suite D σ H
theorem cx_tr (C : CxOk pg cl g Wx X) {W : WX} {pn : List (Addr × Obj)} {xe : Value → Shared → Prop} (tk : Takes (X.tr pn xe) W) (ps : PassesOwn (model X.prog X.w) X.A X.env xe) : CxOk pg cl g W (X.tr pn xe) :=
  C.elim fun lv C => ⟨lv, {
    N := C.N
    nd := C.nd
    sc := C.sc
    fn := C.fn
    calm := C.calm
    un := C.un
    pass := ps
    tk := tk
    cst := C.cst
    fns := C.fns
    wd := C.wd
    free := C.free
    flds := C.flds
    xcs := C.xcs
    top := C.top
    exk := C.exk
    exm := C.exm
    exf := C.exf
    exi := C.exi
    isi := C.isi
    mts := C.mts
    news := C.news
    eqs := C.eqs
    ownT := C.ownT
    rm := C.rm
    lam := C.lam
    told := C.told }⟩
theorem hands_of (C : CxOk pg cl g Wx X) : ∀ {hds : List ExceptHandler}, hds.all (hdOk pg g) = true → ∃ l : List Hand, Hands X hds l ∧
    ∀ {c : Str} {fs : List (Str × W)} {env : Env'} {S : Sto} {D : Ends} {ρ0 ρ : List Addr} {B0 H0 B H : Hp}, Hold X.K (hdR pg g c fs env S hds) ρ0 B0 H0 (okS X.K D) (ExP X.K X.mg Wx) → Ext ρ0 B0 H0 ρ B H → SR X.K ρ S B H →
      ExP X.K X.mg (wHands X.K Wx D l) c fs env ρ B H
  | [], _ => ⟨[], .nil, fun h x s => h _ _ _ x s⟩
  | hd :: hds, h => by
    rw [List.all_cons, Bool.and_eq_true] at h
    obtain ⟨l, h1, h2⟩ := hands_of C h.2
    have hk := h.1
    unfold hdOk at hk
    split at hk
    · rename_i x p1 n t e p2 p3 p4
      rw [Bool.and_eq_true, Bool.and_eq_true, Bool.and_eq_true, Bool.and_eq_true, Bool.and_eq_true] at hk
      obtain ⟨⟨⟨⟨⟨g1, g2⟩, g3⟩, g4⟩, g5⟩, g6⟩ := hk
      obtain ⟨Cx, mx⟩ := C.exk x g3
      obtain ⟨i, hi⟩ := Option.isSome_iff_exists.mp g4
      have loc : g.sc.names.lookup n = some .local := eq_of_beq g5
      have hi' : X.N[i]? = some n := by rw [C.N]; exact slotOf_get hi
      refine ⟨(.ref Cx, i, tsOf X [.If t [.Return (some e) p2] [] p3]) :: l, .cons ⟨glo_okB C g1, (odd_no g2).1, .inl mx⟩ hi' (by show X.env.scope.names.lookup n = _; rw [C.sc]; exact loc) (fun a oe cls d pn hz hf => ⟨fun pins s σ H D I q => (q oe pn hz hf) pins s I⟩) h1, ?_⟩
      intro c fs env S D ρ0 ρ B0 H0 B H hh x0 s σ' Ca d fv sl mc hd rf
      unfold hdR at hh
      cases q : pg.exm c x with
      | none => rw [q] at hh; exact hh.elim
      | some b =>
        obtain ⟨C3, Cx3, m3, mx3, em⟩ := C.exm c x b q
        cases mc.symm.trans m3
        cases mx.symm.trans mx3
        rw [q] at hh
        cases b with
        | false => exact ⟨false, em, (fun z => by cases z), fun _ => h2 hh x0 s σ' Ca d fv sl mc hd rf⟩
        | true =>
          refine ⟨true, em, fun _ a ha => ?_, fun z => by cases z⟩
          intro oe pn hz hf
          obtain ⟨lt, hh⟩ := hh.grd
          rw [hi] at lt hh
          have od : odd n = false := by simpa using g6
          have vis : visB g.sc n = true := by unfold visB; rw [loc]
          have hi2 : i < σ'.length := by
            rw [sl.len]
            exact of_decide_eq_true lt
          have at_ : (σ'.set i (some (.ref a)))[i]? = some (some (.ref a)) := by rw [List.getElem?_set_self hi2]
          cases qt : suB pg g n c fs S t with
          | none => rw [qt] at hh; exact hh.elim
          | some bb =>
            rw [qt] at hh
            refine wSs_of (pss_one (ps_if (pwT (X := X.suite a ((a, oe) :: pn)) (e := t)) (pwSs (X := X.suite a ((a, oe) :: pn))) pwSs)) (show wT (X.suite a ((a, oe) :: pn)) t _ H _ from suB_ok C hi' vis od at_ mc hz hf s hd rf qt fun ρ1 B1 H1 x1 s1 => ?_)
            have hd1 : H1 d = some (.xd fv) := x1.frame d _ hd (fun _ => rfl) (xd_out s hd)
            cases bb with
            | true =>
              obtain ⟨w, ew, k⟩ := hh.bind.lift
              refine (show wSs (X.suite a ((a, oe) :: pn)) [.Return (some e) p2] _ _ H1 from wSs_of (pss_one (ps_ret (pwE (X := X.suite a ((a, oe) :: pn)) (e := e)))) (suE_ok C hi' vis od at_ mc hz hf s1 hd1 (repF_mono x1.b x1.pre rf) ew fun ρ' B' H' v x sr rv => ?_))
              exact (k ρ B H x0 s).ext (x1.trans x) |>.here sr v rv
            | false =>
              refine (show wSs (X.suite a ((a, oe) :: pn)) [] _ _ H1 from wSs_of pss_nil ?_)
              have k := hh ρ1 B1 H1 (x0.trans x1) s1
              have e2 : (σ'.set i (some (V.ref a))).set i none = wipe σ' [i] := by
                show _ = σ'.set i none
                rw [List.set_set]
              show D.nx ((σ'.set i (some (V.ref a))).set i none) H1
              rw [e2]
              exact k _ ((sl.mono x1).wipe [i])
    · rename_i x p1 n e p2 p3
      rw [Bool.and_eq_true, Bool.and_eq_true, Bool.and_eq_true, Bool.and_eq_true, Bool.and_eq_true] at hk
      obtain ⟨⟨⟨⟨⟨g1, g2⟩, g3⟩, g4⟩, g5⟩, g6⟩ := hk
      obtain ⟨Cx, mx⟩ := C.exk x g3
      obtain ⟨i, hi⟩ := Option.isSome_iff_exists.mp g4
      have loc : g.sc.names.lookup n = some .local := eq_of_beq g5
      have hi' : X.N[i]? = some n := by rw [C.N]; exact slotOf_get hi
      refine ⟨(.ref Cx, i, tsOf X [.Return (some e) p2]) :: l, .cons ⟨glo_okB C g1, (odd_no g2).1, .inl mx⟩ hi' (by show X.env.scope.names.lookup n = _; rw [C.sc]; exact loc) (fun a oe cls d pn hz hf => ⟨fun pins s σ H D I q => (q oe pn hz hf) pins s I⟩) h1, ?_⟩
      intro c fs env S D ρ0 ρ B0 H0 B H hh x0 s σ' Ca d fv sl mc hd rf
      unfold hdR at hh
      cases q : pg.exm c x with
      | none => rw [q] at hh; exact hh.elim
      | some b =>
        obtain ⟨C3, Cx3, m3, mx3, em⟩ := C.exm c x b q
        cases mc.symm.trans m3
        cases mx.symm.trans mx3
        rw [q] at hh
        cases b with
        | false => exact ⟨false, em, (fun z => by cases z), fun _ => h2 hh x0 s σ' Ca d fv sl mc hd rf⟩
        | true =>
          refine ⟨true, em, fun _ a ha => ?_, fun z => by cases z⟩
          intro oe pn hz hf
          obtain ⟨lt, hh⟩ := hh.grd
          rw [hi] at lt
          obtain ⟨w, ew, k⟩ := hh.bind.lift
          have od : odd n = false := by simpa using g6
          have vis : visB g.sc n = true := by unfold visB; rw [loc]
          have hi2 : i < σ'.length := by
            rw [sl.len]
            exact of_decide_eq_true lt
          refine wSs_of (pss_one (ps_ret (pwE (X := X.suite a ((a, oe) :: pn)) (e := e)))) (suE_ok C hi' vis od (by rw [List.getElem?_set_self hi2]) mc hz hf s hd rf ew fun ρ' B' H' v x sr rv => ?_)
          exact (k ρ B H x0 s).ext x |>.here sr v rv
    · cases hk
theorem no_swapS {o i e : Expr} {p : Pos} {env : Env} : swappedStores [.Subscript o i p] e env = pure none := by
  cases e <;> rfl
theorem no_soleS {o i e : Expr} {p : Pos} {l : Nat} {env : Env} : swapsWithSole [.Subscript o i p] e l env = pure false := by
  cases e <;> rfl
theorem sub_assign {o i : Expr} {p : Pos} {env : Env} (h : plainIx i = true) : ∀ v, assign (.Subscript o i p) env v = (do
    let ov ← holding [v] (eval o env)
    let iv ← holding [v, ov] (eval i env)
    standAt p
    holding [v, ov, iv] (setItem ov iv v)
    release [v, ov, iv] []) := by
  intro v
  cases i <;> first | rfl | cases h
/-- a for over a dict -/
theorem forD_ok (hE : EvOk pg cl E) (C : CxOk pg cl g Wx X) {tg iter : Expr} {body : List Stmt} {pos : Pos} {env : Env'} {S S1 : Sto} {items : List W} {σ : L2.St} {ρ : List Addr} {B H : Hp} {D : Ends} (sl : Sl X.K B ρ σ env) (sr : SR X.K ρ S B H)
    (hdw : dWalk pg g env S tg iter = some (items, S1)) (g1 : notSet iter = true) (g2 : tgOk g tg = true)
    (h : Hold X.K (match dFlag pg g env S iter with
      | some n => unlR n (forR (fun env S => seqR (fun env S s => E.s g env S s) body env S) (bindT g tg) (fun _ => true) items env S1)
      | none => noExc (forR (fun env S => seqR (fun env S s => E.s g env S s) body env S) (bindT g tg) (fun _ => true) items env S1)) ρ B H (okS X.K D) (ExP X.K X.mg Wx)) : wS X (.For tg iter body [] pos) D σ H := by
  unfold dWalk at hdw
  cases qw : walkOf iter with
  | mk p k =>
    rw [qw] at hdw
    cases qp : pathW pg g env S p with
    | none => simp only [qp] at hdw; cases hdw
    | some w =>
      simp only [qp] at hdw
      have qf : dFlag pg g env S iter = liveD S w := by
        unfold dFlag
        rw [qw]
        simp only [qp]
      rw [qf] at h
      cases qd : dictAt S w with
      | none => simp only [qd] at hdw; cases hdw
      | some z =>
        obtain ⟨ks, S1'⟩ := z
        simp only [qd] at hdw
        split at hdw
        · cases hdw
        · rename_i ht
          cases hdw
          obtain ⟨v, rv, hp⟩ := path_ok C sl sr qp
          have core : ∀ {d : Addr} {kv : List (Key × V)} {B2 H2 : Hp} {o : Obj} {D2 : Ends}, v = .ref d → H2 d = some (.frz o (.dK kv)) → kv.map Prod.fst = ks.map Prod.fst → Sl X.K B2 ρ σ env → SR X.K ρ S1 B2 H2 → RepL X.K B2 ρ (kv.map Prod.snd) (ks.map Prod.snd) → Kp H H2 →
              Hold X.K (forR (fun env S => seqR (fun env S s => E.s g env S s) body env S) (bindT g tg) (fun _ => true) (itemsOf ks k) env S1) ρ B2 H2 (okS X.K D2) (ExP X.K X.mg Wx) → wS X (.For tg iter body [] pos) D2 σ H2 := by
            intro d kv B2 H2 o D2 ev hd2 e0 sl2 s2 rr2 keep hh
            subst ev
            refine wS_of (ps_for C.pass C.calm pwI (pg_tg C g2) pwSs (not_set g1)) ?_
            refine dI_ok qw ht (path_own qp) hd2 e0 rr2 (fun {Q} q => hp keep q) fun J wk => ?_
            exact forR_ok (items := still (itemsOf ks k)) (fun sl sr h => seqR_ok hE C sl sr h) wk sl2 s2 hh
          have keep2 : ∀ {d : Addr} {kv : List (Key × V)} {od : Obj}, H d = some (.dK kv) → Kp H (upd H d (.frz od (.dK kv))) := fun {d kv od} hd => ⟨fun a Ca dx fv z => by
            have hne : a ≠ d := fun e => by rw [e, hd] at z; cases z
            rw [upd_ne hne]
            exact z, kp_rd hd (.inl rfl) (.inr ⟨_, rfl⟩)⟩
          cases ql : liveD S w with
          | some n =>
            rw [ql] at h
            replace h := (show Hold X.K (unlR n (forR (fun env S => seqR (fun env S s => E.s g env S s) body env S) (bindT g tg) (fun _ => true) (itemsOf ks k) env S1)) ρ B H (okS X.K D) (ExP X.K X.mg Wx) from h)
            obtain ⟨d, kv, ev, eS, hn, hb, hd, e0, rr⟩ := dictAt_live sr rv qd ql
            subst eS
            refine wS_of (ps_lock pwS) ⟨d, .dK kv, hd, trivial, fun od => ?_⟩
            have z := Hold.lockL (od := od) h hn hd
            refine (show wS X _ _ σ (upd H d (.frz od (.dK kv))) from core ev upd_same e0 sl (sr.lockL hn hb hd e0 rr) rr (keep2 hd) (z.imp (fun o S' ρ' B' H' x s' q => ?_) fun _ _ _ _ _ _ z => z))
            obtain ⟨q1, S2, q2⟩ := q
            cases o with
            | next env2 => exact fun σ' sl' => ⟨q1, q2 σ' sl'⟩
            | ret w2 => exact fun v r => ⟨q1, q2 v r⟩
            | brk env2 => exact fun σ' sl' => ⟨q1, q2 σ' sl'⟩
            | cont env2 => exact fun σ' sl' => ⟨q1, q2 σ' sl'⟩
          | none =>
            rw [ql] at h
            replace h := (show Hold X.K (noExc (forR (fun env S => seqR (fun env S s => E.s g env S s) body env S) (bindT g tg) (fun _ => true) (itemsOf ks k) env S1)) ρ B H (okS X.K D) (ExP X.K X.mg Wx) from h)
            obtain ⟨d, kv, ev, eS, rd, e0, rr⟩ := dictAt_ok sr rv qd ql
            subst eS
            rcases rd with hb | ⟨o, hd⟩
            · have hd : H d = some (.dK kv) := sr.same _ _ hb
              refine wS_of (ps_lock pwS) ⟨d, .dK kv, hd, trivial, fun od => ?_⟩
              have i : Is kv (.dK kv) := .inl rfl
              have i' : Is kv (.frz od (.dK kv)) := .inr ⟨od, rfl⟩
              refine (show wS X _ _ σ (upd H d (.frz od (.dK kv))) from core ev upd_same e0 (sl.swap hb i i') (sr.swap hb i i') (rr.swap hb i i') (keep2 hd) ((h.lock hb hd i i' (ex' := ExP X.K X.mg Wx)).imp (fun o S' ρ' B' H' x s' q => ?_) fun _ _ _ _ _ _ z => z))
              cases o with
              | next env2 => exact fun σ' sl' => ⟨q.2.1, q.2.2 σ' (sl'.swap q.1 i' i)⟩
              | ret w2 => exact fun v r => ⟨q.2.1, q.2.2 v (r.swap q.1 i' i)⟩
              | brk env2 => exact fun σ' sl' => ⟨q.2.1, q.2.2 σ' (sl'.swap q.1 i' i)⟩
              | cont env2 => exact fun σ' sl' => ⟨q.2.1, q.2.2 σ' (sl'.swap q.1 i' i)⟩
            · refine core ev hd e0 sl sr rr ⟨fun _ _ _ _ z => z, fun _ _ z => z⟩ ?_
              cases qr : forR (fun env S => seqR (fun env S s => E.s g env S s) body env S) (bindT g tg) (fun _ => true) (itemsOf ks k) env S1 with
              | bad => rw [qr] at h; exact h.elim
              | exc c fs en S2 => rw [qr] at h; exact h.elim
              | ok w2 S2 => rw [qr] at h; exact h
theorem short_map {f : Expr → Option Str} : ∀ {es : List Expr}, (es.filterMap f).length = es.length → ∀ e ∈ es, (f e).isSome = true
  | [], _, e, h => nomatch h
  | a :: es, h, e, he => by
    rw [List.filterMap_cons] at h
    cases q : f a with
    | none =>
      rw [q] at h
      have := List.length_filterMap_le f es
      simp only [List.length_cons] at h
      omega
    | some x =>
      rw [q] at h
      simp only [List.length_cons, Nat.add_right_cancel_iff] at h
      rcases List.mem_cons.mp he with rfl | he
      · rw [q]; rfl
      · exact short_map h e he
theorem no_swapN {es : List Expr} {k : Nat} {p : Pos} {e : Expr} {env : Env} (hs : env.scope = g.sc) (h : nsw g es = true) : swappedStores [.Tuple es k p] e env = pure none := by
  cases e with
  | Tuple vs k2 p2 =>
    unfold swappedStores
    simp only []
    split
    · rfl
    split
    · rfl
    rw [if_pos]
    rw [Bool.or_eq_true]
    left
    rw [bne_iff_ne]
    intro hl
    have z := short_map hl
    unfold nsw at h
    obtain ⟨e, he, hb⟩ := List.any_eq_true.mp h
    have z2 := z e he
    cases e with
    | Name x px =>
      dsimp only at hb z2
      have kd : env.kindOf x = g.sc.names.lookup x := by rw [← hs]; rfl
      rw [kd] at z2
      have hb' : (g.sc.names.lookup x == some .local) = false := by simpa using hb
      rw [hb', Bool.false_and] at z2
      cases z2
    | _ => cases z2
  | _ => exact no_swap rfl
theorem genT_ok (hE : EvOk pg cl E) (C : CxOk pg cl g Wx X) {env : Env'} {S : Sto} {σ : L2.St} {ρ : List Addr} {B H : Hp} {D : Ends} {es : List Expr} {k : Nat} {p : Pos} {e : Expr} {pos : Pos} (sl : Sl X.K B ρ σ env) (sr : SR X.K ρ S B H) (ns : swappedStores [.Tuple es k p] e X.env = pure none)
    (h : Hold X.K (genT E g env S es k p e) ρ B H (okS X.K D) (ExP X.K X.mg Wx)) : wS X (.Assign [.Tuple es k p] e pos) D σ H := by
  obtain ⟨h1, h2⟩ := h.grd
  rw [Bool.and_eq_true] at h1
  refine wS_of (ps_asg pwE (pg_tg C h1.2) (no_sole h1.1) ns rfl) (show wE X _ σ H _ from hE.e' C sl sr h2 fun w S1 ρ1 B1 H1 v x1 s1 sl1 r k => ?_)
  split at k
  · rename_i env1 q
    exact bindT_ok s1 sl1 r q fun σ2 sl2 _ => k.here s1 σ2 sl2
  · exact k.elim
theorem stepS_ok (hE : EvOk pg cl E) (C : CxOk pg cl g Wx X) {st : Stmt} {env : Env'} {S : Sto} {σ : L2.St} {ρ : List Addr} {B H : Hp} {D : Ends} (sl : Sl X.K B ρ σ env) (sr : SR X.K ρ S B H)
    (h : Hold X.K (stepS pg cl E g env S st) ρ B H (okS X.K D) (ExP X.K X.mg Wx)) : wS X st D σ H := by
  unfold stepS at h
  split at h
  · exact wS_of (ps_ret pwE) (valC_bind hE C sl sr h fun w S1 ρ1 B1 H1 v x s1 sl1 r k => k.here s1 v r)
  · exact wS_of ps_retN (h.here sr .non .non)
  · exact wS_of ps_pass (h.here sr σ sl)
  · exact wS_of ps_break (h.here sr σ sl)
  · exact wS_of ps_continue (h.here sr σ sl)
  · obtain ⟨h1, h2⟩ := h.grd
    exact wS_of (ps_expr pwE (no_comp h1)) (hE.e' C sl sr h2 fun w S1 ρ1 B1 H1 v x s1 sl1 r k => k.here s1 σ sl1)
  · refine wS_of (ps_if pwT pwSs pwSs) (hE.t' C sl sr h fun d S1 ρ1 B1 H1 x s1 sl1 k => ?_)
    cases d with
    | true => exact (show wSs X _ D σ H1 from seqR_ok hE C sl1 s1 k)
    | false => exact (show wSs X _ D σ H1 from seqR_ok hE C sl1 s1 k)
  · rename_i x p e pos
    obtain ⟨h1, h2⟩ := h.grd
    obtain ⟨n1, n2, n3⟩ := name_slot C h1
    split at h2
    · rename_i elt tg iter ifs scope q
      have h3 : Hold X.K (lkE pg E g env S (g.muts.contains x) elt tg iter ifs scope) ρ B H (okE X.K fun v H' => D.nx (σ.set ((slotOf g.N x).getD 0) (some v)) H') (ExP X.K X.mg Wx) := h2.bind.imp (fun w S1 ρ1 B1 H1 x1 s1 k v r => nextN_ok k s1 (sl.mono x1) r) fun _ _ _ _ _ _ z => z
      unfold lkE at h3
      have all : ∀ {wi : TI}, PI X tg iter wi → notSet iter = true → BlkOk X.N X.env.scope scope (ownOf g.N tg) → tgOk (blkG g scope) tg = true → ifs.length ≤ 1 → tLc wi (tgG X.K (blkG g scope) tg) (ttOf X scope ifs) (wEb X scope elt) ((ownOf g.N tg).map (·.2)) σ H (fun v H' => D.nx (σ.set ((slotOf g.N x).getD 0) (some v)) H') → wS X (.Assign [.Name x p] (.ListComp elt [⟨tg, iter, ifs, 0⟩] scope q) pos) D σ H := by
        intro wi hi g1 bk g3 g4 t
        have pl := pe_lc (pos := q) C.calm C.nd hi bk (g := tgG X.K (blkG g scope) tg) (fun s0 H0 Ca cs fp => pg_tg (cx_blk C scope s0 H0 Ca cs fp) g3) (pts_of g4) (te := wEb X scope elt) (fun s0 H0 Ca cs fp => ⟨fun pins s σ' H' Q' I q => q s0 H0 Ca cs fp pins s I⟩) (not_set g1)
        rcases sw_comp elt [⟨tg, iter, ifs, 0⟩] scope q x p pos.line X.env with ⟨hw, hl⟩ | hw
        · exact wS_of (ps_setLc C.calm C.nd n1 hl hw hi bk (g := tgG X.K (blkG g scope) tg) (fun s0 H0 Ca cs fp => pg_tg (cx_blk C scope s0 H0 Ca cs fp) g3) (pts_of g4) (te := wEb X scope elt) (fun s0 H0 Ca cs fp => ⟨fun pins s σ' H' Q' I q => q s0 H0 Ca cs fp pins s I⟩) (not_set g1)) t
        · exact wS_of (ps_set C.nd n1 n2 pl hw n3) t
      split at h3
      · rename_i d1 q1 k1 q2 q3 d2 q4
        split at h3
        · split at h3
          · rename_i kp hkd
            obtain ⟨g5, h4⟩ := h3.grd
            rw [Bool.and_eq_true, Bool.and_eq_true] at g5
            obtain ⟨_, g6, g7⟩ := g5
            unfold lcG at g6
            rw [Bool.and_eq_true, Bool.and_eq_true, Bool.and_eq_true] at g6
            obtain ⟨⟨⟨g1, g2⟩, g3⟩, g4⟩ := g6
            obtain ⟨w, hw, k⟩ := h4.lift
            cases ho : mapO (fun x => kdItem g env S scope tg d1 k1 x.2) kp.1 with
            | none => rw [ho] at hw; cases hw
            | some out =>
              rw [ho] at hw
              cases hw
              have bk : BlkOk X.N X.env.scope scope (ownOf g.N tg) := by
                rw [C.N, C.sc]
                exact blkOk_by g2
              obtain ⟨wi, hi, t⟩ := lkd_ok (p1 := q1) (p2 := q2) (p3 := q3) (ks := kp.1) (vs := kp.2) C sl sr hkd g3 (of_decide_eq_true g7) ho (fun ρ' B' H' v x s r => k ρ' B' H' x s v r)
              exact all hi g1 bk g3 (by simp) t
          · obtain ⟨t, g1, bk, g3, g4⟩ := lcE_ok hE C sl sr h3
            exact all pwI g1 bk g3 g4 t
        · obtain ⟨t, g1, bk, g3, g4⟩ := lcE_ok hE C sl sr h3
          exact all pwI g1 bk g3 g4 t
      · obtain ⟨t, g1, bk, g3, g4⟩ := lcE_ok hE C sl sr h3
        exact all pwI g1 bk g3 g4 t
    · rename_i kx vx tg iter ifs scope q
      obtain ⟨t, g1, bk, g3, g4⟩ := dcE_ok hE C (pos := q) sl sr (h2.bind.imp (ok' := okE X.K fun v H' => D.nx (σ.set ((slotOf g.N x).getD 0) (some v)) H') (fun w S1 ρ1 B1 H1 x1 s1 k v r => nextN_ok k s1 (sl.mono x1) r) fun _ _ _ _ _ _ z => z)
      have pl := pe_dc (pos := q) C.calm C.nd (pwI (X := X) (tg := tg) (iter := iter)) bk (g := tgG X.K (blkG g scope) tg) (fun s0 H0 Ca cs fp => pg_tg (cx_blk C scope s0 H0 Ca cs fp) g3) (pts_of g4) (tk := wEb X scope kx) (fun s0 H0 Ca cs fp => ⟨fun pins s σ' H' Q' I q => q s0 H0 Ca cs fp pins s I⟩) (tv := wEb X scope vx) (fun s0 H0 Ca cs fp => ⟨fun pins s σ' H' Q' I q => q s0 H0 Ca cs fp pins s I⟩) (not_set g1)
      rcases sw_compD kx vx [⟨tg, iter, ifs, 0⟩] scope q x p pos.line X.env with ⟨hw, hl⟩ | hw
      · exact wS_of (ps_setDc C.calm C.nd n1 hl hw pwI bk (g := tgG X.K (blkG g scope) tg) (fun s0 H0 Ca cs fp => pg_tg (cx_blk C scope s0 H0 Ca cs fp) g3) (pts_of g4) (tk := wEb X scope kx) (fun s0 H0 Ca cs fp => ⟨fun pins s σ' H' Q' I q => q s0 H0 Ca cs fp pins s I⟩) (tv := wEb X scope vx) (fun s0 H0 Ca cs fp => ⟨fun pins s σ' H' Q' I q => q s0 H0 Ca cs fp pins s I⟩) (not_set g1)) t
      · exact wS_of (ps_set C.nd n1 n2 pl hw n3) t
    · rename_i q
      have nc : isComp (.Dict [] [] q) = false := rfl
      split at h2
      · obtain ⟨g1, g2⟩ := h2.grd
        refine wS_of (ps_set C.nd n1 n2 pe_dnewKd (no_comp (by rw [nc]; rfl)) n3) ?_
        show ∀ p o, H p = none → (p == sysModules) = false → KdObj Gam.wd o [] → _
        intro a o ha sy ob
        have x1 : Ext ρ B H (ρ ++ [a]) B (upd H a (kdO a o)) := Ext.cell ha
        have s1 := sr.newKd ha (C.ownT g1) sy ob
        exact nextN_ok (g2.ext x1) s1 (sl.mono x1) (.ref (by rw [← sr.len]; simp))
      · exact wS_of (ps_set C.nd n1 n2 pwE (no_comp (by rw [nc]; rfl)) n3) (show wE X _ σ H _ from valC_bind hE C sl sr h2 fun w S1 ρ1 B1 H1 v x1 s1 sl1 r k => nextN_ok k s1 sl1 r)
    · obtain ⟨g1, g2⟩ := h2.grd
      exact wS_of (ps_set C.nd n1 n2 pwE (no_comp g1) n3) (show wE X _ σ H _ from valC_bind hE C sl sr g2 fun w S1 ρ1 B1 H1 v x1 s1 sl1 r k => nextN_ok k s1 sl1 r)
  · rename_i o x p e pos
    refine wS_of (ps_fld pwE pwE no_swapA) (show wE X e σ H _ from valC_bind hE C sl sr h fun w S1 ρ1 B1 H1 v x1 s1 sl1 r1 k1 => hE.e' C sl1 s1 k1 fun w2 S2 ρ2 B2 H2 v2 x2 s2 sl2 r2 k2 => ?_)
    split at k2
    · rename_i n
      split at k2
      · rename_i c fs q
        obtain ⟨k3, k4⟩ := k2.grd
        rw [Bool.and_eq_true] at k3
        cases r2 with
        | ref hn =>
          obtain ⟨u, hu, ro⟩ := s2.at hn q
          cases ro with
          | ins hc e0 rr =>
            obtain ⟨C2, hc2, cl2, na⟩ := C.flds c x k3.1
            cases hc.symm.trans hc2
            obtain ⟨z1, z2⟩ := put_ok (f := x) (r1.mono x2.b x2.pre) e0 rr
            have ln := congrArg List.length e0
            simp only [List.length_map] at ln
            refine ⟨_, _, _, _, rfl, hu, cl2, na, by rw [ln]; exact of_decide_eq_true k3.2, ?_⟩
            exact k4 _ _ _ (Ext.setCell hn hu) (s2.setCell hn q (RepO.ins hc z1 z2)) σ (sl2.mono (Ext.setCell (H := H2) (o := HO.lst []) hn hu))
      · exact k2.elim
    · exact k2.elim
  · rename_i o i p e pos
    obtain ⟨h1, h2⟩ := h.grd
    refine wS_of (ps_asg pwE (pg_sub pwE pwE (set_any (by have := C.un; omega)) (sub_assign h1)) no_soleS no_swapS rfl) (show wE X e σ H _ from valC_bind hE C sl sr h2 fun y S1 ρ1 B1 H1 v1 x1 s1 sl1 r1 k1 => ?_)
    refine (show wE X o σ H1 _ from hE.e' C sl1 s1 k1 fun x S2 ρ2 B2 H2 v2 x2 s2 sl2 r2 k2 => ?_)
    refine (show wE X i σ H2 _ from hE.e' C sl2 s2 k2 fun kk S3 ρ3 B3 H3 v3 x3 s3 sl3 r3 k3 => ?_)
    split at k3
    · rename_i n
      have r2' := r2.mono x3.b x3.pre
      cases r2' with
      | ref hn =>
        have r1' := (r1.mono x2.b x2.pre).mono x3.b x3.pre
        split at k3
        · rename_i ws q
          obtain ⟨u, hu, ro⟩ := s3.at hn q
          cases ro with
          | lst rr =>
            split at k3
            · split at k3
              · rename_i j hj
                cases r3
                refine .inl (.inl ⟨_, _, _, j, rfl, rfl, hu, by rw [rr.length]; exact hj, ?_⟩)
                exact k3 _ _ _ (Ext.setCell hn hu) (s3.setCell hn q (RepO.lst (rr.set r1' _))) σ (sl3.mono (Ext.setCell (H := H3) (o := HO.lst []) hn hu))
              · exact k3.elim
            · exact k3.elim
        · rename_i ks q
          obtain ⟨u, hu, ro⟩ := s3.at hn q
          cases ro with
          | dct e0 rr =>
            split at k3
            · rename_i key hk
              obtain ⟨k4, k5⟩ := k3.grd
              cases keyW_ok r3 hk
              have l1 := congrArg List.length e0
              simp only [List.length_map] at l1
              obtain ⟨z1, z2⟩ := store_kv (k := key) r1' e0 rr
              refine .inl (.inr ⟨_, _, rfl, DPut.k hu (by rw [l1]; exact small_lt k4), ?_⟩)
              exact k5 _ _ _ (Ext.setCell hn hu) (s3.setCell hn q (RepO.dct z1 z2)) σ (sl3.mono (Ext.setCell (H := H3) (o := HO.lst []) hn hu))
            · exact k3.elim
        · rename_i ks vs q
          split at k3
          · rename_i key hk
            obtain ⟨k4, k5⟩ := k3.grd
            rw [Bool.and_eq_true] at k4
            exact .inr (set_kd (a := W.non) C.un C.wd s3 hn q hk (of_decide_eq_true k4.2) r3 r1' fun H' x' s' => k5 _ _ _ x' s' σ (sl3.mono x'))
          · exact k3.elim
        · exact k3.elim
    · exact k3.elim
  · rename_i x px y py kt pt a b k2 pt2 pos
    split at h
    · rename_i h1
      have h2 := h
      obtain ⟨nm, nd, st, sw⟩ := swB_ok C (ts := [(x, px), (y, py)]) (vs := [a, b]) rfl h1
      obtain ⟨n1, l1⟩ := nm (x, px) (by simp)
      obtain ⟨n2, l2⟩ := nm (y, py) (by simp)
      simp only [List.all_cons, List.all_nil, Bool.and_true, Bool.and_eq_true] at st
      have hne : x ≠ y := by
        simp at nd
        exact nd
      refine wS_of (ps_par C.calm C.nd n1 n2 (slot_ne n1 n2 hne) l1 l2 (pa_cons pwE (pa_cons pwE pa_nil (star_no st.2)) (star_no st.1)) (sw kt pt pt2 k2)) ?_
      refine (show wE X a σ H _ from valC_bind hE C sl sr h2 fun w1 S1 ρ1 B1 H1 v1 x1 s1 sl1 r1 k1 => ?_)
      refine (show wE X b σ H1 _ from valC_bind hE C sl1 s1 k1 fun w2 S2 ρ2 B2 H2 v2 x2 s2 sl2 r2 k2 => ?_)
      exact ⟨v1, v2, rfl, k2.here s2 _ ((sl2.set (r1.mono x2.b x2.pre) _).set r2 _)⟩
    · obtain ⟨h1, h2⟩ := h.grd
      exact genT_ok hE C sl sr (no_swapN C.sc h1) h2
  · rename_i x px y py z pz kt pt a b c k2 pt2 pos
    split at h
    · rename_i h1
      have h2 := h
      obtain ⟨nm, nd, st, sw⟩ := swB_ok C (ts := [(x, px), (y, py), (z, pz)]) (vs := [a, b, c]) rfl h1
      obtain ⟨n1, l1⟩ := nm (x, px) (by simp)
      obtain ⟨n2, l2⟩ := nm (y, py) (by simp)
      obtain ⟨n3, l3⟩ := nm (z, pz) (by simp)
      simp only [List.all_cons, List.all_nil, Bool.and_true, Bool.and_eq_true] at st
      have hne : (x ≠ y ∧ x ≠ z) ∧ y ≠ z := by
        simp at nd
        exact nd
      refine wS_of (ps_par3 C.calm C.nd n1 n2 n3 (slot_ne n1 n2 hne.1.1) (slot_ne n1 n3 hne.1.2) (slot_ne n2 n3 hne.2) l1 l2 l3 (pa_cons pwE (pa_cons pwE (pa_cons pwE pa_nil (star_no st.2.2)) (star_no st.2.1)) (star_no st.1)) (sw kt pt pt2 k2)) ?_
      refine (show wE X a σ H _ from valC_bind hE C sl sr h2 fun w1 S1 ρ1 B1 H1 v1 x1 s1 sl1 r1 k1 => ?_)
      refine (show wE X b σ H1 _ from valC_bind hE C sl1 s1 k1 fun w2 S2 ρ2 B2 H2 v2 x2 s2 sl2 r2 k2 => ?_)
      refine (show wE X c σ H2 _ from valC_bind hE C sl2 s2 k2 fun w3 S3 ρ3 B3 H3 v3 x3 s3 sl3 r3 k3 => ?_)
      exact ⟨v1, v2, v3, rfl, k3.here s3 _ (((sl3.set ((r1.mono x2.b x2.pre).mono x3.b x3.pre) _).set (r2.mono x3.b x3.pre) _).set r3 _)⟩
    · obtain ⟨h1, h2⟩ := h.grd
      exact genT_ok hE C sl sr (no_swapN C.sc h1) h2
  · rename_i es k p e pos
    obtain ⟨h1, h2⟩ := h.grd
    exact genT_ok hE C sl sr (no_swap h1) h2
  · rename_i x p e pos
    obtain ⟨h1, h2⟩ := h.grd
    obtain ⟨n1, n2, n3⟩ := name_slot C h1
    split at h2
    · rename_i a qa
      obtain ⟨va, e1, ra⟩ := sl.at_ _ _ qa
      cases ra
      refine wS_of (ps_aug C.nd n1 n2 pwE ip_add n3) ⟨_, e1, ?_⟩
      refine (show wE X _ σ H _ from hE.e' C sl sr h2 fun w S1 ρ1 B1 H1 v x1 s1 sl1 r k => ?_)
      split at k
      · cases r
        exact ⟨_, _, rfl, rfl, nextN_ok k s1 sl1 (.int _)⟩
      · exact k.elim
    · rename_i n qa
      obtain ⟨va, e1, ra⟩ := sl.at_ _ _ qa
      cases ra with
      | @ref _ a hn0 =>
      refine wS_of (ps_aug C.nd n1 n2 pwE iop_ext n3) ⟨_, e1, ?_⟩
      refine (show wE X _ σ H _ from hE.e' C sl sr h2 fun w S1 ρ1 B1 H1 v x1 s1 sl1 r k => ?_)
      split at k
      · rename_i xs ys q1 q2
        obtain ⟨k1, k2⟩ := k.grd
        have hn := pre_get x1.pre hn0
        obtain ⟨u, hu, ro⟩ := s1.at hn q1
        cases ro with
        | @lst xv _ rr =>
          have other : ∃ b zs, v = .ref b ∧ H1 b = some (.lst zs) ∧ RepL X.K B1 ρ1 zs ys := by
            cases r with
            | lst h1 h2 => cases q2; exact ⟨_, _, rfl, s1.same _ _ h1, h2⟩
            | @ref m b hm =>
              unfold lstE at q2
              cases q3 : S1[m]? with
              | none => simp only [q3] at q2; cases q2
              | some o =>
                simp only [q3] at q2
                cases o with
                | lst ws =>
                  cases q2
                  obtain ⟨u', hu', ro'⟩ := s1.at hm q3
                  cases ro' with
                  | lst rr' => exact ⟨_, _, rfl, hu', rr'⟩
                | _ => cases q2
            | _ => cases q2
          obtain ⟨b, zs, rfl, hb, rz⟩ := other
          refine ⟨_, _, _, _, rfl, rfl, hu, hb, by rw [rr.length, rz.length]; exact small_line k1, ?_⟩
          have x2 : Ext ρ1 B1 H1 ρ1 B1 (upd H1 a (.lst (xv ++ zs))) := Ext.setCell hn hu
          exact nextN_ok (k2.ext x2) (s1.setCell hn q1 (RepO.lst (rr.append rz))) (sl1.mono x2) (.ref hn)
      · exact k.elim
    · exact h2.elim
  · rename_i o i p e pos
    obtain ⟨h1, h2⟩ := h.grd
    refine wS_of (ps_augS pwE pwE get_list pwE ip_add set_list (fun _ _ _ => aug_store h1)) (show wE X _ σ H _ from hE.e' C sl sr h2 fun w S1 ρ1 B1 H1 v x1 s1 sl1 r1 k1 => hE.e' C sl1 s1 k1 fun w2 S2 ρ2 B2 H2 v2 x2 s2 sl2 r2 k2 => ?_)
    split at k2
    · rename_i n k
      split at k2
      · rename_i ws q1
        split at k2
        · rename_i a d1 q2
          have r1' := r1.mono x2.b x2.pre
          cases r1' with
          | ref hn =>
            cases r2
            have dd := of_decide_eq_true d1
            obtain ⟨u, hu, ro⟩ := s2.at hn q1
            cases ro with
            | lst rr =>
              obtain ⟨va, e1, ra⟩ := rr.get q2
              cases ra
              refine ⟨_, _, _, _, rfl, rfl, SqL.of hu, dd.1, dd.2, e1, ?_⟩
              refine (show wE X _ σ H2 _ from hE.e' C sl2 s2 k2 fun w3 S3 ρ3 B3 H3 v3 x3 s3 sl3 r3 k3 => ?_)
              split at k3
              · rename_i b ws' q3
                cases r3
                obtain ⟨k4, k5⟩ := k3.grd
                have hn3 := pre_get x3.pre hn
                obtain ⟨u3, hu3, ro3⟩ := s3.at hn3 q3
                cases ro3 with
                | lst rr3 =>
                  refine ⟨_, _, rfl, rfl, _, _, _, k.toNat, rfl, rfl, hu3, ixN_in dd.1 (by rw [rr3.length]; exact of_decide_eq_true k4), ?_⟩
                  exact k5 _ _ _ (Ext.setCell hn3 hu3) (s3.setCell hn3 q3 (RepO.lst (rr3.set (.int _) _))) σ (sl3.mono (Ext.setCell (H := H3) (o := HO.lst []) hn3 hu3))
              · exact k3.elim
        · exact k2.elim
      · exact k2.elim
    · exact k2.elim
  · rename_i c p1 a as p2 p3
    obtain ⟨h1, h2⟩ := h.grd
    rw [Bool.and_eq_true] at h1
    cases q : pg.xc c with
    | none => rw [q] at h2; exact h2.elim
    | some ns =>
      rw [q] at h2
      obtain ⟨Ca, fa, fd, k, ps, hm, T, hno, iC, tI, F, b, hr⟩ := C.xcs c ns q
      have hs := mapR_stars h2
      refine wS_of (ps_raise C.calm C.tk (pmk_oex T iC tI F hr b .nil (fun pins σ H s e s' I z => passF (W := Wx) σ pins H s e s' I z) (glo_okB C h1.1) hm pwA (odd_no h1.2).1 (star_no (hs a (List.mem_cons_self ..))) (stars_no fun e' he => hs e' (List.mem_cons_of_mem _ he)))) ?_
      refine (show wA X (a :: as) σ H _ from mapR_bind hE C sl sr h2 fun ws S1 ρ1 B1 H1 vs x1 s1 sl1 r k1 => ?_)
      obtain ⟨k2, k3⟩ := k1.grd
      rw [Bool.and_eq_true] at k2
      have ln : vs.length = ns.length := by rw [r.length]; exact of_decide_eq_true k2.1
      refine ⟨by rw [r.length]; exact of_decide_eq_true k2.2, fun e he => ?_⟩
      refine ⟨by rw [List.append_nil, List.length_cons, ln], e, Ca, vs, by rw [List.append_nil], T, hno, upd_same, fun dx hdx hne => ⟨rfl, dx, (ns.zip vs).reverse, upd_same, ?_, ?_, ?_⟩⟩
      · rw [upd_ne hne, upd_same]
      · rw [upd_ne hne] at hdx
        exact hdx
      · rw [upd_ne hne] at hdx
        have eh : upd (del (upd (upd (upd H1 e (exo e Ca none)) dx (exd dx (ns.zip vs).reverse)) e (exo e Ca (some dx))) e) dx (.xd (ns.zip vs).reverse) = upd H1 dx (.xd (ns.zip vs).reverse) := by
          funext b
          by_cases h1 : b = dx
          · rw [h1, upd_same, upd_same]
          · rw [upd_ne h1, upd_ne h1]
            by_cases h2 : b = e
            · rw [h2, del_same, he]
            · rw [del_ne h2, upd_ne h2, upd_ne h1, upd_ne h2]
        rw [eh]
        exact k3 _ _ _ (Ext.junk hdx) (s1.junk hdx) σ Ca dx _ (sl1.mono (Ext.junk (o := .xd (ns.zip vs).reverse) hdx)) hm upd_same (repF_rev (zip_rep r))
  · obtain ⟨h1, h2⟩ := h.grd
    rw [Bool.and_eq_true] at h1
    obtain ⟨t1, t2⟩ := C.top h1.1
    obtain ⟨l, k1, k2⟩ := hands_of C h1.2
    refine wS_of (ps_try_hands t1 t2 C.nd C.tk (tb := fun W D σ H => ∀ pn xe, Takes (X.tr pn xe) W → PassesOwn (model X.prog X.w) X.A X.env xe → wSs (X.tr pn xe) _ D σ H) (fun W pn xe tk ps => ⟨fun pins s σ H D I q => q pn xe tk ps pins s I⟩) k1) ?_
    intro pn xe tk ps
    refine seqR_ok hE (cx_tr C tk ps) sl sr ?_
    unfold tryR at h2
    cases qs : seqR (fun env S s => E.s g env S s) _ env S with
    | bad => rw [qs] at h2; exact h2.elim
    | ok o S1 => rw [qs] at h2; exact h2
    | exc c fs en S1 =>
      rw [qs] at h2
      exact fun ρ' B' H' x s => k2 h2 x s
  · obtain ⟨h1, h2⟩ := h.grd
    rw [Bool.and_eq_true] at h1
    rename_i tg iter body pos
    cases qd : dWalk pg g env S tg iter with
    | some z =>
      obtain ⟨items, S1⟩ := z
      rw [qd] at h2
      exact forD_ok hE C sl sr qd h1.1 h1.2 h2
    | none =>
    rw [qd] at h2
    refine wS_of (ps_for C.pass C.calm pwI (pg_tg C h1.2) pwSs (not_set h1.1)) ?_
    refine evIter_ok hE C sl sr ((show Hold X.K ((evIter pg g (fun e S => E.e g env S e) tg iter S).bind fun items S1 => forR (fun env S => seqR (fun env S s => E.s g env S s) body env S) (bindT g tg) items.2 items.1 env S1) ρ B H (okS X.K D) (ExP X.K X.mg Wx) from h2).bind.imp (fun items S1 ρ1 B1 H1 x1 s1 k J wk => ?_) fun _ _ _ _ _ _ z => z)
    exact forR_ok (fun sl sr h => seqR_ok hE C sl sr h) wk.f (sl.mono x1) s1 k
  · exact wS_of (ps_while C.pass pwT pwSs) (whileR_ok (fun sl sr h => hE.t C sl sr h) (fun sl sr h => seqR_ok hE C sl sr h) sl sr h)
  · exact h.elim
end
end Mi

set_option Elab.async false
set_option linter.all false
set_option maxRecDepth 100000
set_option maxHeartbeats 4000000
/-! Ma25: a text behind a written one, some of its signs replaced; the place of a sign from a place on. -/
noncomputable section
namespace Mi
open PySem PySem.Spec PyProof.Rows L2
theorem repl_eq {x y z : Str} (hy : 1 ≤ y.length) (hk : Builtin.Str.strKind y = 1) : Txt.replace x y z = joinF z (txtSplit x y) := by
  rw [joinF_eq, txtSplit_eq]
  have k1 : 1 ≤ Builtin.Str.strKind x := by
    unfold Builtin.Str.strKind
    split
    · exact Nat.le_refl _
    · split <;> omega
  have one : Txt.join z [x] = x := rfl
  have y0 : (y.length == 0) = false := by
    cases q : y.length == 0 with
    | false => rfl
    | true =>
      have := eq_of_beq q
      omega
  unfold Txt.replace Txt.split
  rw [y0, Bool.false_and, Bool.or_false]
  by_cases h : x.length < y.length
  · have e : Builtin.Str.occurrences x y 0 x.length (x.length + 1) = [] := by
      obtain ⟨f, c⟩ := StrLaws.occ_chain x y (x.length + 1)
      cases q : Builtin.Str.occurrences x y 0 x.length (x.length + 1) with
      | nil => rfl
      | cons i r =>
        rw [q] at c
        obtain ⟨_, ⟨c2, _⟩, _⟩ := c
        omega
    rw [e, decide_eq_true h]
    rfl
  · rw [decide_eq_false h, hk, decide_eq_false (by omega)]
    by_cases e : (Builtin.Str.occurrences x y 0 x.length (x.length + 1)).isEmpty = true
    · rw [if_pos e, if_neg (by simp), if_pos e]
      rfl
    · rw [if_neg e, if_neg (by simp), if_neg e]
      rfl
section
variable {X : Cx}
theorem pe_catR {a : Str} {f : Expr} {tf : TE} {j : Nat} {c0 pos : Pos} (hf : PET X f tf) : PE X (.BinOp (.Constant (.str a) j c0) .Add f pos) (fun σ H Q => tf σ H fun v H1 => opW X (binaryOp .Add) (.str a) v H1 Q) :=
  ⟨fun pins s σ H Q I h => wpAny_BinOp (Calls.Constant_str (thn (hf pins { s with toks := s.toks + 1 } σ H _ (by show 1 ≤ s.toks + 1; omega) (I.tok _) h) fun u s2 ⟨y, H2, I2, r2, q2⟩ => q2 pins s2 σ (.str a s.toks) u I2 ⟨_, rfl⟩ r2))⟩
end
section
variable [Gam]
variable {pg : Pg} {cl : Str → List W → Sto → R W} {E : Evs} {g : Gm} {Wx : WX} {X : Cx}
theorem catR_ok (hE : EvOk pg cl E) (C : CxOk pg cl g Wx X) {a y z : Str} {j j1 j2 : Nat} {c0 c1 c2 ap cp pos : Pos} {o : Expr} {env : Env'} {S : Sto} {σ : L2.St} {ρ : List Addr} {B H : Hp} {Q : VK} (sl : Sl X.K B ρ σ env) (sr : SR X.K ρ S B H) (g1 : ownB o = true) (hyz : (y == z) = false) (g4 : (ap.endLine == cp.line) = true)
    (h : Hold X.K ((E.e g env S o).bind fun x S1 => (match x with
      | .str x => guard' (replG x y z) (lift (binop S1 .Add (.str a) (.str (replF x y z))) S1)
      | _ => .bad)) ρ B H (okE X.K Q) (ExP X.K X.mg Wx)) : wE X (.BinOp (.Constant (.str a) j c0) .Add (.Call (.Attribute o "replace" ap) [.Constant (.str y) j1 c1, .Constant (.str z) j2 c2] [] cp) pos) σ H Q := by
  refine wE_of (pe_catR (CwR.pet_replC (y := y) (z := z) pwE hyz rfl (own_base g1 _) g4)) ?_
  refine (show wE X o σ H _ from hE.e' C sl sr h fun w S1 ρ1 B1 H1 v x1 s1 sl1 r1 k1 => ?_)
  cases r1 with
  | str x =>
    obtain ⟨k2, k3⟩ := k1.grd
    unfold replG at k2
    rw [Bool.and_eq_true, Bool.and_eq_true] at k2
    obtain ⟨b1, b2, b3⟩ := k2
    obtain ⟨w, ew, k4⟩ := k3.lift
    refine ⟨x, rfl, of_decide_eq_true b1, ?_⟩
    unfold replF at ew
    rw [← repl_eq (of_decide_eq_true b2) (of_decide_eq_true b3)] at ew
    exact binop_ok s1 (.str a) (.str _) ew (fun ρ' B' H' v' x' s r => k4 ρ' B' H' x' s v' r)
  | _ => exact k1.elim
theorem find3_ok (hE : EvOk pg cl E) (C : CxOk pg cl g Wx X) {ap cp : Pos} {o e1 e2 : Expr} {env : Env'} {S : Sto} {σ : L2.St} {ρ : List Addr} {B H : Hp} {Q : VK} (sl : Sl X.K B ρ σ env) (sr : SR X.K ρ S B H) (g1 : ownB o = true) (n1 : notStar e1 = true) (n2 : notStar e2 = true) (g4 : (ap.endLine == cp.line) = true)
    (h : Hold X.K ((E.e g env S o).bind fun x S1 => (match x with
      | .str x => (E.e g env S1 e1).bind fun y S2 => (match y with
        | .str y => (E.e g env S2 e2).bind fun k S3 => (match k with
          | .int k => .ok (.int (Txt.find3 x y k)) S3
          | _ => .bad)
        | _ => .bad)
      | _ => .bad)) ρ B H (okE X.K Q) (ExP X.K X.mg Wx)) : wE X (.Call (.Attribute o "find" ap) [e1, e2] [] cp) σ H Q := by
  have hs : ∀ e ∈ [e1, e2], notStar e = true := fun e he => by
    simp only [List.mem_cons, List.not_mem_nil, or_false] at he
    rcases he with rfl | rfl
    · exact n1
    · exact n2
  have few : ((backTo cp (starEach [e1, e2] X.env)).all (fun x => !x.1) && (backToKw cp (keywordEach [] X.env)).all (fun x => x.1.isSome) && decide (([e1, e2] : List Expr).length + ([] : List Keyword).length + (if ([] : List Keyword).isEmpty then 0 else 1) < 30)) = true := by
    have f1 : (backTo cp (starEach [e1, e2] X.env)).all (fun x => !x.1) = true := by
      rw [← List.not_any_eq_all_not, stars_no hs]
      rfl
    rw [f1]
    rfl
  refine wE_of (pe_bm PySem.F.plainAttrs_str PySem.F.slot_str_find PySem.F.type_str_find mt_find3 pwE pwA (own_base g1 _) few g4 (star_no n1) (stars_no fun e he => hs e (List.mem_cons_of_mem _ he))) ?_
  refine (show wE X o σ H _ from hE.e' C sl sr h fun w S1 ρ1 B1 H1 v x1 s1 sl1 r1 k1 => ?_)
  cases r1 with
  | str x =>
    refine ⟨rfl, wA_of (pa_cons pwE pwA (star_no n1)) (show wE X e1 σ H1 _ from hE.e' C sl1 s1 k1 fun w2 S2 ρ2 B2 H2 v2 x2 s2 sl2 r2 k2 => ?_)⟩
    cases r2 with
    | str y =>
      refine wA_of (pa_cons pwE pa_nil (star_no n2)) (show wE X e2 σ H2 _ from hE.e' C sl2 s2 k2 fun w3 S3 ρ3 B3 H3 v3 x3 s3 sl3 r3 k3 => ?_)
      cases r3 with
      | int k => exact ⟨x, y, k, rfl, rfl, k3.here s3 _ (.int _)⟩
      | _ => exact k3.elim
    | _ => exact k2.elim
  | _ => exact k1.elim
end
end Mi

set_option Elab.async false
set_option linter.all false
set_option maxRecDepth 100000
set_option maxHeartbeats 4000000
/-! Ma28: {**d, k: v} in the evaluator. -/
noncomputable section
namespace Mi
open PySem PySem.Spec PyProof.Rows L2
section
variable [Gam]
variable {pg : Pg} {cl : Str → List W → Sto → R W} {E : Evs} {g : Gm} {Wx : WX} {X : Cx}
theorem dispS_ok (hE : EvOk pg cl E) (C : CxOk pg cl g Wx X) {k e v : Expr} {pos : Pos} {env : Env'} {S : Sto} {σ : L2.St} {ρ : List Addr} {B H : Hp} {Q : VK} (sl : Sl X.K B ρ σ env) (sr : SR X.K ρ S B H) (hg : dispG [some k] [v] = true)
    (h : Hold X.K ((E.e g env S e).bind fun w S1 => (match seqD S1 w with
      | some ks => (pairR (fun e S => E.e g env S e) [some k] [v] S1).bind fun ps S2 => guard' (decide (ks.length ≤ 90000) && decide (ps.length ≤ 15)) (.ok (.dct (mergeW (mergeW [] ks) (mergeW [] ps))) S2)
      | none => .bad)) ρ B H (okE X.K Q) (ExP X.K X.mg Wx)) : wE X (.Dict [none, some k] [e, v] pos) σ H Q := by
  unfold dispG at hg
  rw [Bool.and_eq_true, Bool.and_eq_true] at hg
  obtain ⟨g1, g2, g3⟩ := hg
  refine wE_of (pe_dispS pwE (pps_ok g1 (of_decide_eq_true g2))) fun p hp => ?_
  have sj : SR X.K ρ S B (upd H p (.dK [])) := sr.junk hp
  have ej : Ext ρ B H ρ B (upd H p (.dK [])) := Ext.junk hp
  show wE X e σ (upd H p (.dK [])) _
  refine hE.e C (sl.mono ej) sj ((h.bind0.ext ej).imp (fun w S1 ρ1 B1 H1 x1 s1 q1 y r1 => ?_) fun _ _ _ _ _ _ z => z)
  obtain ⟨a1, a2, a3, a4⟩ := Ext.ahead sr hp x1
  cases qd : seqD S1 w with
  | none => rw [qd] at q1; exact q1.elim
  | some ks =>
    rw [qd] at q1
    have src : ∃ a kv, y = .ref a ∧ a ≠ p ∧ Rd H1 a (.dK kv) ∧ kv.map Prod.fst = ks.map Prod.fst ∧ RepL X.K B1 ρ1 (kv.map Prod.snd) (ks.map Prod.snd) := by
      obtain ⟨a, kv, rfl, h1, e1, r1'⟩ := seqD_ok s1 r1 qd
      refine ⟨a, kv, rfl, fun z => ?_, h1, e1, r1'⟩
      subst z
      cases r1 with
      | dct hb _ _ =>
        rcases hb with hb | ⟨o, hb⟩
        · rw [a3] at hb; cases hb
        · rw [a3] at hb; cases hb
      | ref hn => exact a4 (List.mem_of_getElem? hn)
      | _ => cases qd
    obtain ⟨a, kv, rfl, hap, hrd, e1, r1'⟩ := src
    refine ⟨a2, a, kv, rfl, hap, hrd, fun q hq => ?_⟩
    have s2 : SR X.K ρ1 S1 B1 (upd H1 p (.dK (mergeK [] kv))) := s1.side a3 a4 a2
    have x2 : Ext ρ B H ρ1 B1 (upd H1 p (.dK (mergeK [] kv))) := a1.side hp
    have s2q := s2.junk (o := .dK []) hq
    have x2q := x2.trans (Ext.junk (o := .dK []) hq)
    have hq0 : H q = none := by
      cases z : H q with
      | none => rfl
      | some u =>
        obtain ⟨u', hu'⟩ := x2.there q u z
        rw [hq] at hu'
        cases hu'
    refine pairR_ok hE C (sl.mono a1) s2q ((q1.bind0.ext x2q).imp (fun ps S3 ρ3 B3 H3 x3 s3 q3 kvp ek rk => ?_) fun _ _ _ _ _ _ z => z)
    obtain ⟨y3, b2, b3, b4⟩ := Ext.ahead s2 hq x3
    obtain ⟨kk, k2⟩ := q3.grd
    rw [Bool.and_eq_true] at kk
    have lk := of_decide_eq_true kk.1
    have lp := of_decide_eq_true kk.2
    have c2 : H3 p = some (.dK (mergeK [] kv)) := y3.frame p _ upd_same (fun _ => rfl) a4
    have c3 : B3 p = none := y3.new p _ upd_same a4 a3
    have c4 : p ∉ ρ3 := fun hm => by
      obtain ⟨m, em, hm'⟩ := y3.p
      rw [em] at hm
      rcases List.mem_append.mp hm with z | z
      · exact a4 z
      · have w := hm' p z
        rw [upd_same] at w
        cases w
    have hpq : p ≠ q := fun z => by
      rw [← z, upd_same] at hq
      cases hq
    have l1 : kv.length = ks.length := by
      have z := congrArg List.length e1
      rwa [List.length_map, List.length_map] at z
    have l2 : kvp.length = ps.length := by
      have z := congrArg List.length ek
      rwa [List.length_map, List.length_map] at z
    have l3 := length_mergeK kv []
    rw [List.length_nil] at l3
    refine ⟨c2, b2, kvp, rfl, by omega, by rw [sizeLine_eq]; omega, ?_⟩
    obtain ⟨z1, z2⟩ := merge_rep (kv := []) (ks := []) e1 (r1'.mono x3.b x3.pre) rfl .nil
    obtain ⟨z3, z4⟩ := merge_rep (kv := []) (ks := []) ek rk rfl .nil
    obtain ⟨z5, z6⟩ := merge_rep z3 z4 z1 z2
    have x4 : Ext ρ B H ρ3 B3 (upd H3 q (.dK (mergeK [] kvp))) := (x2q.trans x3).side hq0
    have s4 : SR X.K ρ3 S3 B3 (upd H3 q (.dK (mergeK [] kvp))) := s3.side b3 b4 b2
    have c5 : (upd H3 q (.dK (mergeK [] kvp))) p = some (.dK (mergeK [] kv)) := by rw [upd_ne hpq]; exact c2
    exact k2 _ _ _ ((x4.side hp).keep hp c3) ((s4.side c3 c4 c5).keep c3 c4 upd_same) _ (.dct (.inl upd_same) z5 (z6.mono (fun c u q => by rw [upd_ne (ne_of_none q c3)]; exact q) ⟨[], by simp⟩))
end
end Mi

set_option Elab.async false
set_option linter.all false
set_option maxRecDepth 100000
set_option maxHeartbeats 4000000
/-! Ma31: tuple(d.items()) in the evaluator. -/
noncomputable section
namespace Mi
open PySem PySem.Spec PyProof.Rows L2
section
variable [Gam]
theorem putT_sr {K : PySem.W.Frag} {ρ : List Addr} {S : Sto} : ∀ (ts : List Addr) (kv : List (Key × V)) (B H : Hp), SR K ρ S B H → (∀ t ∈ ts, H t = none) → ts.Nodup → ts.length = kv.length → Ext ρ B H ρ (LiI.putT B ts kv) (LiI.putT H ts kv) ∧ SR K ρ S (LiI.putT B ts kv) (LiI.putT H ts kv)
  | [], kv, B, H, s, _, _, _ => by
    cases kv <;> exact ⟨Ext.refl, s⟩
  | _ :: _, [], _, _, _, _, _, l => by cases l
  | a :: as, p :: kvs, B, H, s, h, n, l => by
    have ha := h a List.mem_cons_self
    rw [List.nodup_cons] at n
    have e1 : Ext ρ B H ρ (upd B a (.tup [kV p.1, p.2])) (upd H a (.tup [kV p.1, p.2])) := Ext.fresh s.same ha
    have s1 : SR K ρ S (upd B a (.tup [kV p.1, p.2])) (upd H a (.tup [kV p.1, p.2])) := s.fresh ha
    obtain ⟨e2, s2⟩ := putT_sr as kvs _ _ s1 (fun t ht => by
      rw [upd_ne (fun z : t = a => n.1 (by rw [← z]; exact ht))]
      exact h t (List.mem_cons_of_mem _ ht)) n.2 (by simpa using l)
    exact ⟨e1.trans e2, s2⟩
theorem rep_kv {K : PySem.W.Frag} {B : Hp} {ρ : List Addr} (k : Key) : Rep K B ρ (kV k) (keyOfW k) := by
  cases k with
  | inl i => exact .int i
  | inr x => exact .str x
theorem rep_items {K : PySem.W.Frag} {B : Hp} {ρ : List Addr} : ∀ {ts : List Addr} {kv : List (Key × V)} {ks : List (Key × W)}, Paired (fun (t : Addr) (p : Key × V) => B t = some (.tup [kV p.1, p.2])) ts kv → kv.map Prod.fst = ks.map Prod.fst → RepL K B ρ (kv.map Prod.snd) (ks.map Prod.snd) → RepL K B ρ (ts.map V.ref) (itemsOf ks 2) := by
  intro ts kv ks h
  induction h generalizing ks with
  | nil =>
    intro e r
    cases ks with
    | nil => exact .nil
    | cons p r => cases e
  | @cons t p ts kv ht _ ih =>
    intro e r
    cases ks with
    | nil => cases e
    | cons q ks =>
      rw [List.map_cons, List.map_cons] at e r
      injection e with e1 e2
      cases r with
      | cons r1 r2 => exact .cons (.tup (SqT.of ht) (.cons (by rw [e1]; exact rep_kv q.1) (.cons r1 .nil))) (ih e2 r2)
variable {pg : Pg} {cl : Str → List W → Sto → R W} {E : Evs} {g : Gm} {Wx : WX} {X : Cx}
theorem tupI_ok (hE : EvOk pg cl E) (C : CxOk pg cl g Wx X) {o : Expr} {p ap cp pos : Pos} {env : Env'} {S : Sto} {σ : L2.St} {ρ : List Addr} {B H : Hp} {Q : VK} (sl : Sl X.K B ρ σ env) (sr : SR X.K ρ S B H)
    (g1 : gloB g.sc "tuple" = true) (g2 : pg.free.contains "tuple" = true) (g3 : ownB o = true) (g4 : (ap.endLine == cp.line) = true)
    (h : Hold X.K ((E.e g env S o).bind fun w S1 => (match seqD S1 w with
      | some ks => guard' (decide (ks.length ≤ 90000)) (.ok (.tup (itemsOf ks 2)) S1)
      | none => .bad)) ρ B H (okE X.K Q) (ExP X.K X.mg Wx)) : wE X (.Call (.Name "tuple" p) [.Call (.Attribute o "items" ap) [] [] cp] [] pos) σ H Q := by
  have hm : X.mg "tuple" = none := C.free _ (List.contains_iff_mem.mp g2)
  refine wE_of (pe_tupItems C.calm pwE (glo_okB C g1) hm PyProof.Rows.boot_tuple (own_base g3 _) g4) ?_
  refine (show wE X o σ H _ from hE.e' C sl sr h fun w S1 ρ1 B1 H1 y x1 s1 sl1 r1 q1 => ?_)
  cases qd : seqD S1 w with
  | none => rw [qd] at q1; exact q1.elim
  | some ks =>
    rw [qd] at q1
    obtain ⟨a, kv, rfl, hrd, e1, r1'⟩ := seqD_ok s1 r1 qd
    obtain ⟨_, k2⟩ := q1.grd
    refine ⟨a, kv, rfl, hrd, fun ts p t1 t2 t3 hp => ?_⟩
    obtain ⟨x2, s2⟩ := putT_sr ts kv B1 H1 s1 t1 t2 t3
    have x3 := x2.trans (Ext.fresh (o := .tup (ts.map V.ref)) s2.same hp)
    have s3 := s2.fresh (o := .tup (ts.map V.ref)) hp
    have pr := LiI.putT_at ts kv B1 t3 t2
    have hb := s2.same.free hp
    have ri : RepL X.K (LiI.putT B1 ts kv) ρ1 (ts.map V.ref) (itemsOf ks 2) := rep_items pr e1 (r1'.mono x2.b x2.pre)
    exact k2 _ _ _ x3 s3 _ (.tup (SqT.of upd_same) (ri.mono (fun c u q => by rw [upd_ne (ne_of_none q hb)]; exact q) ⟨[], by simp⟩))
end
end Mi

set_option Elab.async false
set_option linter.all false
set_option maxRecDepth 100000
set_option maxHeartbeats 4000000
/-! Ma32: min(xs, key=f), f a def of the text that answers tuples of ints and texts. -/
noncomputable section
namespace Mi
open PySem PySem.Spec PyProof.Rows L2
section
variable [Gam] {pg : Pg} {cl : Str → List W → Sto → R W} {E : Evs} {g : Gm} {Wx : WX} {X : Cx}
/-- behind a call over the empty store -/
theorem sr_call {K : PySem.W.Frag} {ρ : List Addr} {S : Sto} {B H B' H' : Hp} (s : SR K ρ S B H) (x : Ext [] B H [] B' H') (s' : SR K [] [] B' H') : Ext ρ B H ρ B' H' ∧ SR K ρ S B' H' := by
  refine ⟨⟨x.b, ⟨[], by simp, fun a h => by simp at h⟩, fun a o h t _ => x.frame a o h t (by simp), x.there, fun a o h _ n => x.new a o h (by simp) n, x.frz⟩, ⟨s'.same, s.len, s.nd, fun i a o e1 e2 => ?_, s'.tb, s'.nb⟩⟩
  have c := s.cell i a o e1 e2
  obtain ⟨u, hu⟩ := c.held s.same
  exact c.mono x.b ⟨[], by simp⟩ (fun n => x.new a u hu (by simp) n) fun u' hu' => x.frame a u' hu' (fun _ => c.notTbl s.same hu') (by simp)
theorem sr_empty {K : PySem.W.Frag} {ρ : List Addr} {S : Sto} {B H : Hp} (s : SR K ρ S B H) : SR K [] [] B H := ⟨s.same, rfl, List.nodup_nil, fun i a o e => by simp at e, s.tb, s.nb⟩
/-- the key's def runs -/
theorem key_call {fa : Addr} {fd : FuncData} {k : Nat} {ps : List Str} {f : Str} {A : Around} {pins : List (Addr × Obj)} {s : Shared} {σ : L2.St} {H B : Hp} {v : V} {u : Value} {x kw : W} (un : Und X 1 A) (I : Inv X pins σ H s) (sr : SR X.K [] [] B H)
    (r : Rep X.K B [] v x) (ru : RelV v u) (F : FnOk X.prog X.w X.K X.mg X.base (L2.CX X.prog X.w) k fa fd ps (SpF X.K X.mg cl f 1)) (bd : Binds X.K fd ps []) (hr : Room (k + 7) X.A) (e : cl f [x] [] = .ok kw []) (Ex : Value → Shared → Prop) :
    wpAny (model X.prog X.w) A (call (.ref fa) [u]) (fun q s' => ∃ B' H' kv, Inv X pins σ H' s' ∧ Ext [] B H [] B' H' ∧ SR X.K [] [] B' H' ∧ Rep X.K B' [] kv kw ∧ RelV kv q) Ex s := by
  have rm : Room k A := un.rm k (hr.mono (by omega))
  have hsp : SpF X.K X.mg cl f 1 [v] H (fun kv H' => ∃ B', Ext [] B H [] B' H' ∧ SR X.K [] [] B' H' ∧ Rep X.K B' [] kv kw) (fun _ _ _ => False) := by
    refine ⟨rfl, [], [], B, [x], sr, .cons r .nil, ?_⟩
    rw [e]
    intro ρ' B' H' x' s' v' rv
    have hz : ρ' = [] := List.eq_nil_of_length_eq_zero s'.len
    subst hz
    exact ⟨B', x', s', rv⟩
  have e0 : Env0 X.prog X.w X.K X.mg X.base A X.stack s H := by
    have e := I.env0
    exact ⟨by rw [un.fr]; exact e.frames, e.mod, e.bs, e.bsz, e.funs, e.frf, e.hok, e.bare⟩
  have hl := F.len _ _ _ _ hsp
  refine wpAny_call (codeAny_mono (F.run A X.stack s H ⟨[u], []⟩ [u] [v] _ _ rm e0 (by
    have := bd s [u] I.kIn (by simpa using hl)
    simpa using this) (.cons ru .nil) hsp) fun r s' hq => ?_)
  cases r with
  | error e =>
    obtain ⟨_, _, _, _, _, _, _, _, _, _, _, _, h⟩ := hq
    exact h.elim
  | ok fl =>
    cases fl with
    | ret w =>
      obtain ⟨z, H', I', rz, B', x', s2, rk⟩ := I.after hq
      exact ⟨B', H', z, I', x', s2, rk, rz⟩
    | next => exact False.elim hq
    | brk => exact False.elim hq
    | cont => exact False.elim hq
theorem keyC_ok {f : Str} {w k : W} (e : keyC cl f w = some k) : ∃ x, frzW [] 0 100000 w = some x ∧ cl f [x] [] = .ok k [] := by
  unfold keyC at e
  split at e
  · rename_i x h1
    split at e
    · rename_i k' h2
      cases e
      exact ⟨x, h1, h2⟩
    · cases e
  · cases e
structure MK (X : Cx) (cl : Str → List W → Sto → R W) (f : Str) (fa : Addr) (ρ : List Addr) (St : Sto) (B0 : Hp) (l : Addr) (ws : List W) : Prop where
  hc : X.calm = true
  un : X.A.units + 65 < cLine
  call : ∃ fd k ps, FnOk X.prog X.w X.K X.mg X.base (L2.CX X.prog X.w) k fa fd ps (SpF X.K X.mg cl f 1) ∧ Binds X.K fd ps [] ∧ Room (k + 7) X.A
  list : ∃ wl, Rep X.K B0 ρ (.ref l) wl ∧ seqL St wl = some ws
variable {f : Str} {fa I S l : Addr} {ρ : List Addr} {St : Sto} {B0 H0 : Hp} {ws : List W} {pins : List (Addr × Obj)} {σ : L2.St}
theorem MK.at (M : MK X cl f fa ρ St B0 l ws) {B H : Hp} {s : Shared} (J : Inv X pins σ H s) (e : Ext ρ B0 H0 ρ B H) (sr : SR X.K ρ St B H) : ∃ xs its, RepL X.K B ρ xs ws ∧ Vals xs its ∧ PlainL s.heap l its.toArray := by
  obtain ⟨wl, r, q⟩ := M.list
  obtain ⟨a, xs, e1, h1, h2⟩ := seqL_ok sr (r.mono e.b e.pre) q
  cases e1
  obtain ⟨its, rv, pl, _⟩ := J.list h1
  exact ⟨xs, its, h2, rv, pl⟩
theorem iter_ne {h : Heap} {i : Nat} {xs : Array Value} {c : Nat} (a : h.IsListIter I l i) (b : h.get? S = some (seqObj "list" xs c)) : S ≠ I := fun z => by
  obtain ⟨o, ho, hc, _⟩ := a
  rw [z, ho] at b
  cases b
  have z2 : Value.type "list" = Value.type "list_iterator" := hc
  injection z2 with z2
  exact absurd z2 (by decide)
/-- an item comes, its key is told -/
theorem mk_turn (M : MK X cl f fa ρ St B0 l ws) {i c : Nat} {its : List Value} {s : Shared} {w k : W} {B H : Hp} (J : Inv X pins σ H s) (fp : ∀ a ∈ [I, S], FpOk X pins H a) (e : Ext ρ B0 H0 ρ B H) (sr : SR X.K ρ St B H) (it : s.heap.IsListIter I l i) (hS : s.heap.get? S = some (seqObj "list" its.toArray c)) (hw : ws[i]? = some w) (hk : keyC cl f w = some k) (E1 : Value → Shared → Prop) :
    wpAny (model X.prog X.w) X.A.in1 (pyNext (.ref I)) (fun r s1 => ∃ u, r = some u ∧ ∀ E2 : Value → Shared → Prop, wpAny (model X.prog X.w) X.A.in1 (call (.ref fa) [u]) (fun q s2 => ∃ B2 H2 v kv,
      Inv X pins σ H2 s2 ∧ (∀ a ∈ [I, S], FpOk X pins H2 a) ∧ Ext ρ B H ρ B2 H2 ∧ SR X.K ρ St B2 H2 ∧ s2.heap.IsListIter I l (i + 1) ∧ s2.heap.get? S = some (seqObj "list" its.toArray c) ∧ Rep X.K B2 ρ v w ∧ RelV v u ∧ Rep X.K B2 [] kv k ∧ RelV kv q) E2 s1) E1 s := by
  obtain ⟨xs, vs, r1, r2, pl⟩ := M.at J e sr
  obtain ⟨v, hv, rv⟩ := r1.get hw
  obtain ⟨u, hu, ru⟩ := r2.get hv
  have ne := iter_ne it hS
  refine wpAny_pyNext_list_item it pl.isList (x := u) (by simpa using hu) fun h' it' sb => ?_
  have J1 : Inv X pins σ H { s with heap := h' } := J.turnedL (t' := s.toks) (ch := [I]) (fun b o hb eb => (sb.2 b (fun z => hb (by simp [z]))).trans eb) fun b hb => fp b (by simp at hb; simp [hb])
  have hS1 : h'.get? S = some (seqObj "list" its.toArray c) := (sb.2 S ne).trans hS
  refine ⟨u, rfl, fun E2 => ?_⟩
  obtain ⟨oI, gI, cI, dI⟩ := id it'
  have J2 := J1.pinned fp (fun b hb => by
    simp only [List.mem_cons, List.mem_nil_iff, or_false] at hb
    rcases hb with rfl | rfl
    · exact ⟨oI, gI, fun v z => by rw [dI] at z; cases z⟩
    · exact ⟨_, hS1, fun v z => by cases z⟩)
  obtain ⟨x, hx, hcl⟩ := keyC_ok hk
  obtain ⟨fd, kk, ps, F, bd, hr⟩ := M.call
  refine wpAny_mono (key_call Und.here.in1 J2 (sr_empty sr) (frz_clear rv hx) ru F bd hr hcl E2) (fun q s2 z => ?_) fun _ _ z => z
  obtain ⟨B2, H2, kv, I2, x2, s2', rk, rq⟩ := z
  obtain ⟨x3, sr3⟩ := sr_call sr x2 s2'
  have pI := I2.pin (I, oI) (List.mem_append_right _ (List.mem_append_right _ (mem_pinsAt (by simp) gI)))
  have pS := I2.pin (S, seqObj "list" its.toArray c) (List.mem_append_right _ (List.mem_append_right _ (mem_pinsAt (by simp) hS1)))
  refine ⟨B2, H2, v, kv, I2.unpinned, fun a ha => ?_, x3, sr3, ⟨oI, pI.1, cI, dI⟩, pS.1, rv.mono x3.b x3.pre, ru, rk, rq⟩
  obtain ⟨_, f1, f2, f3, f4, f5⟩ := fp a ha
  simp only [List.mem_cons, List.mem_nil_iff, or_false] at ha
  rcases ha with rfl | rfl
  · exact ⟨pI.2.1, f1, f2, f3, f4, f5⟩
  · exact ⟨pS.2.1, f1, f2, f3, f4, f5⟩
/-- what the loop ends with -/
def MF (X : Cx) (pins : List (Addr × Obj)) (σ : L2.St) (ρ : List Addr) (St : Sto) (B0 H0 : Hp) (r : W) (u : Value) (s : Shared) : Prop := ∃ B H v, Inv X pins σ H s ∧ Ext ρ B0 H0 ρ B H ∧ SR X.K ρ St B H ∧ Rep X.K B ρ v r ∧ RelV v u
theorem min_go (M : MK X cl f fa ρ St B0 l ws) {r : W} {R : Result → Shared → Prop} {kw : List (Str × Value)} (hR : ∀ u s', MF X pins σ ρ St B0 H0 r u s' → R (.ok (.ret u)) s') : ∀ (n i c : Nat) (b kb : W) (v k : V) (vb ukb : Value) (s : Shared) (B H : Hp), ws.length - i = n → i ≤ ws.length →
    Inv X pins σ H s → (∀ a ∈ [I, S], FpOk X pins H a) → Ext ρ B0 H0 ρ B H → SR X.K ρ St B H → s.heap.IsListIter I l i → s.heap.get? S = some (seqObj "list" [vb, ukb].toArray c) → Rep X.K B ρ v b → RelV v vb → Rep X.K B [] k kb → RelV k ukb →
    minL (keyC cl f) b kb (ws.drop i) = some r → codeAny (model X.prog X.w) X.A (.builtin "min.loop" ⟨[.ref I, .ref fa, .ref S], kw⟩) R s := by
  have hname : (toString "min" ++ toString ".loop" : String) = "min.loop" := by decide
  intro n
  induction n with
  | zero =>
    intro i c b kb v k vb ukb s B H hn hi J fp e sr it hS rv ru rk ruk hm
    have hz : i = ws.length := by omega
    rw [hz, List.drop_length] at hm
    have hm : some b = some r := hm
    cases hm
    obtain ⟨xs, vs, r1, r2, pl⟩ := M.at J e sr
    have ne := iter_ne it hS
    refine codeAny_builtin F.entry_min_loop ?_
    rw [Around.under_plainId F.plain_min_loop _]
    show wpAny _ X.A.in1 (seqItems? (Value.ref S) >>= _) _ _ s
    refine wpAny_bind (wpAny_seqItems (a := S) hS rfl ?_)
    show wpAny _ X.A.in1 (tryCatch (pyNext (Value.ref I)) _ >>= _) _ _ s
    refine wpAny_bind (wpAny_tryCatch (wpAny_pyNext_list_end (J.ok.hd M.hc) it pl.isList (by
      have h1 := r1.length
      have h2 := r2.length
      simp
      omega) fun h' eb => ?_))
    have hS1 : h'.get? S = some (seqObj "list" [vb, ukb].toArray c) := eb S _ ne hS
    show wpAny _ X.A.in1 (updateSeq S (fun _ => (#[] : Array Value)) >>= _) _ _ _
    refine wpAny_bind ?_
    refine wpAny_updateSeq (a := S) hS1 rfl (wpAny_bind (wpAny_letGo (wpAny_pure (hR _ _ ⟨B, H, v, ?_, e, sr, rv, ru⟩))))
    have J1 : Inv X pins σ H { s with heap := h' } := J.turnedL (t' := s.toks) (ch := [I]) (fun d o hd eo => eb d o (by simpa using hd) eo) fun d hd => fp d (by simp at hd; simp [hd])
    refine J1.turnedL (ch := [I, S]) (t' := s.toks) (fun d o hd eo => ?_) fp
    simp only [List.mem_cons, List.mem_nil_iff, or_false, not_or] at hd
    exact (Heap.get?_update_other _ _ (Ne.symm hd.2)).trans eo
  | succ n ih =>
    intro i c b kb v k vb ukb s B H hn hi J fp e sr it hS rv ru rk ruk hm
    have hlt : i < ws.length := by omega
    rw [List.drop_eq_getElem_cons hlt] at hm
    unfold minL at hm
    have go : ∀ {k1 : W}, keyC cl f ws[i] = some k1 → ∀ {c1 : Bool}, ltW k1 kb = some c1 → (if c1 = true then minL (keyC cl f) ws[i] k1 (ws.drop (i + 1)) else minL (keyC cl f) b kb (ws.drop (i + 1))) = some r → codeAny (model X.prog X.w) X.A (.builtin "min.loop" ⟨[.ref I, .ref fa, .ref S], kw⟩) R s := by
      intro k1 hk c1 h1 hm
      refine codeAny_builtin F.entry_min_loop ?_
      rw [Around.under_plainId F.plain_min_loop _]
      show wpAny _ X.A.in1 (seqItems? (Value.ref S) >>= _) _ _ s
      refine wpAny_bind (wpAny_seqItems (a := S) hS rfl ?_)
      show wpAny _ X.A.in1 (tryCatch (pyNext (Value.ref I)) _ >>= _) _ _ s
      refine wpAny_bind (wpAny_tryCatch (wpAny_mono (mk_turn M J fp e sr it hS (List.getElem?_eq_getElem hlt) hk _) (fun o1 s1 z => ?_) fun _ _ z => z))
      obtain ⟨u1, rfl, z⟩ := z
      show wpAny _ X.A.in1 (tryCatch (holding [u1] (call (Value.ref fa) [u1])) _ >>= _) _ _ _
      refine wpAny_bind (wpAny_tryCatch (wpAny_holding (wpAny_mono (z _) (fun q s2 y => ?_) fun _ _ z => z)))
      obtain ⟨B2, H2, v1, kv1, J2, fp2, x2, sr2, it2, hS2, rv1, ru1, rk1, rq1⟩ := y
      show wpAny _ X.A.in1 (tryCatch (holding [u1, q] (richCompare .Lt q ukb >>= _)) _ >>= _) _ _ _
      refine wpAny_bind (wpAny_tryCatch (wpAny_holding (wpAny_bind (ltW_rc J2 sr2.same sr2.same (by show X.A.units + 1 + 20 < cLine; have := M.un; omega) h1 rk1 (Rep.mono (ρ' := []) x2.b ⟨[], rfl⟩ rk) rq1 ruk ?_))))
      refine wpAny_bind (wpAny_holding (wpAny_truthy_bool ?_))
      refine wpAny_bind (wpAny_letGo (wpAny_pure ?_))
      cases c1 with
      | true =>
        rw [if_pos rfl] at hm
        simp only [if_true]
        refine wpAny_bind ?_
        refine wpAny_updateSeq (a := S) hS2 rfl (wpAny_bind (wpAny_letGo ?_))
        rw [hname]
        refine wpAny_pure ⟨plainId_quiet F.plain_min_loop _, ih (i + 1) _ ws[i] k1 v1 kv1 u1 q _ B2 H2 (by omega) hlt (J2.turnedL (ch := [I, S]) (t' := s2.toks) (fun d o hd eo => ?_) fp2) fp2 (e.trans x2) sr2 (it2.at fun o eo => (Heap.get?_update_other _ _ (iter_ne it2 hS2)).trans eo) (Heap.get?_update_self _ hS2 rfl) rv1 ru1 rk1 rq1 hm⟩
        simp only [List.mem_cons, List.mem_nil_iff, or_false, not_or] at hd
        exact (Heap.get?_update_other _ _ (Ne.symm hd.2)).trans eo
      | false =>
        rw [if_neg Bool.false_ne_true] at hm
        simp only [Bool.false_eq_true, if_false]
        refine wpAny_bind (wpAny_letGo ?_)
        rw [hname]
        exact wpAny_pure ⟨plainId_quiet F.plain_min_loop _, ih (i + 1) _ b kb v k vb ukb s2 B2 H2 (by omega) hlt J2 fp2 (e.trans x2) sr2 it2 hS2 (rv.mono x2.b x2.pre) ru (Rep.mono (ρ' := []) x2.b ⟨[], rfl⟩ rk) ruk hm⟩
    split at hm
    · rename_i k1 hk
      split at hm
      · rename_i h1
        exact go hk h1 (by rw [if_pos rfl]; exact hm)
      · rename_i h1
        exact go hk h1 (by rw [if_neg Bool.false_ne_true]; exact hm)
      · cases hm
    · cases hm
theorem min_first (M : MK X cl f fa ρ St B0 l ws) {r : W} {R : Result → Shared → Prop} {kw : List (Str × Value)} (hR : ∀ u s', MF X pins σ ρ St B0 H0 r u s' → R (.ok (.ret u)) s') {c : Nat} {s : Shared} {B H : Hp} (J : Inv X pins σ H s) (fp : ∀ a ∈ [I, S], FpOk X pins H a) (e : Ext ρ B0 H0 ρ B H) (sr : SR X.K ρ St B H)
    (it : s.heap.IsListIter I l 0) (hS : s.heap.get? S = some (seqObj "list" ([] : List Value).toArray c)) (hm : minR (keyC cl f) ws = some r) : codeAny (model X.prog X.w) X.A (.builtin "min.loop" ⟨[.ref I, .ref fa, .ref S], kw⟩) R s := by
  have hname : (toString "min" ++ toString ".loop" : String) = "min.loop" := by decide
  cases ws with
  | nil => cases hm
  | cons w ws =>
    have hm : (match keyC cl f w with
      | some k => minL (keyC cl f) w k ws
      | none => none) = some r := hm
    split at hm
    · rename_i k1 hk
      refine codeAny_builtin F.entry_min_loop ?_
      rw [Around.under_plainId F.plain_min_loop _]
      show wpAny _ X.A.in1 (seqItems? (Value.ref S) >>= _) _ _ s
      refine wpAny_bind (wpAny_seqItems (a := S) hS rfl ?_)
      show wpAny _ X.A.in1 (tryCatch (pyNext (Value.ref I)) _ >>= _) _ _ s
      refine wpAny_bind (wpAny_tryCatch (wpAny_mono (mk_turn M J fp e sr it hS (w := w) rfl hk _) (fun o1 s1 z => ?_) fun _ _ z => z))
      obtain ⟨u1, rfl, z⟩ := z
      show wpAny _ X.A.in1 (tryCatch (holding [u1] (call (Value.ref fa) [u1])) _ >>= _) _ _ _
      refine wpAny_bind (wpAny_tryCatch (wpAny_holding (wpAny_mono (z _) (fun q s2 y => ?_) fun _ _ z => z)))
      obtain ⟨B2, H2, v1, kv1, J2, fp2, x2, sr2, it2, hS2, rv1, ru1, rk1, rq1⟩ := y
      show wpAny _ X.A.in1 (updateSeq S (fun _ => #[u1, q]) >>= _) _ _ _
      refine wpAny_bind ?_
      refine wpAny_updateSeq (a := S) hS2 rfl ?_
      rw [hname]
      refine wpAny_pure ⟨plainId_quiet F.plain_min_loop _, min_go M hR ws.length 1 _ w k1 v1 kv1 u1 q _ B2 H2 (by simp) (by simp) (J2.turnedL (ch := [I, S]) (t' := s2.toks) (fun d o hd eo => ?_) fp2) fp2 (e.trans x2) sr2 (it2.at fun o eo => (Heap.get?_update_other _ _ (iter_ne it2 hS2)).trans eo) (Heap.get?_update_self _ hS2 rfl) rv1 ru1 rk1 rq1 hm⟩
      simp only [List.mem_cons, List.mem_nil_iff, or_false, not_or] at hd
      exact (Heap.get?_update_other _ _ (Ne.symm hd.2)).trans eo
    · cases hm
/-- min(xs, key=f) -/
theorem min_call (hc : X.calm = true) (hu : X.A.units + 65 < cLine) {fd : FuncData} {kk : Nat} {ps : List Str} (FO : FnOk X.prog X.w X.K X.mg X.base (L2.CX X.prog X.w) kk fa fd ps (SpF X.K X.mg cl f 1)) (bd : Binds X.K fd ps []) (hr : Room (kk + 7) X.A) {s : Shared} {B H : Hp} {v : V} {u : Value} {w r : W} (J : Inv X pins σ H s) (sr : SR X.K ρ St B H)
    (rv : Rep X.K B ρ v w) (ru : RelV v u) (hw : seqL St w = some ws) (hm : minR (keyC cl f) ws = some r) (Ex : Value → Shared → Prop) :
    wpAny (model X.prog X.w) X.A (call (.builtin "min") [u] [(Str.ofString "key", .ref fa)]) (MF X pins σ ρ St B H r) Ex s := by
  have hname : (toString "min" ++ toString ".loop" : String) = "min.loop" := by decide
  obtain ⟨l, xs, rfl, h1, h2⟩ := seqL_ok sr rv hw
  obtain rfl : u = Value.ref l := ru
  obtain ⟨its, rits, pl, _⟩ := J.list h1
  have M : MK X cl f fa ρ St B l ws := ⟨hc, hu, ⟨fd, kk, ps, FO, bd, hr⟩, ⟨w, rv, hw⟩⟩
  refine PyProof.Rows.kmk_tree PySem.F.kind_min PySem.F.plain_min PySem.F.entry_min (PyProof.Rows.kmk_min_key _ _) ?_
  show wpAny _ X.A.in1 (Builtin.Builtins.bindParams "min" ["key", "default"] 0 ⟨[], [(Str.ofString "key", Value.ref fa)]⟩ >>= _) _ _ s
  refine wpAny_bind (wpAny_of_eq (show Builtin.Builtins.bindParams "min" ["key", "default"] 0 ⟨[], [(Str.ofString "key", Value.ref fa)]⟩ = pure [some (Value.ref fa), none] from rfl) ?_)
  refine wpAny_bind (wpAny_pure (wpAny_bind (wpAny_pyIter_list pl.isList ?_)))
  refine wpAny_bind (wpAny_newObj_type ?_)
  have J1 : Inv X pins σ H { s with heap := s.heap.push { cls := .type "list_iterator", data := .fields #[.ref l, .int 0 0] } } := J.kept (t' := s.toks) fun b o z => Heap.get?_push_of_some _ z
  have J2 : Inv X pins σ H { s with heap := (s.heap.push { cls := .type "list_iterator", data := .fields #[.ref l, .int 0 0] }).push (seqObj "list" ([] : List Value).toArray 0) } := J1.kept (t' := s.toks) fun b o z => Heap.get?_push_of_some _ z
  rw [hname]
  refine wpAny_pure ⟨plainId_quiet PySem.F.plain_min_loop _, min_first M (fun u s' z => z) J2 (fun a ha => ?_) Ext.refl sr ⟨_, Heap.get?_push_of_some _ (Heap.get?_push_size _ rfl), rfl, rfl⟩ (Heap.get?_push_size _ rfl) hm⟩
  simp only [List.mem_cons, List.mem_nil_iff, or_false] at ha
  rcases ha with rfl | rfl
  · exact J.fpOk (Nat.le_refl _) (J.hok.fresh (Nat.le_refl _))
  · exact J1.fpOk (Nat.le_refl _) (J1.hok.fresh (Nat.le_refl _))
/-- min(xs, key=f) in the evaluator -/
theorem minK_ok (hE : EvOk pg cl E) (C : CxOk pg cl g Wx X) {o : Expr} {p pf kp pos : Pos} {env : Env'} {S : Sto} {σ : L2.St} {ρ : List Addr} {B H : Hp} {Q : VK} (sl : Sl X.K B ρ σ env) (sr : SR X.K ρ S B H)
    (g1 : gloB g.sc "min" = true) (g2 : pg.free.contains "min" = true) (g3 : notStar o = true) (g4 : gloB g.sc f = true) (g5 : odd f = false) (hf : ∃ a fd k ps, ps.length = 1 ∧ FnOk X.prog X.w X.K X.mg X.base (L2.CX X.prog X.w) k a fd ps (SpF X.K X.mg cl f 1) ∧ X.mg f = some (.ref a) ∧ Binds X.K fd ps [] ∧ Room (k + 7) X.A)
    (h : Hold X.K ((E.e g env S o).bind fun w S1 => (match seqL S1 w with
      | some ws => lift (minR (keyC cl f) ws) S1
      | none => .bad)) ρ B H (okE X.K Q) (ExP X.K X.mg Wx)) : wE X (.Call (.Name "min" p) [o] [⟨some "key", .Name f pf, kp⟩] pos) σ H Q := by
  intro pins s I
  have hm : X.mg "min" = none := C.free _ (List.contains_iff_mem.mp g2)
  obtain ⟨a, fd, k, ps, _, F, hmg, bd, rm⟩ := hf
  refine wpAny_Call_Name_kw (ld_blt I (glo_okB C g1) hm PyProof.Rows.boot_min ?_)
  have hs := star_no (es := []) (env := X.env) g3
  refine PyProof.Rows.callWith_kw ?_ (by rw [hs]; rfl) (by rw [hs]; rfl) rfl rfl
  rw [hs]
  refine Calls.spliced_cons ?_
  have he := hE.e' C sl sr h (Q := fun x H1 => ∃ B1 ρ1 S1 w, Ext ρ B H ρ1 B1 H1 ∧ SR X.K ρ1 S1 B1 H1 ∧ Rep X.K B1 ρ1 x w ∧ Hold X.K (match seqL S1 w with
      | some ws => lift (minR (keyC cl f) ws) S1
      | none => .bad) ρ1 B1 H1 (okE X.K Q) (ExP X.K X.mg Wx)) fun w S1 ρ1 B1 H1 y x1 s1 sl1 r1 q1 => ⟨B1, ρ1, S1, w, x1, s1, r1, q1⟩
  refine thn (he pins s I) fun u s1 ⟨x, H1, I1, rx, B1, ρ1, S1, w, x1, sr1, r1, q1⟩ => ?_
  refine Calls.spliced_nil ?_
  refine PyProof.Rows.kws_cons (ld_glob I1 (glo_okB C g4) hmg (PyProof.Rows.kws_nil ?_) (by have := g5; unfold odd at this; simp at this; simp [this]))
  cases qs : seqL S1 w with
  | none => rw [qs] at q1; exact q1.elim
  | some ws =>
    rw [qs] at q1
    obtain ⟨r, hr, q2⟩ := q1.lift
    refine wpAny_mono (min_call C.calm C.un F bd rm I1 sr1 r1 rx qs hr X.xe) (fun q s2 z => ?_) fun _ _ z => z
    obtain ⟨B2, H2, v2, I2, x2, sr2, r2, rq⟩ := z
    exact ⟨v2, H2, I2, rq, q2 _ _ _ x2 sr2 _ r2⟩
end
end Mi

set_option Elab.async false
set_option linter.all false
set_option maxRecDepth 100000
set_option maxHeartbeats 4000000
/-! Ma36: a call over the empty store: what is handed over is seen as it stands, what comes back is flat. -/
noncomputable section
namespace Mi
open PySem PySem.Spec PyProof.Rows L2
section
variable [Gam] {pg : Pg} {cl : Str → List W → Sto → R W} {E : Evs} {g : Gm} {Wx : WX} {X : Cx}
theorem rep_flat {K : PySem.W.Frag} {B B' : Hp} {ρ ρ' : List Addr} {v : V} {w : W} (r : Rep K B ρ v w) (h : flatW w = true) : Rep K B' ρ' v w := by
  cases r <;> first | exact .non | exact .bl _ | exact .int _ | exact .str _ | cases h
theorem isoE_ok (hE : EvOk pg cl E) (C : CxOk pg cl g Wx X) {f : Str} {a : Expr} {as : List Expr} {p pos : Pos} {env : Env'} {S : Sto} {σ : L2.St} {ρ : List Addr} {B H : Hp} {Q : VK} (sl : Sl X.K B ρ σ env) (sr : SR X.K ρ S B H)
    (g1 : gloB g.sc f = true) (g2 : (!odd f) = true) (g3 : g.own = true) (g4 : (pg.ar f).isSome = true)
    (h : Hold X.K ((mapR (fun e S => E.e g env S e) (a :: as) S).bind fun ws S1 => (match pg.ar f, frzs S1 0 100000 ws with
      | some n, some ws' => guard' (decide (ws.length = n)) (isoR (cl f ws' []) S1)
      | _, _ => .bad)) ρ B H (okE X.K Q) (ExP X.K X.mg Wx)) : wE X (.Call (.Name f p) (a :: as) [] pos) σ H Q := by
  have g0 := C.ownT g3
  have hs := mapR_stars h
  cases q : pg.ar f with
  | none =>
    rw [q] at g4
    cases g4
  | some n =>
    obtain ⟨fa, fd, k, ps, hn, F, m, kp, b, hr⟩ := C.fns f n q
    refine wE_of (pe_callS (E := fun σ => WE Wx σ) F (hr.mono (by omega)) (glo_okB C g1) m kp b (fun σ => passAt C.tk σ) pwA (odd_no g2).1 (star_no (hs a (List.mem_cons_self ..))) (stars_no fun e' he => hs e' (List.mem_cons_of_mem _ he))) ?_
    refine (show wA X (a :: as) σ H _ from mapR_bind hE C sl sr h fun ws S1 ρ1 B1 H1 vs x1 s1 sl1 r k1 => ?_)
    rw [q] at k1
    split at k1
    · rename_i n' ws' e1 e2
      cases e1
      obtain ⟨k2, k3⟩ := k1.grd
      have same2 : Same (addB B1 H1 (ρ1.drop 0)) H1 := fun d o z => by
        by_cases hm : d ∈ ρ1.drop 0
        · rw [addB_in hm] at z
          exact z
        · rw [addB_out hm] at z
          exact s1.same d o z
      have s2 : SR X.K [] [] (addB B1 H1 (ρ1.drop 0)) H1 := ⟨same2, rfl, List.nodup_nil, fun i a o e => by simp at e, TbOk.nil g0, fun z => absurd g0 z⟩
      have r2 : RepL X.K (addB B1 H1 (ρ1.drop 0)) [] vs ws' := frzs_ok s1 r e2
      refine ⟨by rw [r.length]; exact of_decide_eq_true k2, [], [], _, ws', s2, r2, ?_⟩
      cases qc : cl f ws' [] with
      | bad => rw [qc] at k3; exact k3.elim
      | exc c fs en S2 => rw [qc] at k3; exact k3.elim
      | ok w S2 =>
        rw [qc] at k3
        cases S2 with
        | cons _ _ => exact k3.elim
        | nil =>
          obtain ⟨k4, k5⟩ := (show Hold X.K (guard' (flatW w) (.ok w S1)) ρ1 B1 H1 (okE X.K Q) (ExP X.K X.mg Wx) from k3).grd
          intro ρ' B' H' x s' v rv
          have keep : ∀ d o, H1 d = some o → H' d = some o := fun d o z => x.frame d o z (fun z => absurd g0 z) (by simp)
          have x3 : Ext ρ1 B1 H1 ρ1 B1 H' := ⟨Same.refl B1, ⟨[], by simp, fun a h => by simp at h⟩, fun d o z _ _ => keep d o z, fun d o z => ⟨o, keep d o z⟩, fun _ _ _ _ n => n, fun d o u z => keep d _ z⟩
          have s3 : SR X.K ρ1 S1 B1 H' := ⟨fun d o z => keep d o (s1.same d o z), s1.len, s1.nd, fun i d o e1 e2 => (s1.cell i d o e1 e2).mono (Same.refl B1) ⟨[], by simp⟩ (fun n => n) (fun u hu => keep d u hu), TbOk.nil g0, s1.nb⟩
          exact k5 ρ1 B1 H' x3 s3 v (rep_flat rv k4)
    · exact k1.elim
end
end Mi

set_option Elab.async false
set_option linter.all false
set_option maxRecDepth 100000
set_option maxHeartbeats 4000000
/-! Ma24: lambdas that are handed to a def; all together. -/
noncomputable section
namespace Mi
open PySem PySem.Spec PyProof.Rows L2
variable [Gam]
theorem lam_sr {K : PySem.W.Frag} {ρ : List Addr} {S : Sto} {B H G : Hp} {P : Addr} {nm : Str} (s : SR K ρ S B H) (mem : (P, nm) ∈ Gam.tabs) (t2 : LamX.Tabs Gam.tabs G) (l : LamH H P nm G) : Ext ρ B H ρ B G ∧ SR K ρ S B G := by
  rcases l with rfl | ⟨p0, p1, k, hP, hk, rfl⟩
  · exact ⟨Ext.refl, s⟩
  have g0 : Gam.tabs ≠ [] := fun z => by rw [z] at mem; exact nomatch mem
  have kP : P ≠ k := ne_of_none hP hk
  have bP : B P = none := by
    cases q : B P with
    | none => rfl
    | some o =>
      have z := s.same _ _ q
      rw [hP] at z
      cases z
      exact absurd q (s.nb g0 P p0)
  have keep : ∀ c u, c ≠ P → H c = some u → upd (upd H P (.tbl p1)) k (LamX.CodeO k nm) c = some u := fun c u h1 h2 => by
    rw [upd_ne (ne_of_none h2 hk), upd_ne h1]
    exact h2
  refine ⟨⟨Same.refl B, ⟨[], by simp, fun a h => by simp at h⟩, fun c o h nt _ => keep c o (fun e => ?_) h, fun c o h => ?_, fun _ _ _ _ n => n, fun c o u h => keep c _ (fun e => ?_) h⟩, ⟨fun c u h => keep c u (fun e => ?_) (s.same c u h), s.len, s.nd, fun i c so e1 e2 => ?_, t2, s.nb⟩⟩
  · have z := nt g0
    rw [e, hP] at h
    cases h
    cases z
  · by_cases e : c = P
    · exact ⟨.tbl p1, by rw [e, upd_ne kP, upd_same]⟩
    · exact ⟨o, keep c o e h⟩
  · rw [e, hP] at h
    cases h
  · rw [e, bP] at h
    cases h
  · have c1 := s.cell i c so e1 e2
    exact c1.mono (Same.refl B) ⟨[], by simp⟩ (fun n => n) fun u hu => keep c u (fun e => by
      have z := c1.notTbl s.same hu
      rw [e, hP] at hu
      cases hu
      cases z) hu
section
variable {pg : Pg} {cl : Str → List W → Sto → R W} {E : Evs} {g : Gm} {Wx : WX} {X : Cx}
theorem lam_cx {lv : Nat} (C : CxL lv pg cl g Wx X) {A : Around} {outer : List Env} {s : Shared} {H : Hp} {E : XK} {sc : Scope} {f c : Addr} (rm : Room lv (A.deeper (LamX.lamEnv X sc s.heap.objs.size f c))) : CxOk pg cl (lamGm g sc) (fun cls d _ H => E cls d H) (LamX.lamCx X A outer s H E sc f c) :=
  ⟨lv, {
  N := C.N
  nd := C.nd
  sc := rfl
  fn := rfl
  calm := rfl
  un := by have := rm.un; show (A.deeper (LamX.lamEnv X sc s.heap.objs.size f c)).units + 65 < cLine; omega
  pass := passes_of rfl
  tk := takes_of rfl rfl rfl rfl
  cst := C.cst
  fns := C.fns
  wd := C.wd
  free := C.free
  flds := C.flds
  xcs := C.xcs
  top := fun h => nomatch h
  exk := C.exk
  exm := C.exm
  exf := C.exf
  exi := C.exi
  isi := C.isi
  mts := C.mts
  news := C.news
  eqs := C.eqs
  ownT := C.ownT
  rm := rm
  lam := fun h => nomatch h
  told := C.told }⟩
abbrev NoX : WX := fun _ _ _ _ => False
abbrev toldC (X : Cx) (t : Told) (f : Str) (g0 : Addr) (cd : Value) (s : Shared) (H : Hp) : Cx := (cxOf C8.CX0 X.prog X.w X.K X.mg X.base t.N f t.sc g0 cd X.A X.stack s H C8.E0).nox
theorem bare_cx {lv : Nat} (C : CxL lv pg cl g Wx X) (rm : Room (lv + 2) X.A) {t : Told} {a f : Str} {g0 : Addr} {cd : Value} {s : Shared} {H : Hp} (S : FnScope t.N [a] t.sc) : CxOk (bareP pg) cl (toldG t) NoX (toldC X t f g0 cd s H) :=
  ⟨0, {
  N := rfl
  nd := S.nd
  sc := rfl
  fn := rfl
  calm := rfl
  un := by have := rm.un; show X.A.units + 3 + 65 < cLine; omega
  pass := PassesOwn.never
  tk := takes0
  cst := C.cst
  fns := fun f n h => nomatch h
  wd := C.wd
  free := C.free
  flds := fun c f h => nomatch h
  xcs := fun c ns h => nomatch h
  top := fun _ => ⟨rfl, rfl⟩
  exk := C.exk
  exm := C.exm
  exf := C.exf
  exi := C.exi
  isi := fun c t b h => nomatch h
  mts := fun c m n h => nomatch h
  news := fun c n fz h => nomatch h
  eqs := fun c d h => nomatch h
  ownT := fun h => nomatch h
  rm := (rm.mono (by omega : 1 ≤ lv + 2)).deeper _
  lam := fun h => nomatch h
  told := fun f t h => nomatch h }⟩
/-- what the clauses make of it -/
def HSpec (K : PySem.W.Frag) (mg : Str → Option Value) (pg : Pg) (t : Told) (hds : List ExceptHandler) (l : List Hand) : Prop := ∀ {c : Str} {fs : List (Str × W)} {env : Env'} {S : Sto} {D : Ends} {ρ0 ρ : List Addr} {B0 H0 B H : Hp},
  Hold K (hdR (bareP pg) (toldG t) c fs env S hds) ρ0 B0 H0 (okS K D) (ExP K mg NoX) → Ext ρ0 B0 H0 ρ B H → SR K ρ S B H → ExP K mg (wHands K NoX D l) c fs env ρ B H
def tailV : Expr → V
  | .Constant (.str s) _ _ => .str s
  | _ => .non
theorem tail_pe {e : Expr} {w : W} (h : tailW e = some w) : PE X e (fun σ H Q => Q (tailV e) H) ∧ ∀ K B ρ, Rep K B ρ (tailV e) w := by
  unfold tailW at h
  split at h
  · cases h
    exact ⟨pe_non, fun _ _ _ => .non⟩
  · cases h
    exact ⟨pe_str, fun _ _ _ => .str _⟩
  · cases h
def Dt (Q : VK) (v : V) : Ends := { ({ nx := fun _ H' => Q .non H', rt := Q } : Ends) with nx := fun _ H => Q v H }
def TTh (X : Cx) (pg : Pg) (t : Told) (hds : List ExceptHandler) (v : V) (tl : XK → Hp → VK → Prop) (H : Hp) (Q : VK) : Prop := ∀ l, HSpec X.K X.mg pg t hds l → tl (fun cls d H' => ∀ σ', σ'.length = t.N.length → wHands X.K NoX (Dt Q v) l cls d σ' H') H fun _ H' => Q v H'
theorem told_gives {lv : Nat} (C : CxL lv pg cl g Wx X) (rm : Room (lv + 2) X.A) {t : Told} {a f nm : Str} {g0 : Addr} {cd : Value} (S : FnScope t.N [a] t.sc) {h0 : ExceptHandler} {hds : List ExceptHandler} {e : Expr} {w : W} {p1 p2 p3 p4 p5 : Pos} (hb : t.body = [.Try [.Expr (.Call (.Name a p1) [] [] p2) p3] (h0 :: hds) [] [] p4, .Return (some e) p5])
    (hk : (h0 :: hds).all (hdOk (bareP pg) (toldG t)) = true) (hw : tailW e = some w) : LamX.GivesTo X t.N f t.sc g0 cd t.body a nm (TTh X pg t (h0 :: hds) (tailV e)) := by
  intro f0 c' s H Q tl act hc h
  obtain ⟨l, hl, spec⟩ := hands_of (bare_cx (t := t) (a := a) (f := f) (g0 := g0) (cd := cd) (s := s) (H := H) C rm S) hk
  rw [hb]
  refine ⟨_, pss_cons (ps_try_hands (X := toldC X t f g0 cd s H) (l := l) (Wout := NoX) rfl rfl S.nd takes0
      (tb := fun W D σ H => ∃ Ech : XK, (∀ cls d σ' H', Ech cls d H' → σ'.length = t.N.length → W cls d σ' H') ∧ σ[0]? = some (some (.ref f0)) ∧ H c' = some (LamX.CodeO c' nm) ∧ tl Ech H fun _ H' => D.nx σ H')
      (fun W pn xe tk _ => ⟨fun pins s' σ H' D I h' => ?_⟩) hl) (pss_one (ps_ret (tail_pe hw).1)), ?_⟩
  · obtain ⟨Ech, imp, h1, h2, h3⟩ := h'
    have tk2 : Takes ((toldC X t f g0 cd s H).tr pn xe) (fun cls d σ' H' => σ'.length = t.N.length → W cls d σ' H') := fun u s1 ⟨a1, B1, sI, pins1, σ1, H1, cls, d, e1, I1, nb, up, sky, na, os, ag, w1⟩ =>
      tk u s1 ⟨a1, B1, sI, pins1, σ1, H1, cls, d, e1, I1, nb, up, sky, na, os, ag, w1 I1.len⟩
    have hp := act _ pn xe Ech p1 p2 tk2 imp
    exact (pss_one (ps_expr (pos := p3) hp)).run pins s' σ H' D I ⟨h1, h2, h3⟩
  · exact ⟨fun cls d H' => ∀ σ', σ'.length = t.N.length → wHands X.K NoX (Dt Q (tailV e)) l cls d σ' H', fun cls d σ' H' z le => z σ' le, rfl, hc, h l spec⟩
theorem none_sl {K : PySem.W.Frag} {B : Hp} {ρ : List Addr} {σ : L2.St} {N : List Str} (h : σ.length = N.length) : Sl K B ρ σ (N.map fun _ => none) := ⟨by rw [List.length_map, h], fun i w e => by
  rw [List.getElem?_map] at e
  cases q : N[i]? with
  | none => rw [q] at e; cases e
  | some x => rw [q] at e; cases e⟩
theorem lamE_ok (hE : EvOk pg cl E) (C : CxOk pg cl g Wx X) {f : Str} {p lp pos : Pos} {bd : Expr} {sc : Scope} {t : Told} {env : Env'} {S : Sto} {σ : L2.St} {ρ : List Addr} {B H : Hp} {Q : VK} (sl : Sl X.K B ρ σ env) (sr : SR X.K ρ S B H) (ht : pg.told f = some t)
    (g1 : gloB g.sc f = true) (g2 : odd f = false) (g3 : g.lam = true) (g4 : LamX.lamSB g.sc sc = true) (h : Hold X.K (toldR pg t S.length (E.e (lamGm g sc) env S bd)) ρ B H (okE X.K Q) (ExP X.K X.mg Wx)) : wE X (.Call (.Name f p) [.Lambda ⟨[], [], none, [], [], none, []⟩ bd sc lp] [] pos) σ H Q := by
  have gl := glo_okB C g1
  obtain ⟨lv, C⟩ := C
  obtain ⟨room, Cc, P, code, TB, mem, uniq⟩ := C.lam g3
  obtain ⟨g0, a, pr, fd, dvs, mg, F, bi, S', slot, vis⟩ := (C.told f t ht).ex
  unfold toldR at h
  split at h
  · rename_i a' p1 p2 p3 h0 hds p4 e p5 hb
    obtain ⟨k1, h2⟩ := h.grd
    rw [Bool.and_eq_true, Bool.and_eq_true] at k1
    obtain ⟨⟨k1, k2⟩, k3⟩ := k1
    have ea : a' = a := by
      have z := eq_of_beq k2
      rw [slot] at z
      exact (Option.some.inj z).symm
    subst ea
    cases hw : tailW e with
    | none => rw [hw] at h2; exact h2.elim
    | some w0 =>
      rw [hw] at h2
      have no := odd_no (x := a') k3
      have nf := odd_no (x := f) (by rw [g2]; rfl)
      have L : LamX.LamS X.env.scope sc := by
        rw [C.sc]
        exact LamX.lamS_by g4
      refine wE_of (pe_lamS (T := Gam.tabs) (P := P) (TT := TTh X pg t (h0 :: hds) (tailV e)) (t := fun E σ H Q => ∀ A outer s0 H0 f c, Room lv (A.deeper (LamX.lamEnv X sc s0.heap.objs.size f c)) → wE (LamX.lamCx X A outer s0 H0 E sc f c) bd σ H Q) gl mg F bi S' slot vis (fun cd => told_gives C room S' hb k1 hw) TB code rfl mem uniq room L rfl
        (fun q cl u v w => rfl) (fun A outer s H E f c r => ⟨fun pins s' σ H' Q I q => q A outer s H f c r pins s' I⟩) nf.1 no.1 no.2.1) ⟨sr.tb, fun G lam t2 l spec A outer s0 H0 f c r => ?_⟩
      obtain ⟨x, sr1⟩ := lam_sr sr mem t2 lam
      refine hE.e (lam_cx C r) (sl.mono x) sr1 ?_
      have h3 : Hold X.K (toldX pg t (h0 :: hds) w0 S.length (E.e (lamGm g sc) env S bd)) ρ B G (okE X.K Q) (ExP X.K X.mg Wx) := Hold.ext h2 x
      cases er : E.e (lamGm g sc) env S bd with
      | bad => rw [er] at h3; exact h3.elim
      | ok w S1 =>
        rw [er] at h3
        exact fun ρ' B' H' x' s' v _ => exitW_ok x' s' ((tail_pe (X := X) hw).2 _ _ _) sr1.len h3
      | exc c fs en S1 =>
        rw [er] at h3
        intro ρ' B' H' x' s' σ1 Ca d fv _ mc hd rf σ2 l2
        have hh : Hold X.K (hdR (bareP pg) (toldG t) c fs (t.N.map fun _ => none) S1 (h0 :: hds)) ρ B G (okS X.K (Dt Q (tailV e))) (ExP X.K X.mg NoX) := by
          have h4 : Hold X.K (match hdR (bareP pg) (toldG t) c fs (t.N.map fun _ => none) S1 (h0 :: hds) with
            | .ok (.ret w) S2 => exitW S.length w S2
            | .ok (.next _) S2 => exitW S.length w0 S2
            | _ => .bad) ρ B G (okE X.K Q) (ExP X.K X.mg Wx) := h3
          cases eh : hdR (bareP pg) (toldG t) c fs (t.N.map fun _ => none) S1 (h0 :: hds) with
          | bad => rw [eh] at h4; exact h4.elim
          | exc c2 fs2 en2 S2 => rw [eh] at h4; exact h4.elim
          | ok o S2 =>
            rw [eh] at h4
            cases o with
            | ret w => exact fun ρ2 B2 H2 x2 s2 v rv => exitW_ok x2 s2 rv sr1.len h4
            | next en2 => exact fun ρ2 B2 H2 x2 s2 σ3 _ => exitW_ok x2 s2 ((tail_pe (X := X) hw).2 _ _ _) sr1.len h4
            | brk en2 => exact h4.elim
            | cont en2 => exact h4.elim
        exact spec hh x' s' σ2 Ca d fv (none_sl l2) mc hd rf
  · exact h.elim
theorem stepE1_ok (hE : EvOk pg cl E) (C : CxOk pg cl g Wx X) {e : Expr} {env : Env'} {S : Sto} {σ : L2.St} {ρ : List Addr} {B H : Hp} {Q : VK} (sl : Sl X.K B ρ σ env) (sr : SR X.K ρ S B H) (h : Hold X.K (stepE1 pg cl E g env S e) ρ B H (okE X.K Q) (ExP X.K X.mg Wx)) : wE X e σ H Q := by
  unfold stepE1 at h
  split at h
  · split at h
    · obtain ⟨k, h2⟩ := h.grd
      rw [Bool.and_eq_true, Bool.and_eq_true, Bool.and_eq_true] at k
      obtain ⟨k1, k2, k3, k4⟩ := k
      exact isoE_ok hE C sl sr k1 k2 k3 k4 h2
    · exact stepE0_ok hE C sl sr h
  · exact stepE0_ok hE C sl sr h
theorem stepE_ok (hE : EvOk pg cl E) (C : CxOk pg cl g Wx X) {e : Expr} {env : Env'} {S : Sto} {σ : L2.St} {ρ : List Addr} {B H : Hp} {Q : VK} (sl : Sl X.K B ρ σ env) (sr : SR X.K ρ S B H) (h : Hold X.K (stepE pg cl E g env S e) ρ B H (okE X.K Q) (ExP X.K X.mg Wx)) : wE X e σ H Q := by
  unfold stepE at h
  split at h
  · rename_i f p bd sc lp pos
    cases ht : pg.told f with
    | none => rw [ht] at h; exact h.elim
    | some t =>
      rw [ht] at h
      obtain ⟨k, h2⟩ := h.grd
      rw [Bool.and_eq_true, Bool.and_eq_true, Bool.and_eq_true] at k
      obtain ⟨⟨⟨k1, k2⟩, k3⟩, k4⟩ := k
      exact lamE_ok hE C sl sr ht k1 (by simpa using k2) k3 k4 h2
  · obtain ⟨k, h2⟩ := h.grd
    rw [Bool.and_eq_true, Bool.and_eq_true] at k
    obtain ⟨k1, k2, k3⟩ := k
    exact catR_ok hE C sl sr k1 (by simpa using k2) k3 h2
  · obtain ⟨k, h2⟩ := h.grd
    rw [Bool.and_eq_true, Bool.and_eq_true, Bool.and_eq_true] at k
    obtain ⟨k1, k2, k3, k4⟩ := k
    exact find3_ok hE C sl sr k1 k2 k3 k4 h2
  · obtain ⟨k, h2⟩ := h.grd
    exact dispS_ok hE C sl sr k h2
  · obtain ⟨k, h2⟩ := h.grd
    rw [Bool.and_eq_true, Bool.and_eq_true, Bool.and_eq_true] at k
    obtain ⟨k1, k2, k3, k4⟩ := k
    exact tupI_ok hE C sl sr k1 k2 k3 k4 h2
  · rename_i p o f pf kp pos
    obtain ⟨k, h2⟩ := h.grd
    unfold minG at k
    rw [Bool.and_eq_true, Bool.and_eq_true, Bool.and_eq_true, Bool.and_eq_true, Bool.and_eq_true] at k
    obtain ⟨k1, k2, k3, k4, k5, k6⟩ := k
    obtain ⟨a, fd, kk, ps, hn, F, m, kp', b, hr⟩ := C.fns f 1 (of_decide_eq_true k6)
    exact minK_ok hE C sl sr k1 k2 k3 k4 (by simpa using k5) ⟨a, fd, kk, ps, hn, F, m, b, hr⟩ h2
  · exact stepE1_ok hE C sl sr h
theorem ev_ok (pg : Pg) (cl : Str → List W → Sto → R W) : ∀ n, EvOk pg cl (ev pg cl n)
  | 0 => ⟨fun {_ _ _} _ {_ _ _ _ _ _ _ _} _ _ h => h.elim, fun {_ _ _} _ {_ _ _ _ _ _ _ _} _ _ h => h.elim, fun {_ _ _} _ {_ _ _ _ _ _ _ _} _ _ h => h.elim⟩
  | n + 1 => ⟨fun C => stepE_ok (ev_ok pg cl n) C, fun C => stepT_ok (ev_ok pg cl n) C, fun C => stepS_ok (ev_ok pg cl n) C⟩
end
end Mi

set_option Elab.async false
set_option linter.all false
set_option maxRecDepth 100000
set_option maxHeartbeats 4000000
/-! Mi10: defs and their calls. -/
noncomputable section
namespace Mi
open PySem PySem.Spec PyProof.Rows L2

/-- a def of the text: its names (the parameters first), how many parameters, body, scope, names whose displays are cells; keep: what it lays stays cells -/
structure Fn where
  N : List Str
  P : Nat
  body : List Stmt
  sc : Scope
  muts : List Str
  keep : Bool := false
  dfl : List W := []
  own : Bool := false
  lam : Bool := false

def exitR (n0 : Nat) (r : R Out') : R W := r.bind fun o S => match o with
  | .ret w => exitW n0 w S
  | .next _ => exitW n0 .non S
  | .brk _ => .bad
  | .cont _ => .bad
def keepR (r : R Out') : R W := r.bind fun o S => match o with
  | .ret w => .ok w S
  | .next _ => .ok .non S
  | .brk _ => .bad
  | .cont _ => .bad
def leaveR (k : Bool) (n0 : Nat) (r : R Out') : R W := match k with
  | true => keepR r
  | false => exitR n0 r
def startE (N : List Str) (ws : List W) : Env' := ws.map some ++ List.replicate (N.length - ws.length) none
def FUEL : Nat := 1000
def gmOf (F : Fn) : Gm := ⟨F.N, F.sc, fun _ => true, F.muts, true, F.own, F.lam⟩
def bodyR (pg : Pg) (cl : Str → List W → Sto → R W) (F : Fn) (ws : List W) (S : Sto) : R Out' := seqR (fun env S s => (ev pg cl FUEL).s (gmOf F) env S s) F.body (startE F.N ws) S
def callD (pg : Pg) (fns : Str → Option Fn) : Nat → Str → List W → Sto → R W
  | 0, _, _, _ => .bad
  | d + 1, f, ws, S => match fns f with
    | none => .bad
    | some F => guard' (decide (ws.length = F.P)) (leaveR F.keep S.length (bodyR pg (callD pg fns d) F ws S))

variable [Gam]
/-! ### the defs of a text -/
/-- where a def stands -/
structure Def (K : PySem.W.Frag) (f : Str) (F : Fn) : Prop where
  at_ : ∃ fd name qual params dvs, FunD K name qual params F.body F.sc dvs [] (Gam.fn f) fd ∧ Binds K fd (F.N.take F.P) [] ∧ ∀ j, Dfl K fd (F.N.take F.P) (F.dfl.drop j)
  sc : FnScope F.N (F.N.take F.P) F.sc
  len : (F.N.take F.P).length = F.P
structure Txt (K : PySem.W.Frag) (mg : Str → Option Value) (pg : Pg) (fns : Str → Option Fn) : Prop where
  defs : ∀ f F, fns f = some F → Def K f F
  ar : ∀ f n, pg.ar f = some n → ∃ F, fns f = some F ∧ F.P = n ∧ mg f = some (.ref (Gam.fn f)) ∧ PySem.W.keepIn K (.ref (Gam.fn f)) = true
  cst : ∀ x w, pg.cst x = some w → ∃ u v, mg x = some u ∧ RelV v u ∧ ∀ B, Rep K B [] v w
  free : ∀ f ∈ pg.free, mg f = none
  flds : ∀ c f, pg.fld c f = true → ∃ C, Gam.cls c = some C ∧ Cls K C ∧ NoAttr K C f
  mts : ∀ c m n, pg.mt c m = some n → ∃ C F, Gam.cls c = some C ∧ Cls K C ∧ Meth K C m (Gam.fn (mName c m)) ∧ fns (mName c m) = some F ∧ F.P = n + 1
  news : ∀ c n fz, pg.new c = some (n, fz) → ∃ C F, Gam.cls c = some C ∧ mg c = some (.ref C) ∧ Mk K C (Gam.fn (mName c "__init__")) ∧ fns (mName c "__init__") = some F ∧ F.P = n + 1 ∧ F.dfl = pg.dfl c
  xcs : ∀ c ns, pg.xc c = some ns → ∃ C a fd ps, mg c = some (.ref C) ∧ OexC K C ∧ (∀ f ∈ ns, PySem.W.findIn K (.ref C) f = some none) ∧ PySem.W.findIn K (.ref C) "__init__" = some (some (.ref a)) ∧ PySem.W.typeIn K (.ref a) = some (.type "function") ∧
    (∀ P w base, FnOk P w K mg base (L2.CX P w) 1 a fd ps (SpI K ns)) ∧ Binds K fd ps []
  exk : ∀ x, pg.exk x = true → ∃ C, mg x = some (.ref C)
  exm : ∀ c x b, pg.exm c x = some b → ∃ C Cx, mg c = some (.ref C) ∧ mg x = some (.ref Cx) ∧ PySem.W.exmOne K (.ref C) (.ref Cx) = some b
  exf : ∀ c f, pg.exf c f = true → ∃ C, mg c = some (.ref C) ∧ XfC K C ∧ PySem.W.findIn K (.ref C) f = some none
  exi : ∀ c t b, pg.exi c t = some b → ∃ C cv, mg c = some (.ref C) ∧ ExcC K C ∧ PySem.W.kitOne K (.ref C) cv = some b ∧ ((∃ Ct, mg t = some (.ref Ct) ∧ cv = .ref Ct) ∨ (mg t = none ∧ ∃ T, bootBuiltins t = some (.type T) ∧ cv = .type T))
  isi : ∀ c t b, pg.isi c t = some b → ∃ u cv, TyN K c u ∧ PySem.W.kitOne K u cv = some b ∧ ((∃ Ct, mg t = some (.ref Ct) ∧ cv = .ref Ct) ∨ (mg t = none ∧ ∃ T, bootBuiltins t = some (.type T) ∧ cv = .type T))
  eqs : ∀ c d, pg.eq c d = true → ∃ C D F, Gam.cls c = some C ∧ Gam.cls d = some D ∧ PySem.W.notFirst K C (.ref D) = true ∧ PySem.W.findIn K (.ref C) "__eq__" = some (some (.ref (Gam.fn (mName c "__eq__")))) ∧ PySem.W.isFn K (.ref (Gam.fn (mName c "__eq__"))) = true ∧
    PySem.W.findIn K (.ref C) "__ne__" = some (some (.builtin "object.__ne__")) ∧ PySem.W.mroIn K C (.type "object") = some true ∧ fns (mName c "__eq__") = some F ∧ F.P = 2
  own : Gam.tabs = [] ∨ ((∀ f F, fns f = some F → F.own = false) ∧ ∀ c d, pg.eq c d = false)
  told : ∀ f t, pg.told f = some t → ToldOk K mg f t
/-- the defs that make lambdas: their code objects and tables -/
def LamT (K : PySem.W.Frag) (mg : Str → Option Value) (base : Heap) (fns : Str → Option Fn) : Prop := ∀ f F, fns f = some F → F.lam = true → ∀ (fd : FuncData) (oc : Value) (od : Option Addr) (osl : Array (Option Value)), K.lookup (Gam.fn f) = some ⟨oc, od, .func fd, osl⟩ → ∀ c, fd.code = .ref c →
  ∃ P, LamX.TabB base mg c P ∧ (P, fd.qualname ++ ".<locals>." ++ "<lambda>") ∈ Gam.tabs ∧ ∀ p ∈ Gam.tabs, p.1 = P → p.2 = fd.qualname ++ ".<locals>." ++ "<lambda>"
theorem code_ref {K : PySem.W.Frag} {cd : Value} {q : Str} (h : PySem.W.codeIn K cd q = true) : ∃ c, cd = .ref c := by
  cases cd <;> first | exact ⟨_, rfl⟩ | (cases h; done)
section
variable {P : Program} {w : World} {K : PySem.W.Frag} {mg : Str → Option Value} {base : Heap} {pg : Pg} {fns : Str → Option Fn}
theorem start_sl {B : Hp} {ρ : List Addr} {N : List Str} {vs : List V} {ws : List W} (r : RepL K B ρ vs ws) : Sl K B ρ (L2.start N vs) (startE N ws) := by
  refine ⟨by simp [L2.start, startE, r.length], fun i x h => ?_⟩
  unfold startE at h
  unfold L2.start
  by_cases hi : i < ws.length
  · rw [List.getElem?_append_left (by simpa using hi), List.getElem?_map] at h
    rw [List.getElem?_append_left (by simpa [r.length] using hi), List.getElem?_map]
    cases q : ws[i]? with
    | none => rw [q] at h; cases h
    | some y =>
      rw [q] at h
      cases h
      obtain ⟨v, h1, h2⟩ := r.get q
      exact ⟨v, by rw [h1]; rfl, h2⟩
  · rw [List.getElem?_append_right (by simpa using hi), List.getElem?_replicate] at h
    split at h <;> cases h
/-- one def, those that it calls being right; a level of the evaluator is ten of the frame's -/
theorem fn_step (hw : Gam.wd = w) (T : Txt K mg pg fns) (LT : LamT K mg base fns) {d : Nat} {f : Str} {F : Fn} {fd : FuncData} {name qual : Str} {params : Arguments} {dvs : List V} (hf : fns f = some F) (FD : FunD K name qual params F.body F.sc dvs [] (Gam.fn f) fd)
    (ih : ∀ (f : Str) (F : Fn), fns f = some F → ∃ fd, FnOk P w K mg base (L2.CX P w) (10 * d + 10) (Gam.fn f) fd (F.N.take F.P) (SpF K mg (callD pg fns d) f F.P) ∧ Binds K fd (F.N.take F.P) [] ∧ ∀ j, Dfl K fd (F.N.take F.P) (F.dfl.drop j)) :
    FnOk P w K mg base (L2.CX P w) (10 * d + 19 + 1) (Gam.fn f) fd (F.N.take F.P) (SpF K mg (callD pg fns (d + 1)) f F.P) := by
  have sc := (T.defs f F hf).sc
  have len := (T.defs f F hf).len
  obtain ⟨oc, od, dV, kV, doc, pm, an, cdv, ct, osl, rfl, lk, hcd, _, _⟩ := FD.ex
  refine fn_of lk hcd sc (fun vs H Q E h => by rw [len]; exact h.1) (fun A outer s H vs Q E hr h => ⟨_, pwSs, ?_⟩)
  obtain ⟨hl, ρ, S, B, ws, sr, r, h⟩ := h
  unfold callD at h
  rw [hf] at h
  obtain ⟨h1, h2⟩ := h.grd
  have C : CxOk pg (callD pg fns d) (gmOf F) (fun cls d _ H => E cls d H) (cxOf (L2.CX P w) P w K mg base F.N qual F.sc (Gam.fn f) cdv A outer s H E) :=
    ⟨10 * d + 17,
    { N := rfl, nd := sc.nd, sc := rfl, fn := rfl, calm := rfl, un := by have := hr.un; show (A.deeper (envOfC qual F.sc s.heap.objs.size (Gam.fn f) cdv)).units + 65 < cLine; omega, pass := passes_of rfl, tk := takes_of rfl rfl rfl rfl, cst := T.cst, free := T.free
      flds := T.flds, exk := T.exk, exm := T.exm, exf := T.exf, exi := T.exi, isi := T.isi, top := fun _ => ⟨rfl, rfl⟩
      xcs := fun c ns e => by
        obtain ⟨C, a, fd', ps, m, o, n, i, t, F1, b⟩ := T.xcs c ns e
        exact ⟨C, a, fd', 1, ps, m, o, n, i, t, F1 _ _ _, b, by omega⟩
      mts := fun c m n e => by
        obtain ⟨C, F', hc, cl, mt, hf', hp⟩ := T.mts c m n e
        obtain ⟨fd', G, b', _⟩ := ih _ F' hf'
        rw [hp] at G
        exact ⟨C, _, fd', 10 * d + 10, _, hc, cl, mt, G, by rw [← hp]; exact b', by omega⟩
      news := fun c n fz e => by
        obtain ⟨C, F', hc, m, mk, hf', hp, hd⟩ := T.news c n fz e
        obtain ⟨fd', G, _, b'⟩ := ih _ F' hf'
        rw [hp] at G
        exact ⟨C, _, fd', 10 * d + 10, _, hc, m, mk, G, by rw [← hp, ← hd]; exact b', by omega⟩
      eqs := fun c d0 e => by
        have g0 : Gam.tabs = [] := T.own.resolve_right fun z => by rw [z.2] at e; cases e
        obtain ⟨C, D, F', hc, hd0, hn, hs, hi, hne, hm, hf', hp⟩ := T.eqs c d0 e
        obtain ⟨fd', G, b', _⟩ := ih _ F' hf'
        rw [hp] at G
        exact ⟨g0, C, D, _, fd', 10 * d + 10, _, hc, hd0, hn, hs, hi, hne, hm, G, by rw [← hp]; exact b', by omega⟩
      fns := fun f' n' e => by
        obtain ⟨F', hf', hp, m', kp'⟩ := T.ar f' n' e
        obtain ⟨fd', G, b', _⟩ := ih f' F' hf'
        cases hp
        exact ⟨_, fd', 10 * d + 10, F'.N.take F'.P, (T.defs f' F' hf').len, G, m', kp', b', by omega⟩
      ownT := fun e => T.own.resolve_right fun z => by rw [show (gmOf F).own = F.own from rfl, z.1 f F hf] at e; cases e
      rm := hr.mono (by omega)
      wd := hw
      told := T.told
      lam := fun e => by
        obtain ⟨c, rfl⟩ := code_ref hcd
        obtain ⟨P', t1, t2, t3⟩ := LT f F hf e _ _ _ _ lk c rfl
        exact ⟨hr.mono (by omega), c, P', rfl, t1, t2, t3⟩ }⟩
  refine seqR_ok (ev_ok pg (callD pg fns d) FUEL) C (start_sl r) sr ?_
  have h3 : Hold K (leaveR F.keep S.length (bodyR pg (callD pg fns d) F ws S)) ρ B H (okE K Q) (ExP K mg fun cls d _ H => E cls d H) := h2.imp (fun _ _ _ _ _ _ _ z => z) (fun c fs e ρ' B' H' z σ' C' d' fv _ mc hd rf => z C' d' fv mc hd rf)
  unfold leaveR at h3
  split at h3
  · unfold keepR at h3
    refine (h3.bind0).imp (fun o S' ρ' B' H' x s' k => ?_) (fun _ _ _ _ _ _ z => z)
    cases o with
    | next env => exact fun σ' _ => (Hold.ext k x).here s' _ .non
    | ret v => exact fun u ru => (Hold.ext k x).here s' _ ru
    | brk env => exact k.elim
    | cont env => exact k.elim
  · unfold exitR at h3
    refine (h3.bind0).imp (fun o S' ρ' B' H' x s' k => ?_) (fun _ _ _ _ _ _ z => z)
    cases o with
    | next env => exact fun σ' _ => exitW_ok x s' .non sr.len k
    | ret v => exact fun u ru => exitW_ok x s' ru sr.len k
    | brk env => exact k.elim
    | cont env => exact k.elim
theorem fn_ok (hw : Gam.wd = w) (T : Txt K mg pg fns) (LT : LamT K mg base fns) : ∀ (d : Nat) (f : Str) (F : Fn), fns f = some F → ∃ fd, FnOk P w K mg base (L2.CX P w) (10 * d + 10) (Gam.fn f) fd (F.N.take F.P) (SpF K mg (callD pg fns d) f F.P) ∧ Binds K fd (F.N.take F.P) [] ∧ ∀ j, Dfl K fd (F.N.take F.P) (F.dfl.drop j)
  | 0, f, F, hf => by
    obtain ⟨⟨fd, name, qual, params, dvs, FD, b⟩, sc, len⟩ := T.defs f F hf
    refine ⟨fd, ⟨fun vs H Q E h => by rw [len]; exact h.1, fun A outer s H args us vs Q E _ _ _ _ h => ?_⟩, b⟩
    obtain ⟨_, _, _, _, _, _, _, h⟩ := h
    exact h.elim
  | d + 1, f, F, hf => by
    obtain ⟨⟨fd, name, qual, params, dvs, FD, b⟩, sc, len⟩ := T.defs f F hf
    exact ⟨fd, fn_step hw T LT hf FD (fn_ok hw T LT d), b⟩
end
end Mi

set_option Elab.async false
set_option linter.all false
set_option maxRecDepth 100000
set_option maxHeartbeats 4000000
/-! Mi11: a law's end. -/
noncomputable section
namespace Mi
open PySem PySem.Spec PyProof.Rows L2
variable [Gam]
theorem lookup_memW {β : Type} : ∀ {l : List (Str × β)} {f : Str} {F : β}, l.lookup f = some F → (f, F) ∈ l
  | [], _, _, h => by cases h
  | (g, G) :: r, f, F, h => by
    rw [List.lookup_cons] at h
    cases q : f == g with
    | true =>
      rw [q] at h
      cases h
      have e : f = g := eq_of_beq q
      rw [e]
      exact List.mem_cons_self ..
    | false =>
      rw [q] at h
      exact List.mem_cons_of_mem _ (lookup_memW h)
theorem all_nilW {β : Type} {p : β → Prop} : ∀ x ∈ ([] : List β), p x := fun x h => by cases h
theorem all_consW {β : Type} {p : β → Prop} {a : β} {l : List β} (h1 : p a) (h2 : ∀ x ∈ l, p x) : ∀ x ∈ a :: l, p x := fun x h => by
  rcases List.mem_cons.mp h with e | h
  · rw [e]; exact h1
  · exact h2 x h
/-- no exception: the plain promise -/
theorem fn_plain {P : Program} {w : World} {K : PySem.W.Frag} {mg : Str → Option Value} {base : Heap} {k : Nat} {f : Addr} {fd : FuncData} {ps : List Str} {sp : Sp} (F : FnOk P w K mg base (L2.CX P w) k f fd ps sp) :
    FnOk P w K mg base CX0 k f fd ps (fun vs H Q _ => sp vs H Q E0) := by
  refine ⟨fun vs H Q E h => F.len vs H Q E0 h, fun A outer s H args us vs Q E hr e hb hv h => codeAny_mono (F.run A outer s H args us vs Q E0 hr e hb hv h) fun r s' hq => ?_⟩
  cases r with
  | ok fl => cases fl <;> exact hq
  | error u =>
    obtain ⟨_, _, _, _, _, _, _, _, _, _, _, _, z⟩ := hq
    exact z.elim
theorem law_sp {K : PySem.W.Frag} {mg : Str → Option Value} {cl : Str → List W → Sto → R W} {H : Hp} {a : Addr} {ns : List Int} (hS : SqL K H a (ns.map V.int)) (h : cl "law" [.frl (ns.map W.int)] [] = .ok (.bl true) []) (hT : LamX.Tabs Gam.tabs H) :
    SpF K mg cl "law" 1 [.ref a] H (fun v _ => v = .bl true) E0 := by
  have key : ∃ B : Hp, Same B H ∧ NbOk B ∧ SqL K B a (ns.map V.int) := by
    have at_ : ∀ u, H a = some u → (∀ ps, u ≠ .tbl ps) → Same (upd (fun _ => none) a u) H ∧ NbOk (upd (fun _ => none) a u) := fun u hu nt => by
      refine ⟨fun c v e => ?_, fun _ c ps e => ?_⟩
      · by_cases hc : c = a
        · subst hc
          rw [upd_same] at e
          rw [hu, ← e]
        · rw [upd_ne hc] at e
          cases e
      · by_cases hc : c = a
        · subst hc
          rw [upd_same] at e
          exact nt ps (Option.some.inj e)
        · rw [upd_ne hc] at e
          cases e
    rcases hS with (hS | ⟨o, hS⟩) | hS
    · obtain ⟨h1, h2⟩ := at_ _ hS fun ps e => by cases e
      exact ⟨_, h1, h2, .inl (.inl upd_same)⟩
    · obtain ⟨h1, h2⟩ := at_ _ hS fun ps e => by cases e
      exact ⟨_, h1, h2, .inl (.inr ⟨o, upd_same⟩)⟩
    · exact ⟨fun _ => none, ⟨fun _ _ e => (by cases e), ⟨fun _ _ _ e => (by cases e), .inr hS⟩⟩⟩
  obtain ⟨B, b1, b2, b3⟩ := key
  refine ⟨rfl, [], [], B, [.frl (ns.map W.int)], ⟨b1, rfl, List.nodup_nil, fun i a o h => by simp at h, hT, b2⟩, .cons (.frl b3 ?_ (by rw [List.all_map]; exact List.all_eq_true.mpr fun _ _ => rfl)) .nil, ?_⟩
  · clear hS h b3
    induction ns with
    | nil => exact .nil
    | cons n r ih => exact .cons (.int n) ih
  · rw [h]
    exact fun ρ' B' H' x s v r => by cases r; rfl
end Mi

set_option Elab.async false
set_option linter.all false
set_option maxRecDepth 100000
set_option maxHeartbeats 4000000
/-! Ma11b: the __init__ of an exception that keeps what it is given. -/
noncomputable section
namespace Mi
open PySem PySem.Spec PyProof.Rows L2
variable [Gam]
section
variable {P : Program} {w : World} {K : PySem.W.Frag} {mg : Str → Option Value} {base : Heap}
/-- self.f = x -/
def keepSt (self f x : Str) (p1 p2 p3 p4 : Pos) : Stmt := .Assign [.Attribute (.Name self p1) f p2] (.Name x p3) p4
theorem spI_one {fa : Addr} {fd : FuncData} {name qual self x f : Str} {params : Arguments} {sc : Scope} {dvs : List V} {p1 p2 p3 p4 : Pos} (FD : FunD K name qual params [keepSt self f x p1 p2 p3 p4] sc dvs [] fa fd) (S : FnScope [self, x] [self, x] sc)
    (o1 : odd self = false) (o2 : odd x = false) : FnOk P w K mg base (L2.CX P w) 1 fa fd [self, x] (SpI K [f]) := by
  refine FD.ok (k := 0) S (fun vs H Q E h => h.1) (fun cdv A outer s H vs Q E hr h => ⟨_, pss_one (ps_ost (pe_var (i := 0) rfl ?_ ?_ ?_) (pe_var (i := 1) rfl ?_ ?_ ?_)), ?_⟩)
  · have z := S.par self (List.mem_cons_self ..)
    rcases z with z | z
    · exact .inl z
    · exact .inr (.inl z)
  · exact (odd_no (x := self) (by rw [o1]; rfl)).1
  · exact (odd_no (x := self) (by rw [o1]; rfl)).2.1
  · have z := S.par x (List.mem_cons_of_mem _ (List.mem_cons_self ..))
    rcases z with z | z
    · exact .inl z
    · exact .inr (.inl z)
  · exact (odd_no (x := x) (by rw [o2]; rfl)).1
  · exact (odd_no (x := x) (by rw [o2]; rfl)).2.1
  · obtain ⟨hl, a, C, us, rfl, T, hno, ha, hq⟩ := h
    match us, hl with
    | [u], _ =>
      refine ⟨u, rfl, .ref a, rfl, a, C, rfl, T, hno f (List.mem_cons_self ..), .inl ⟨ha, fun dx hdx hne => ?_⟩⟩
      exact hq dx hdx hne
theorem spI_two {fa : Addr} {fd : FuncData} {name qual self x y f g : Str} {params : Arguments} {sc : Scope} {dvs : List V} {p1 p2 p3 p4 q1 q2 q3 q4 : Pos} (FD : FunD K name qual params [keepSt self f x p1 p2 p3 p4, keepSt self g y q1 q2 q3 q4] sc dvs [] fa fd) (S : FnScope [self, x, y] [self, x, y] sc)
    (o1 : odd self = false) (o2 : odd x = false) (o3 : odd y = false) : FnOk P w K mg base (L2.CX P w) 1 fa fd [self, x, y] (SpI K [f, g]) := by
  have vis : ∀ z ∈ [self, x, y], sc.names.lookup z = some .local ∨ sc.names.lookup z = some .cell ∨ sc.names.lookup z = some .free := fun z hz => by
    rcases S.par z hz with q | q
    · exact .inl q
    · exact .inr (.inl q)
  have n1 := odd_no (x := self) (by rw [o1]; rfl)
  have n2 := odd_no (x := x) (by rw [o2]; rfl)
  have n3 := odd_no (x := y) (by rw [o3]; rfl)
  refine FD.ok (k := 0) S (fun vs H Q E h => h.1) (fun cdv A outer s H vs Q E hr h => ⟨_, pss_cons (ps_ost (pe_var (i := 0) rfl (vis self (by simp)) n1.1 n1.2.1) (pe_var (i := 1) rfl (vis x (by simp)) n2.1 n2.2.1))
    (pss_one (ps_ost (pe_var (i := 0) rfl (vis self (by simp)) n1.1 n1.2.1) (pe_var (i := 2) rfl (vis y (by simp)) n3.1 n3.2.1))), ?_⟩)
  obtain ⟨hl, a, C, us, rfl, T, hno, ha, hq⟩ := h
  match us, hl with
  | [u, v], _ =>
    refine ⟨u, rfl, .ref a, rfl, a, C, rfl, T, hno f (by simp), .inl ⟨ha, fun dx hdx hne => ?_⟩⟩
    refine ⟨v, rfl, .ref a, rfl, a, C, rfl, T, hno g (by simp), .inr ⟨dx, [(f, u)], upd_same, ?_, by simp, ?_⟩⟩
    · rw [upd_ne hne, upd_same]
    · have z := hq dx hdx hne
      have e : upd (upd (upd H dx (exd dx [(f, u)])) a (exo a C (some dx))) dx (exd dx ((g, v) :: [(f, u)])) = upd (upd H dx (exd dx (([f, g].zip [u, v]).reverse))) a (exo a C (some dx)) := by
        funext b
        by_cases h1 : b = dx
        · subst h1
          rw [upd_same, upd_ne hne, upd_same]
          rfl
        · rw [upd_ne h1]
          by_cases h2 : b = a
          · rw [h2, upd_same, upd_same]
          · rw [upd_ne h2, upd_ne h2, upd_ne h1, upd_ne h1]
      rw [e]
      exact z
end
end Mi

set_option Elab.async false
set_option linter.all false
set_option maxRecDepth 100000
set_option maxHeartbeats 4000000
/-! Ma12: the evaluator's words without a text: what a def's body comes to. -/
noncomputable section
namespace Mi
open PySem PySem.Spec PyProof.Rows L2
abbrev CE := Env' → Sto → R W
abbrev CT := Env' → Sto → R Bool
abbrev CS := Env' → Sto → R Out'
abbrev CI := Env' → Sto → R Itm
abbrev CP := Env' → Sto → Option W
abbrev Bnd := W → Env' → Option Env'
abbrev Cl := Str → List W → Sto → R W
def xV (i : Nat) : CE := fun env S => match env[i]? with
  | some (some w) => .ok w S
  | _ => .bad
def xC (w : W) : CE := fun _ S => .ok w S
def mapC : List CE → Env' → Sto → R (List W)
  | [], _, S => .ok [] S
  | c :: cs, env, S => (c env S).bind fun w S1 => (mapC cs env S1).bind fun ws S2 => .ok (w :: ws) S2
/-- o.values() behind a star -/
def xVals (o : CE) : CE := fun env S => (o env S).bind fun w S1 => (match seqD S1 w with
  | some ks => .ok (.tup (ks.map Prod.snd)) S1
  | none => .bad)
/-- with starred parts -/
def mapSC : List (Bool × CE) → Env' → Sto → R (List W)
  | [], _, S => .ok [] S
  | (true, c) :: cs, env, S => (c env S).bind fun w S1 => (match (seqL S1 w).orElse (fun _ => seqT w) with
    | some xs => (mapSC cs env S1).bind fun ws S2 => .ok (xs ++ ws) S2
    | none => .bad)
  | (false, c) :: cs, env, S => (c env S).bind fun w S1 => (mapSC cs env S1).bind fun ws S2 => .ok (w :: ws) S2
def xTup (cs : List CE) : CE := fun env S => (mapC cs env S).bind fun ws S1 => guard' (small ws.length) (.ok (.tup ws) S1)
def xLst (cs : List CE) : CE := fun env S => (mapC cs env S).bind fun ws S1 => guard' (small ws.length) (.ok (.lst ws) S1)
def xTupS (cs : List (Bool × CE)) : CE := fun env S => (mapSC cs env S).bind fun ws S1 => guard' (small ws.length) (.ok (.tup ws) S1)
def xLstS (cs : List (Bool × CE)) : CE := fun env S => (mapSC cs env S).bind fun ws S1 => guard' (small ws.length) (.ok (.lst ws) S1)
/-- displays that become cells -/
def xCell (cs : List CE) : CE := fun env S => (mapC cs env S).bind fun ws S1 => guard' (small ws.length) (.ok (.ref S1.length) (S1 ++ [SO.lst ws]))
def xCellS (cs : List (Bool × CE)) : CE := fun env S => (mapSC cs env S).bind fun ws S1 => guard' (small ws.length) (.ok (.ref S1.length) (S1 ++ [SO.lst ws]))
def xDct0 : CE := fun _ S => .ok (.dct []) S
def pairC : List (CE × CE) → Env' → Sto → R (List (Key × W))
  | [], _, S => .ok [] S
  | (k, v) :: r, env, S => (k env S).bind fun x S1 => (v env S1).bind fun y S2 => (match keyW x with
    | some kk => (pairC r env S2).bind fun ps S3 => .ok ((kk, y) :: ps) S3
    | none => .bad)
def xDisp (ps : List (CE × CE)) : CE := fun env S => (pairC ps env S).bind fun ps S1 => guard' (decide (ps.length ≤ 15)) (.ok (.dct (mergeW [] ps)) S1)
def xCellDisp (ps : List (CE × CE)) : CE := fun env S => (pairC ps env S).bind fun ps S1 => guard' (decide (ps.length ≤ 15)) (.ok (.ref S1.length) (S1 ++ [SO.dct (mergeW [] ps)]))
def xCellDict (a : CE) : CE := fun env S => (a env S).bind fun w S1 => (match dictOf S1 w with
  | some ks => .ok (.ref S1.length) (S1 ++ [SO.dct ks])
  | none => .bad)
def xCellSplit (o a : CE) : CE := fun env S => (o env S).bind fun x S1 => (match x with
  | .str z => (a env S1).bind fun y S2 => (match y with
    | .str b => guard' (!(b.length == 0) && small (z.length + 2)) (.ok (.ref S2.length) (S2 ++ [SO.lst ((txtSplit z b).map W.str)]))
    | _ => .bad)
  | _ => .bad)
def xCellD : CE := fun _ S => .ok (.ref S.length) (S ++ [SO.dct []])
def xCellA (a b : CE) : CE := fun env S => (a env S).bind fun x S1 => (b env S1).bind fun y S2 => (match lstE S2 x, lstE S2 y with
  | some xs, some ys => guard' (small (xs.length + ys.length)) (.ok (.ref S2.length) (S2 ++ [SO.lst (xs ++ ys)]))
  | _, _ => lift (binop S2 .Add x y) S2)
def xBin (op : Operator) (a b : CE) : CE := fun env S => (a env S).bind fun x S1 => (b env S1).bind fun y S2 => lift (binop S2 op x y) S2
def xNot (a : CE) : CE := fun env S => (a env S).bind fun x S1 => (match x with
  | .bl b => .ok (.bl (!b)) S1
  | _ => .bad)
def xNeg (a : CE) : CE := fun env S => (a env S).bind fun x S1 => (match x with
  | .int i => .ok (.int (-i)) S1
  | _ => .bad)
def xBool (op : BoolOp) : List CE → CE
  | [], _, _ => .bad
  | [a], env, S => a env S
  | a :: b :: r, env, S => (a env S).bind fun w S1 => (match w with
    | .bl c => (match op, c with
      | .And, true => xBool op (b :: r) env S1
      | .And, false => .ok (.bl false) S1
      | .Or, true => .ok (.bl true) S1
      | .Or, false => xBool op (b :: r) env S1)
    | w => (match truth S1 w with
      | some c => (match op, c with
        | .And, true => xBool op (b :: r) env S1
        | .And, false => .ok w S1
        | .Or, true => .ok w S1
        | .Or, false => xBool op (b :: r) env S1)
      | none => .bad))
def xCmp (op : CmpOp) (a b : CE) : CE := fun env S => (a env S).bind fun x S1 => (b env S1).bind fun y S2 => (lift (cmpop S2 op x y) S2).bind fun c S3 => .ok (.bl c) S3
/-- where there is an own == -/
def xCmpX (pg : Pg) (cl : Str → List W → Sto → R W) (op : CmpOp) (a b : CE) : CE := fun env S => (a env S).bind fun x S1 => (b env S1).bind fun y S2 => (lift (cmpX true pg.eq cl S2 op x y) S2).bind fun c S3 => .ok (.bl c) S3
def xChainX (pg : Pg) (cl : Str → List W → Sto → R W) (op op' : CmpOp) (a b c : CE) : CE := fun env S => (a env S).bind fun x S1 => (b env S1).bind fun y S2 => (lift (cmpX true pg.eq cl S2 op x y) S2).bind fun d S3 => (match d with
  | false => .ok (.bl false) S3
  | true => (c env S3).bind fun z S4 => (lift (cmpX true pg.eq cl S4 op' y z) S4).bind fun d' S5 => .ok (.bl d') S5)
def xChain (op op' : CmpOp) (a b c : CE) : CE := fun env S => (a env S).bind fun x S1 => (b env S1).bind fun y S2 => (lift (cmpop S2 op x y) S2).bind fun d S3 => (match d with
  | false => .ok (.bl false) S3
  | true => (c env S3).bind fun z S4 => (lift (cmpop S4 op' y z) S4).bind fun d' S5 => .ok (.bl d') S5)
def xIf (t : CT) (a b : CE) : CE := fun env S => (t env S).bind fun c S1 => (match c with
  | true => a env S1
  | false => b env S1)
def oC : Option CE → Env' → Sto → R (Option Int)
  | none, _, S => .ok none S
  | some e, env, S => (e env S).bind fun w S1 => (match w with
    | .int i => .ok (some i) S1
    | _ => .bad)
def xSl (a : CE) (lo hi : Option CE) : CE := fun env S => (a env S).bind fun x S1 => (oC lo env S1).bind fun l S2 => (oC hi env S2).bind fun h S3 => lift (slS S3 x l h) S3
def xIx (a i : CE) : CE := fun env S => (a env S).bind fun x S1 => (i env S1).bind fun y S2 => lift (ixS S2 x y) S2
def bN (i : Nat) : Bnd := fun w env => some (env.set i (some w))
/-- a turn of a comprehension: bnd binds the target, vs its slots -/
def stepC (bnd : Bnd) (vs : List Nat) (c : Option CT) (elt : CE) (env : Env') : W → Sto → R (Option W) := fun w S => (match bnd w (wipeE env vs) with
    | none => .bad
    | some env1 => (match c with
      | none => (noExc (elt env1 S)).bind fun y S2 => .ok (some y) S2
      | some c => (noExc (c env1 S)).bind fun b S2 => (match b with
        | true => (noExc (elt env1 S2)).bind fun y S3 => .ok (some y) S3
        | false => .ok none S2)))
def xLcF (fl : Bool) (bnd : Bnd) (vs : List Nat) (iter : CI) (c : Option CT) (elt : CE) : CE := fun env S => (iter env S).bind fun items S1 => lcR fl (stepC bnd vs c elt env) items.2 items.1 [] S1
def xLc (bnd : Bnd) (vs : List Nat) (iter : CI) (c : Option CT) (elt : CE) : CE := xLcF false bnd vs iter c elt
def pV (i : Nat) : CP := fun env S => match env[i]? with
  | some (some w) => some w
  | _ => none
def pA (pg : Pg) (i : Nat) (f : Str) : CP := fun env S => (match pV i env S with
  | some w => (match objS S w with
    | some (c, fs) => if pg.fld c f = true then fs.lookup f else none
    | none => none)
  | none => none)
def pS (i : Nat) (k : Str) : CP := fun env S => (match pV i env S with
  | some w => (match seqD S w with
    | some ks => findK ks (.inr k)
    | none => none)
  | none => none)
def dWalkC (k : Nat) (p : CP) (env : Env') (S : Sto) : Option (List W × Sto) := match p env S with
  | some w => (match dictAt S w with
    | some (ks, S1) => some (itemsOf ks k, S1)
    | none => none)
  | none => none
def dFlagC (p : CP) (env : Env') (S : Sto) : Option Nat := match p env S with
  | some w => liveD S w
  | none => none
/-- a comprehension over what may be a dict -/
def xLcD (k : Nat) (p : CP) (bnd : Bnd) (vs : List Nat) (iter : CI) (c : Option CT) (elt : CE) : CE := fun env S => (match dWalkC k p env S with
  | some (items, S1) => (match dFlagC p env S with
    | some n => unlR n (noExc (lcR false (stepC bnd vs c elt env) (fun _ => true) items [] S1))
    | none => noExc (lcR false (stepC bnd vs c elt env) (fun _ => true) items [] S1))
  | none => (iter env S).bind fun items S1 => lcR false (stepC bnd vs c elt env) items.2 items.1 [] S1)
/-- a dict's comprehension -/
def xDc (bnd : Bnd) (vs : List Nat) (iter : CI) (c : Option CT) (kx vx : CE) : CE := fun env S => (iter env S).bind fun items S1 =>
  dcR (fun w S => (match bnd w (wipeE env vs) with
    | none => .bad
    | some env1 => (match c with
      | none => (noExc (kx env1 S)).bind fun k S2 => (noExc (vx env1 S2)).bind fun y S3 => .ok (some (k, y)) S3
      | some c => (noExc (c env1 S)).bind fun b S2 => (match b with
        | true => (noExc (kx env1 S2)).bind fun k S3 => (noExc (vx env1 S3)).bind fun y S4 => .ok (some (k, y)) S4
        | false => .ok none S2)))) items.2 items.1 [] S1
def xAt (pg : Pg) (o : CE) (f : Str) : CE := fun env S => (o env S).bind fun x S1 => (match objS S1 x with
  | some (c, fs) => guard' (pg.fld c f) (lift (fs.lookup f) S1)
  | none => .bad)
/-- methods of built-in types -/
def mB1 (m : Str) (a : CE) (env : Env') (S1 : Sto) (x : W) : R W := match x with
  | .str z => guard' (isStrM m) ((a env S1).bind fun y S2 => lift (bmStr S2 m z y) S2)
  | x => guard' (isAppend m && (true && (seqL S1 x).isSome)) ((mapC [a] env S1).bind fun ws S2 => (match bmeth S2 m x ws with
    | some (w, S3) => .ok w S3
    | none => .bad))
def xMeth (pg : Pg) (cl : Cl) (o : CE) (m : Str) (as : List CE) (blt : Env' → Sto → W → R W) : CE := fun env S => (noExc (o env S)).bind fun x S1 => (match objS S1 x with
  | some (c, fs) => (match pg.mt c m with
    | some n => guard' ((fs.lookup m).isNone) ((mapC as env S1).bind fun ws S2 => guard' (decide (ws.length = n)) (back env (cl (mName c m) (x :: ws) S2)))
    | none => .bad)
  | none => blt env S1 x)
def xMeth1 (pg : Pg) (cl : Cl) (o : CE) (m : Str) (a : CE) : CE := xMeth pg cl o m [a] (mB1 m a)
def mB2 (m : Str) (a b : CE) (env : Env') (S1 : Sto) (x : W) : R W := match x with
  | .str z => guard' (decide (m = "get") && (seqD S1 (.str z)).isSome) ((a env S1).bind fun k S2 => (b env S2).bind fun d S3 => (match keyW k, seqD S3 (.str z) with
    | some kk, some ks => .ok ((findK ks kk).getD d) S3
    | _, _ => .bad))
  | x => guard' (decide (m = "get") && (seqD S1 x).isSome) ((a env S1).bind fun k S2 => (b env S2).bind fun d S3 => (match keyW k, seqD S3 x with
    | some kk, some ks => .ok ((findK ks kk).getD d) S3
    | _, _ => .bad))
def xMeth2 (pg : Pg) (cl : Cl) (o : CE) (m : Str) (a b : CE) : CE := xMeth pg cl o m [a, b] (mB2 m a b)
def mNo (env : Env') (S : Sto) (x : W) : R W := match x with
  | .str _ => .bad
  | _ => .bad
def xIsi (pg : Pg) (a : CE) (t : Str) : CE := fun env S => (a env S).bind fun w S1 => (match tyW S1 w with
  | some ty => (lift (pg.isi ty t) S1).bind fun b S2 => .ok (.bl b) S2
  | none => .bad)
def xIsiT (pg : Pg) (a : CE) (ts : List Str) : CE := fun env S => (a env S).bind fun w S1 => (match tyW S1 w, some ts with
  | some ty, some (n1 :: ns) => (lift (isiAny pg ty (n1 :: ns)) S1).bind fun b S2 => .ok (.bl b) S2
  | _, _ => .bad)
def xLenSet (a : CE) : CE := fun env S => (a env S).bind fun w S1 => (match seqX S1 w with
  | some xs => guard' (decide (xs.length < 64)) (.ok (.int (cntS xs xs.length : Nat)) S1)
  | none => .bad)
def xCatR (a : Str) (o : CE) (y z : Str) : CE := fun env S => (o env S).bind fun x S1 => (match x with
  | .str x => guard' (replG x y z) (lift (binop S1 .Add (.str a) (.str (replF x y z))) S1)
  | _ => .bad)
def xFind3 (o e1 e2 : CE) : CE := fun env S => (o env S).bind fun x S1 => (match x with
  | .str x => (e1 env S1).bind fun y S2 => (match y with
    | .str y => (e2 env S2).bind fun k S3 => (match k with
      | .int k => .ok (.int (Txt.find3 x y k)) S3
      | _ => .bad)
    | _ => .bad)
  | _ => .bad)
/-- tuple(d.items()) -/
def xTupI (o : CE) : CE := fun env S => (o env S).bind fun w S1 => (match seqD S1 w with
  | some ks => guard' (decide (ks.length ≤ 90000)) (.ok (.tup (itemsOf ks 2)) S1)
  | none => .bad)
/-- {}, its keys to be tuples -/
def xNewK : CE := fun _ S => .ok (.ref S.length) (S ++ [SO.kd [] []])
/-- [d[k] for k in d], d the slot i, k the slot j; alt: where d's keys are no tuples -/
def xLk (fl : Bool) (i : Nat) (bnd : Bnd) (vs : List Nat) (j : Nat) (alt : CE) : CE := fun env S => (match (match pV i env S with
    | some w => kdS S w
    | none => none) with
  | some p => guard' (!fl && decide (p.1.length < 90000)) (lift ((mapO (fun x : NestedKey × W => match bnd x.2 (wipeE env vs) with
    | some env1 => (match pV i env1 S, pV j env1 S with
      | some x, some y => (match kdS S x, nkT y with
        | some p, some k => findN p.1 p.2 k
        | _, _ => none)
      | _, _ => none)
    | none => none) p.1).map W.lst) S)
  | none => alt env S)
/-- min(o, key=f) -/
def xMin (cl : Cl) (f : Str) (o : CE) : CE := fun env S => (o env S).bind fun w S1 => (match seqL S1 w with
  | some ws => lift (minR (keyC cl f) ws) S1
  | none => .bad)
/-- a call over the empty store -/
def xIso (cl : Cl) (f : Str) (n : Nat) (args : List CE) : CE := fun env S => (mapC args env S).bind fun ws S1 => (match some n, frzs S1 0 100000 ws with
  | some n, some ws' => guard' (decide (ws.length = n)) (isoR (cl f ws' []) S1)
  | _, _ => .bad)
/-- {**d, k: v} -/
def xDispS (e k v : CE) : CE := fun env S => (e env S).bind fun w S1 => (match seqD S1 w with
  | some ks => (pairC [(k, v)] env S1).bind fun ps S2 => guard' (decide (ks.length ≤ 90000) && decide (ps.length ≤ 15)) (.ok (.dct (mergeW (mergeW [] ks) (mergeW [] ps))) S2)
  | none => .bad)
/-- a def is handed a lambda -/
def xTold (pg : Pg) (t : Told) (a : CE) : CE := fun env S => toldR pg t S.length (a env S)
def xCall (cl : Cl) (f : Str) (n : Nat) (args : List CE) : CE := fun env S => (mapC args env S).bind fun ws S1 => guard' (decide (ws.length = n)) (match cl f ws S1 with
  | .ok w S2 => .ok w S2
  | .exc c fs _ S2 => .exc c fs env S2
  | .bad => .bad)
def xCall0 (cl : Cl) (f : Str) (n : Nat) : CE := fun env S => guard' (decide (0 = n)) (back env (cl f [] S))
def xMk (cl : Cl) (c i : Str) (n : Nat) (fz : Bool) (dws : List W) (args : List CE) : CE := fun env S => (mapC args env S).bind fun ws S1 => guard' (decide ((ws ++ dws).length = n)) (mkR env S1.length c fz (cl i (.ref S1.length :: (ws ++ dws)) (S1 ++ [SO.ins c []])))
def xMk0 (cl : Cl) (c i : Str) (n : Nat) (fz : Bool) : CE := fun env S => guard' (decide (0 = n)) (mkR env S.length c fz (cl i [.ref S.length] (S ++ [SO.ins c []])))
def xBlt (f : Str) (args : List CE) : CE := fun env S => (mapC args env S).bind fun ws S1 => lift (bcall S1 f ws) S1
def cNot (a : CT) : CT := fun env S => (a env S).bind fun b S1 => .ok (!b) S1
def cBool (op : BoolOp) : List CT → CT
  | [], _, _ => .bad
  | [a], env, S => a env S
  | a :: b :: r, env, S => (a env S).bind fun c S1 => (match op, c with
    | .And, true => cBool op (b :: r) env S1
    | .And, false => .ok false S1
    | .Or, true => .ok true S1
    | .Or, false => cBool op (b :: r) env S1)
def cCmp (op : CmpOp) (a b : CE) : CT := fun env S => (a env S).bind fun x S1 => (b env S1).bind fun y S2 => lift (cmpop S2 op x y) S2
def cCmpX (pg : Pg) (cl : Str → List W → Sto → R W) (op : CmpOp) (a b : CE) : CT := fun env S => (a env S).bind fun x S1 => (b env S1).bind fun y S2 => lift (cmpX true pg.eq cl S2 op x y) S2
def cChainX (pg : Pg) (cl : Str → List W → Sto → R W) (op op' : CmpOp) (a b c : CE) : CT := fun env S => (a env S).bind fun x S1 => (b env S1).bind fun y S2 => (lift (cmpX true pg.eq cl S2 op x y) S2).bind fun d S3 => (match d with
  | false => .ok false S3
  | true => (c env S3).bind fun z S4 => lift (cmpX true pg.eq cl S4 op' y z) S4)
def cChain (op op' : CmpOp) (a b c : CE) : CT := fun env S => (a env S).bind fun x S1 => (b env S1).bind fun y S2 => (lift (cmpop S2 op x y) S2).bind fun d S3 => (match d with
  | false => .ok false S3
  | true => (c env S3).bind fun z S4 => lift (cmpop S4 op' y z) S4)
def cTru (a : CE) : CT := fun env S => (a env S).bind fun w S1 => lift (truth S1 w) S1
def iRng1 (a : CE) : CI := fun env S => (mapC [a] env S).bind fun ws S1 => (match ws with
  | [.int n] => guard' (decide (-(2 ^ 62) ≤ n ∧ n < 2 ^ 62)) (.ok (still ((List.range n.toNat).map fun i : Nat => W.int ((0 : Int) + (i : Int)))) S1)
  | _ => .bad)
def iRng2 (a b : CE) : CI := fun env S => (mapC [a, b] env S).bind fun ws S1 => (match ws with
  | [.int m, .int n] => guard' (decide (-(2 ^ 62) ≤ m ∧ m < 2 ^ 62 ∧ -(2 ^ 62) ≤ n ∧ n < 2 ^ 62)) (.ok (still ((List.range (n - m).toNat).map fun i : Nat => W.int (m + (i : Int)))) S1)
  | _ => .bad)
def iEnum (a : CE) : CI := fun env S => (a env S).bind fun w S1 => enumWk w S1
def iNo : CI := fun _ _ => .bad
def iOf (a : CE) : CI := fun env S => (a env S).bind fun w S1 => walkW w S1
def seqC : List CS → CS
  | [], env, S => .ok (.next env) S
  | s :: r, env, S => (s env S).bind fun o S1 => (match o with
    | .next env1 => seqC r env1 S1
    | .ret w => .ok (.ret w) S1
    | .brk e => .ok (.brk e) S1
    | .cont e => .ok (.cont e) S1)
def sRet (e : CE) : CS := fun env S => (e env S).bind fun w S1 => .ok (.ret w) S1
def sRetN : CS := fun env S => .ok (.ret .non) S
def sPass : CS := fun env S => .ok (.next env) S
def sBrk : CS := fun env S => .ok (.brk env) S
def sCont : CS := fun env S => .ok (.cont env) S
def sExpr (e : CE) : CS := fun env S => (e env S).bind fun _ S1 => .ok (.next env) S1
def sIf (t : CT) (a b : List CS) : CS := fun env S => (t env S).bind fun d S1 => (match d with
  | true => seqC a env S1
  | false => seqC b env S1)
def sSet (i : Nat) (e : CE) : CS := fun env S => (e env S).bind fun w S1 => .ok (.next (env.set i (some w))) S1
def sSetT (ix : List Nat) (e : CE) : CS := fun env S => (e env S).bind fun w S1 => (match bindTs ix w env with
  | some env1 => .ok (.next env1) S1
  | none => .bad)
def sSw2 (i j : Nat) (a b : CE) : CS := fun env S => (a env S).bind fun v S1 => (b env S1).bind fun w S2 => .ok (.next ((env.set i (some v)).set j (some w))) S2
def sSw3 (i j k : Nat) (a b c : CE) : CS := fun env S => (a env S).bind fun u S1 => (b env S1).bind fun v S2 => (c env S2).bind fun w S3 => .ok (.next (((env.set i (some u)).set j (some v)).set k (some w))) S3
/-- o.f = e -/
def sAtt (pg : Pg) (o : CE) (f : Str) (e : CE) : CS := fun env S => (e env S).bind fun y S1 => (o env S1).bind fun z S2 => (match z with
  | .ref n => (match S2[n]? with
    | some (.ins c fs) => guard' (pg.fld c f && decide (fs.length < 1000)) (.ok (.next env) (S2.set n (SO.ins c (putW f y fs))))
    | _ => .bad)
  | _ => .bad)
/-- o[i] = e -/
def sSub (o i e : CE) : CS := fun env S => (e env S).bind fun y S1 => (o env S1).bind fun x S2 => (i env S2).bind fun k S3 => (match x with
  | .ref n => (match S3[n]? with
    | some (.lst ws) => (match k with
      | .int j => (match ixN ws.length j with
        | some j => .ok (.next env) (S3.set n (SO.lst (ws.set j y)))
        | none => .bad)
      | _ => .bad)
    | some (.dct ks) => (match keyW k with
      | some k => guard' (small (ks.length + 1)) (.ok (.next env) (S3.set n (SO.dct (storeK ks k y))))
      | none => .bad)
    | some (.kd ks vs) => (match nkT k with
      | some q => guard' (false && decide (ks.length < 90000)) (.ok (.next env) (S3.set n (SO.kd (storeN ks vs q k y).1 (storeN ks vs q k y).2)))
      | none => .bad)
    | _ => .bad)
  | _ => .bad)
def sSubK (o i e : CE) : CS := fun env S => (e env S).bind fun y S1 => (o env S1).bind fun x S2 => (i env S2).bind fun k S3 => (match x with
  | .ref n => (match S3[n]? with
    | some (.lst ws) => (match k with
      | .int j => (match ixN ws.length j with
        | some j => .ok (.next env) (S3.set n (SO.lst (ws.set j y)))
        | none => .bad)
      | _ => .bad)
    | some (.dct ks) => (match keyW k with
      | some k => guard' (small (ks.length + 1)) (.ok (.next env) (S3.set n (SO.dct (storeK ks k y))))
      | none => .bad)
    | some (.kd ks vs) => (match nkT k with
      | some q => guard' (true && decide (ks.length < 90000)) (.ok (.next env) (S3.set n (SO.kd (storeN ks vs q k y).1 (storeN ks vs q k y).2)))
      | none => .bad)
    | _ => .bad)
  | _ => .bad)
def sAug (i : Nat) (e : CE) : CS := fun env S => (match env[i]? with
  | some (some (.int a)) => (e env S).bind fun w S1 => (match w with
    | .int b => .ok (.next (env.set i (some (.int (a + b))))) S1
    | _ => .bad)
  | some (some (.ref n)) => (e env S).bind fun w S1 => (match S1[n]?, lstE S1 w with
    | some (.lst xs), some ys => guard' (small (xs.length + ys.length)) (.ok (.next (env.set i (some (.ref n)))) (S1.set n (SO.lst (xs ++ ys))))
    | _, _ => .bad)
  | _ => .bad)
def sAugIx (o i e : CE) : CS := fun env S => (o env S).bind fun x S1 => (i env S1).bind fun y S2 => (match x, y with
  | .ref n, .int k => (match S2[n]? with
    | some (.lst ws) => (match decide (0 ≤ k ∧ k < 2 ^ 62), ws[k.toNat]? with
      | true, some (.int a) => (e env S2).bind fun w S3 => (match w, S3[n]? with
        | .int b, some (.lst ws') => guard' (decide (k.toNat < ws'.length)) (.ok (.next env) (S3.set n (SO.lst (ws'.set k.toNat (.int (a + b))))))
        | _, _ => .bad)
      | _, _ => .bad)
    | _ => .bad)
  | _, _ => .bad)
def sRaise (c : Str) (ns : List Str) (args : List CE) : CS := fun env S => (mapC args env S).bind fun ws S1 => guard' (decide (ws.length = ns.length) && decide (ws.length ≤ 1000)) (.exc c (ns.zip ws).reverse env S1)
def sTry (pg : Pg) (g : Gm) (hds : List ExceptHandler) (body : List CS) : CS := fun env S => tryR pg g hds (seqC body env S)
def sFor (bnd : Bnd) (iter : CI) (body : List CS) : CS := fun env S => (iter env S).bind fun items S1 => forR (fun env S => seqC body env S) bnd items.2 items.1 env S1
def sForD (k : Nat) (p : CP) (bnd : Bnd) (iter : CI) (body : List CS) : CS := fun env S => (match dWalkC k p env S with
  | some (items, S1) => (match dFlagC p env S with
    | some n => unlR n (forR (fun env S => seqC body env S) bnd (fun _ => true) items env S1)
    | none => noExc (forR (fun env S => seqC body env S) bnd (fun _ => true) items env S1))
  | none => (iter env S).bind fun items S1 => forR (fun env S => seqC body env S) bnd items.2 items.1 env S1)
def sWhile (t : CT) (body : List CS) : CS := fun env S => whileR (fun env S => t env S) (fun env S => seqC body env S) 100000 env S
def tryHds : Stmt → List ExceptHandler
  | .Try _ h _ _ _ => h
  | _ => []
def subSt : Stmt → List Stmt
  | .For _ _ b o _ => b ++ o
  | .While _ b o _ => b ++ o
  | .If _ b o _ => b ++ o
  | _ => []
def stAt : List Nat → List Stmt → Stmt
  | [], _ => .Pass ⟨0, 0, 0, 0⟩
  | [i], l => l.getD i (.Pass ⟨0, 0, 0, 0⟩)
  | i :: r, l => stAt r (subSt (l.getD i (.Pass ⟨0, 0, 0, 0⟩)))
/-! ### a text's words, called by name -/
structure Mir where
  N : List Str
  P : Nat
  keep : Bool
  c : Cl → List CS
def cdC (mir : Str → Option Mir) : Nat → Str → List W → Sto → R W
  | 0, _, _, _ => .bad
  | d + 1, f, ws, S => match mir f with
    | none => .bad
    | some M => guard' (decide (ws.length = M.P)) (leaveR M.keep S.length (seqC (M.c (cdC mir d)) (startE M.N ws) S))
structure MirOk (pg : Pg) (F : Fn) (M : Mir) : Prop where
  N : M.N = F.N
  P : M.P = F.P
  keep : M.keep = F.keep
  c : ∀ cl ws S, bodyR pg cl F ws S = seqC (M.c cl) (startE F.N ws) S
inductive MirsOk (pg : Pg) : List (Str × Fn) → List (Str × Mir) → Prop
  | nil : MirsOk pg [] []
  | cons {f : Str} {F : Fn} {M : Mir} {l : List (Str × Fn)} {l' : List (Str × Mir)} : MirOk pg F M → MirsOk pg l l' → MirsOk pg ((f, F) :: l) ((f, M) :: l')
theorem MirsOk.look {pg : Pg} {l : List (Str × Fn)} {l' : List (Str × Mir)} (h : MirsOk pg l l') (f : Str) : (l.lookup f = none ∧ l'.lookup f = none) ∨ ∃ F M, l.lookup f = some F ∧ l'.lookup f = some M ∧ MirOk pg F M := by
  induction h with
  | nil => exact .inl ⟨rfl, rfl⟩
  | @cons g F M l l' hm _ ih =>
    rw [List.lookup_cons, List.lookup_cons]
    cases q : f == g with
    | true => exact .inr ⟨F, M, rfl, rfl, hm⟩
    | false => exact ih
theorem callD_mir {pg : Pg} {l : List (Str × Fn)} {l' : List (Str × Mir)} (h : MirsOk pg l l') : ∀ d, callD pg (fun f => l.lookup f) d = cdC (fun f => l'.lookup f) d
  | 0 => rfl
  | d + 1 => by
    funext f ws S
    unfold callD cdC
    rcases h.look f with ⟨h1, h2⟩ | ⟨F, M, h1, h2, m⟩
    · rw [h1, h2]
    · rw [h1, h2]
      show guard' _ _ = guard' _ _
      rw [m.P, m.keep, m.N, m.c, callD_mir h d]
end Mi

set_option Elab.async false
set_option linter.all false
set_option maxRecDepth 100000
set_option maxHeartbeats 4000000
/-! Mi13: reckoning with the evaluator's words; the laws' draws. -/
noncomputable section
namespace Mi
open PySem PySem.Spec PyProof.Rows L2
section
variable {α β : Type} {S : Sto}
@[simp] theorem bind_ok {a : α} {f : α → Sto → R β} : (R.ok a S).bind f = f a S := rfl
@[simp] theorem bind_bad {f : α → Sto → R β} : (R.bad).bind f = .bad := rfl
@[simp] theorem bind_exc {c : Str} {fs : List (Str × W)} {e : Env'} {f : α → Sto → R β} : (R.exc c fs e S).bind f = .exc c fs e S := rfl
@[simp] theorem lift_some {a : α} : lift (some a) S = .ok a S := rfl
@[simp] theorem guard_true {r : R α} : guard' true r = r := rfl
@[simp] theorem noExc_ok {a : α} : noExc (R.ok a S) = .ok a S := rfl
end
@[simp] theorem exitW_same {S : Sto} {w : W} : exitW S.length w S = .ok w S := if_pos rfl
theorem exitR_ret {S : Sto} {w : W} : exitR S.length (.ok (.ret w) S) = .ok w S := exitW_same
theorem exitR_next {S : Sto} {env : Env'} : exitR S.length (.ok (.next env) S) = .ok .non S := exitW_same
end Mi

set_option Elab.async false
set_option linter.all false
set_option maxRecDepth 100000
set_option maxHeartbeats 4000000
/-! Mi14: the laws' draws. -/
noncomputable section
namespace Mi
open PySem PySem.Spec PyProof.Rows L2
def cLawNumber : List CS := [sSetT [2, 3] (xIf (cCmp .NotEq (xV 0) (xLst [])) (xTup [(xIx (xV 0) (xBin .Mod (xV 1) (xBlt "len" [(xV 0)]))), (xBin .FloorDiv (xV 1) (xBlt "len" [(xV 0)]))]) (xTup [(xC (.int 12345)), (xC (.int 0))])),
    sSet 4 (xIf (cCmp .Lt (xV 3) (xC (.int 60))) (xBin .Sub (xV 2) (xBin .Pow (xC (.int 10)) (xC (.int 18)))) (xC (.int 0))),
    sFor (bN 5) (iRng1 (xBin .Mod (xBlt "int" [(xV 3)]) (xC (.int 60)))) [sSet 4 (xBin .FloorDiv (xV 4) (xC (.int 1009)))],
    sIf (cCmp .Gt (xV 4) (xC (.int 0))) [sRet (xBin .Mod (xBlt "int" [(xV 4)]) (xC (.int 1009)))] [],
    sSet 6 (xBin .Mod (xBin .Add (xBin .Mult (xBlt "int" [(xBin .Add (xV 2) (xBin .Mult (xC (.int 977)) (xV 1)))]) (xC (.int 48271))) (xBin .Mult (xC (.int 31)) (xBlt "len" [(xV 0)]))) (xC (.int 2147483647))),
    sSet 6 (xBin .Mod (xBin .Add (xBin .Mult (xV 6) (xV 6)) (xBin .Mult (xC (.int 40503)) (xV 1))) (xC (.int 2147483629))),
    sRet (xBlt "int" [(xBin .Mod (xBin .Add (xBin .Mult (xV 6) (xC (.int 69621))) (xBin .FloorDiv (xV 6) (xC (.int 977)))) (xC (.int 2147483587)))])]
theorem bcall_int (S : Sto) (i : Int) : bcall S "int" [.int i] = some (.int i) := rfl
theorem bcall_len (S : Sto) (w : W) : bcall S "len" [w] = (lenD S w).map .int := rfl
theorem lenD_frl (S : Sto) (xs : List W) : lenD S (.frl xs) = some (xs.length : Int) := rfl
theorem lenD_lst (S : Sto) (xs : List W) : lenD S (.lst xs) = some (xs.length : Int) := rfl
section
variable {S : Sto} {a b : Int}
theorem b_add : binop S .Add (.int a) (.int b) = some (.int (a + b)) := rfl
theorem b_sub : binop S .Sub (.int a) (.int b) = some (.int (a - b)) := rfl
theorem b_mod (h : 0 < b) : binop S .Mod (.int a) (.int b) = some (.int (a % b)) := if_pos h
theorem b_fdv (h : 0 < b ∧ b < 1073741824) : binop S .FloorDiv (.int a) (.int b) = some (.int (a / b)) := if_pos h
theorem b_mul (h : (-(2 ^ 64) < a ∧ a < 2 ^ 64) ∨ (-(2 ^ 64) < b ∧ b < 2 ^ 64)) : binop S .Mult (.int a) (.int b) = some (.int (a * b)) := if_pos h
theorem b_pow (h : 0 ≤ b ∧ b ≤ 1000000 ∧ a.natAbs < 2 ^ 64) : binop S .Pow (.int a) (.int b) = some (.int (a ^ b.toNat)) := if_pos h
end
theorem toDs_ints : ∀ ns : List Int, toDs (ns.map W.int) = some (ns.map PyData.int)
  | [] => rfl
  | n :: r => by
    rw [List.map_cons, toDs, toDs_ints r]
    rfl
theorem lay_ints : ∀ ns : List Int, PyData.canLayAll0 (ns.map PyData.int) = true
  | [] => rfl
  | n :: r => by
    rw [List.map_cons, PyData.canLayAll0, lay_ints r]
    rfl
theorem depth_ints : ∀ ns : List Int, PyData.depthAll (ns.map PyData.int) ≤ 1
  | [] => by simp [PyData.depthAll]
  | n :: r => by
    have := depth_ints r
    simp [PyData.depthAll, PyData.depth] at *
    omega
theorem shaped_ints (ns : List Int) : SeqAt.shaped (.list (ns.map PyData.int)) = true := by
  unfold SeqAt.shaped
  have h1 : PyData.canLay0 (.list (ns.map PyData.int)) = true := by rw [PyData.canLay0]; exact lay_ints ns
  have h2 : PyData.depth (.list (ns.map PyData.int)) ≤ 64 := by
    have := depth_ints ns
    rw [PyData.depth]
    omega
  rw [h1, decide_eq_true h2]
  rfl
theorem eq_nil (S : Sto) (ns : List Int) : eqS S (.frl (ns.map W.int)) (.lst []) = some ns.isEmpty := by
  have h1 : datS S (.frl (ns.map W.int)) = some (.list (ns.map PyData.int)) := by
    show toD (.frl (ns.map W.int)) = _
    rw [toD, toDs_ints]
    rfl
  have h2 : datS S (.lst []) = some (.list []) := rfl
  have key : eqS0 S (.frl (ns.map W.int)) (.lst []) = some ns.isEmpty := by
   unfold eqS0
   rw [if_neg (show ¬ scalW (.frl (ns.map W.int)) (.lst []) = true from fun z => by cases z), h1, h2]
   show (if _ then _ else _) = _
   rw [if_pos ⟨shaped_ints ns, shaped_ints []⟩]
   cases ns with
   | nil => rfl
   | cons n r => rfl
  show (match eqS0 S (.frl (ns.map W.int)) (.lst []) with
    | some c => some c
    | none => eqLen S (.frl (ns.map W.int)) (.lst [])) = _
  rw [key]
/-- the loop that goes down the digits -/
theorem digits (S : Sto) (a b c e : Option W) (f : Option W) : ∀ (items : List W) (r : Int) (x : Option W), ∃ (r' : Int) (x' : Option W),
    forR (fun env S => seqC [sSet 4 (xBin .FloorDiv (xV 4) (xC (.int 1009)))] env S) (bN 5) (fun _ => true) items [a, b, c, e, some (.int r), x, f] S = .ok (.next [a, b, c, e, some (.int r'), x', f]) S
  | [], r, x => ⟨r, x, rfl⟩
  | w :: ws, r, x => by
    obtain ⟨r', x', h⟩ := digits S a b c e f ws (r / 1009) (some w)
    refine ⟨r', x', ?_⟩
    rw [← h]
    rfl
theorem lawNumber_rest (S : Sto) (sc : List W) (hs : sc.length ≤ 63) (idx c t : Int) (ht : 0 ≤ t) (x4 x5 x6 : Option W) : ∃ r : Int, 0 ≤ r ∧
    seqC (cLawNumber.drop 1) [some (.frl sc), some (.int idx), some (.int c), some (.int t), x4, x5, x6] S = .ok (.ret (.int r)) S := by
  unfold cLawNumber
  show ∃ r : Int, 0 ≤ r ∧ seqC [_, _, _, _, _, _] _ _ = _
  have step1 : ∃ r0 : Int, sSet 4 (xIf (cCmp .Lt (xV 3) (xC (.int 60))) (xBin .Sub (xV 2) (xBin .Pow (xC (.int 10)) (xC (.int 18)))) (xC (.int 0))) [some (.frl sc), some (.int idx), some (.int c), some (.int t), x4, x5, x6] S =
      .ok (.next [some (.frl sc), some (.int idx), some (.int c), some (.int t), some (.int r0), x5, x6]) S := by
    by_cases h : t < 60
    · refine ⟨c - 10 ^ 18, ?_⟩
      have e : cCmp .Lt (xV 3) (xC (.int 60)) [some (.frl sc), some (.int idx), some (.int c), some (.int t), x4, x5, x6] S = .ok true S := by
        show lift (some (decide (t < 60))) S = _
        rw [decide_eq_true h]; rfl
      unfold sSet xIf
      rw [e]
      rfl
    · refine ⟨0, ?_⟩
      have e : cCmp .Lt (xV 3) (xC (.int 60)) [some (.frl sc), some (.int idx), some (.int c), some (.int t), x4, x5, x6] S = .ok false S := by
        show lift (some (decide (t < 60))) S = _
        rw [decide_eq_false h]; rfl
      unfold sSet xIf
      rw [e]
      rfl
  obtain ⟨r0, e1⟩ := step1
  rw [seqC, e1]
  have step2 : ∃ (r1 : Int) (x5' : Option W), sFor (bN 5) (iRng1 (xBin .Mod (xBlt "int" [(xV 3)]) (xC (.int 60)))) [sSet 4 (xBin .FloorDiv (xV 4) (xC (.int 1009)))] [some (.frl sc), some (.int idx), some (.int c), some (.int t), some (.int r0), x5, x6] S =
      .ok (.next [some (.frl sc), some (.int idx), some (.int c), some (.int t), some (.int r1), x5', x6]) S := by
    have e : iRng1 (xBin .Mod (xBlt "int" [(xV 3)]) (xC (.int 60))) [some (.frl sc), some (.int idx), some (.int c), some (.int t), some (.int r0), x5, x6] S = .ok (still ((List.range (t % 60).toNat).map fun i : Nat => W.int ((0 : Int) + (i : Int)))) S := by
      have h1 : (0 : Int) ≤ t % 60 := Int.emod_nonneg _ (by decide)
      have h2 : t % 60 < 60 := Int.emod_lt_of_pos _ (by decide)
      show guard' (decide (-(2 ^ 62) ≤ t % 60 ∧ t % 60 < 2 ^ 62)) _ = _
      rw [decide_eq_true (by omega)]
      rfl
    obtain ⟨r', x', h⟩ := digits S (some (.frl sc)) (some (.int idx)) (some (.int c)) (some (.int t)) x6 ((List.range (t % 60).toNat).map fun i : Nat => W.int ((0 : Int) + (i : Int))) r0 x5
    exact ⟨r', x', by unfold sFor; rw [e]; exact h⟩
  obtain ⟨r1, x5', e2⟩ := step2
  rw [bind_ok]
  show ∃ r : Int, 0 ≤ r ∧ seqC [_, _, _, _, _] _ _ = _
  rw [seqC, e2, bind_ok]
  show ∃ r : Int, 0 ≤ r ∧ seqC [_, _, _, _] _ _ = _
  by_cases h : 0 < r1
  · refine ⟨r1 % 1009, Int.emod_nonneg _ (by decide), ?_⟩
    have e : cCmp .Gt (xV 4) (xC (.int 0)) [some (.frl sc), some (.int idx), some (.int c), some (.int t), some (.int r1), x5', x6] S = .ok true S := by
      show lift (some (decide (0 < r1))) S = _
      rw [decide_eq_true h]; rfl
    rw [seqC]
    unfold sIf
    rw [e]
    rfl
  · have e : cCmp .Gt (xV 4) (xC (.int 0)) [some (.frl sc), some (.int idx), some (.int c), some (.int t), some (.int r1), x5', x6] S = .ok false S := by
      show lift (some (decide (0 < r1))) S = _
      rw [decide_eq_false h]; rfl
    rw [seqC]
    unfold sIf
    rw [e, bind_ok]
    show ∃ r : Int, 0 ≤ r ∧ seqC [_, _, _] _ _ = _
    let bl := ((c + 977 * idx) * 48271 + 31 * (sc.length : Int)) % 2147483647
    have hb1 : 0 ≤ bl := Int.emod_nonneg _ (by decide)
    have hb2 : bl < 2147483647 := Int.emod_lt_of_pos _ (by decide)
    let bl2 := (bl * bl + 40503 * idx) % 2147483629
    have hc1 : 0 ≤ bl2 := Int.emod_nonneg _ (by decide)
    have hc2 : bl2 < 2147483629 := Int.emod_lt_of_pos _ (by decide)
    refine ⟨(bl2 * 69621 + bl2 / 977) % 2147483587, Int.emod_nonneg _ (by decide), ?_⟩
    have s3 : sSet 6 (xBin .Mod (xBin .Add (xBin .Mult (xBlt "int" [(xBin .Add (xV 2) (xBin .Mult (xC (.int 977)) (xV 1)))]) (xC (.int 48271))) (xBin .Mult (xC (.int 31)) (xBlt "len" [(xV 0)]))) (xC (.int 2147483647)))
        [some (.frl sc), some (.int idx), some (.int c), some (.int t), some (.int r1), x5', x6] S = .ok (.next [some (.frl sc), some (.int idx), some (.int c), some (.int t), some (.int r1), x5', some (.int bl)]) S := by
      simp only [sSet, xBin, xBlt, xC, mapC, bind_ok, xV, List.getElem?_cons_succ, List.getElem?_cons_zero, b_add, lift_some, bcall_int, bcall_len]
      rw [b_mul (.inl (by decide))]
      simp only [bind_ok, lift_some, b_add, bcall_int]
      rw [b_mul (.inr (by decide))]
      simp only [bind_ok, lift_some, lenD_frl, Option.map_some]
      rw [b_mul (.inl (by decide))]
      simp only [bind_ok, lift_some, b_add]
      rw [b_mod (by decide)]
      rfl
    have s4 : sSet 6 (xBin .Mod (xBin .Add (xBin .Mult (xV 6) (xV 6)) (xBin .Mult (xC (.int 40503)) (xV 1))) (xC (.int 2147483629)))
        [some (.frl sc), some (.int idx), some (.int c), some (.int t), some (.int r1), x5', some (.int bl)] S = .ok (.next [some (.frl sc), some (.int idx), some (.int c), some (.int t), some (.int r1), x5', some (.int bl2)]) S := by
      simp only [sSet, xBin, xBlt, xC, mapC, bind_ok, xV, List.getElem?_cons_succ, List.getElem?_cons_zero]
      rw [b_mul (.inl (by omega))]
      simp only [bind_ok, lift_some]
      rw [b_mul (.inl (by decide))]
      simp only [bind_ok, lift_some, b_add]
      rw [b_mod (by decide)]
      rfl
    rw [seqC, s3, bind_ok]
    show seqC [_, _] _ _ = _
    rw [seqC, s4, bind_ok]
    show seqC [_] _ _ = _
    simp only [seqC, sRet, xBin, xBlt, xC, mapC, bind_ok, xV, List.getElem?_cons_succ, List.getElem?_cons_zero]
    rw [b_mul (.inl (by omega))]
    simp only [bind_ok, lift_some]
    rw [b_fdv (by decide)]
    simp only [bind_ok, lift_some, b_add]
    rw [b_mod (by decide)]
    rfl
theorem lawNumber_ok (S : Sto) (ns : List Int) (hs : ns.length ≤ 63) (idx : Int) (hi : 0 ≤ idx) : ∃ r : Int, 0 ≤ r ∧
    seqC cLawNumber [some (.frl (ns.map W.int)), some (.int idx), none, none, none, none, none] S = .ok (.ret (.int r)) S := by
  have s1 : ∃ c t : Int, 0 ≤ t ∧ sSetT [2, 3] (xIf (cCmp .NotEq (xV 0) (xLst [])) (xTup [(xIx (xV 0) (xBin .Mod (xV 1) (xBlt "len" [(xV 0)]))), (xBin .FloorDiv (xV 1) (xBlt "len" [(xV 0)]))]) (xTup [(xC (.int 12345)), (xC (.int 0))]))
      [some (.frl (ns.map W.int)), some (.int idx), none, none, none, none, none] S = .ok (.next [some (.frl (ns.map W.int)), some (.int idx), some (.int c), some (.int t), none, none, none]) S := by
    have e : cCmp .NotEq (xV 0) (xLst []) [some (.frl (ns.map W.int)), some (.int idx), none, none, none, none, none] S = .ok (!ns.isEmpty) S := by
      show lift ((eqS S (.frl (ns.map W.int)) (.lst [])).map (!·)) S = _
      rw [eq_nil]
      rfl
    cases hn : ns with
    | nil =>
      refine ⟨12345, 0, by decide, ?_⟩
      rw [hn] at e
      unfold sSetT xIf
      rw [e]
      rfl
    | cons n r =>
      have hl : 0 < ((ns.map W.int).length : Int) := by rw [hn]; simp
      have hl2 : ((ns.map W.int).length : Int) ≤ 63 := by rw [List.length_map]; omega
      have h1 : 0 ≤ idx % ((ns.map W.int).length : Int) := Int.emod_nonneg _ (by omega)
      have h2 : idx % ((ns.map W.int).length : Int) < ((ns.map W.int).length : Int) := Int.emod_lt_of_pos _ hl
      obtain ⟨k, hk⟩ : ∃ k : Nat, idx % ((ns.map W.int).length : Int) = k := ⟨(idx % ((ns.map W.int).length : Int)).toNat, by omega⟩
      have hk2 : k < ns.length := by
        rw [hk] at h2
        simpa using h2
      have at_ : atI (ns.map W.int) (k : Int) = some (.int ns[k]) := atI_nat (by simp [hk2])
      refine ⟨ns[k], idx / ((ns.map W.int).length : Int), Int.ediv_nonneg hi (by omega), ?_⟩
      rw [← hn]
      have e' : cCmp .NotEq (xV 0) (xLst []) [some (.frl (ns.map W.int)), some (.int idx), none, none, none, none, none] S = .ok true S := by
        rw [e, hn]
        rfl
      unfold sSetT xIf
      rw [e', bind_ok]
      simp only [xTup, xIx, xBin, xBlt, xC, mapC, bind_ok, xV, List.getElem?_cons_succ, List.getElem?_cons_zero, bcall_len, lenD_frl, Option.map_some, lift_some]
      rw [b_mod hl]
      simp only [lift_some, bind_ok]
      rw [hk]
      have ix : ixS S (.frl (ns.map W.int)) (.int (k : Int)) = some (.int ns[k]) := at_
      rw [ix]
      simp only [lift_some, bind_ok]
      rw [b_fdv ⟨hl, by omega⟩]
      rfl
  obtain ⟨c, t, ht, e⟩ := s1
  obtain ⟨r, hr, h⟩ := lawNumber_rest S (ns.map W.int) (by simpa using hs) idx c t ht none none none
  refine ⟨r, hr, ?_⟩
  rw [← h]
  unfold cLawNumber
  rw [seqC, e]
  rfl
end Mi

set_option Elab.async false
set_option linter.all false
set_option maxRecDepth 100000
set_option maxHeartbeats 4000000
/-! Mi15: the laws' draws, called. -/
noncomputable section
namespace Mi
open PySem PySem.Spec PyProof.Rows L2
def cLawTake (cl : Cl) : List CS := [sAugIx (xV 0) (xC (.int 1)) (xC (.int 1)),
    sRet (xBin .Mod (xBlt "int" [(xCall cl "_law_number" 2 [(xIx (xV 0) (xC (.int 0))), (xBlt "int" [(xIx (xV 0) (xC (.int 1)))])])]) (xV 1))]
def cLawPick (cl : Cl) : List CS := [sRet (xIx (xV 1) (xCall cl "_law_take" 2 [(xV 0), (xBlt "len" [(xV 1)])]))]
structure Draws (mir : Str → Option Mir) : Prop where
  num : ∃ M, mir "_law_number" = some M ∧ M.P = 2 ∧ M.keep = false ∧ M.N = (["script", "index", "cell", "turn", "rest", "step", "blend"] : List Str) ∧ ∀ cl, M.c cl = cLawNumber
  take : ∃ M, mir "_law_take" = some M ∧ M.P = 2 ∧ M.keep = false ∧ M.N = (["draw", "many"] : List Str) ∧ ∀ cl, M.c cl = cLawTake cl
  pick : ∃ M, mir "_law_pick" = some M ∧ M.P = 2 ∧ M.keep = false ∧ M.N = (["draw", "items"] : List Str) ∧ ∀ cl, M.c cl = cLawPick cl
/-- a call, by its def's body -/
theorem cdC_of {mir : Str → Option Mir} {d : Nat} {f : Str} {M : Mir} {ws : List W} {S : Sto} (hf : mir f = some M) (hl : ws.length = M.P) (hk : M.keep = false) : cdC mir (d + 1) f ws S = exitR S.length (seqC (M.c (cdC mir d)) (startE M.N ws) S) := by
  rw [cdC, hf]
  show guard' (decide (ws.length = M.P)) _ = _
  rw [decide_eq_true hl, hk]
  rfl
theorem cdC_keep {mir : Str → Option Mir} {d : Nat} {f : Str} {M : Mir} {ws : List W} {S : Sto} (hf : mir f = some M) (hl : ws.length = M.P) (hk : M.keep = true) : cdC mir (d + 1) f ws S = keepR (seqC (M.c (cdC mir d)) (startE M.N ws) S) := by
  rw [cdC, hf]
  show guard' (decide (ws.length = M.P)) _ = _
  rw [decide_eq_true hl, hk]
  rfl
theorem seqD_cell {S : Sto} {k : Nat} {xs : List W} (h : S[k]? = some (.lst xs)) : seqD S (.ref k) = none := by
  unfold seqD
  dsimp only
  rw [h]
theorem ixS_cell {S : Sto} {k : Nat} {xs : List W} {i : Int} (h : S[k]? = some (.lst xs)) : ixS S (.ref k) (.int i) = atI xs i := by
  unfold ixS
  rw [seqD_cell h]
  show ixK S _ _ = _
  unfold ixK kdS
  dsimp only
  rw [h]
  show ixS0 S _ _ = _
  unfold ixS0 seqL
  dsimp only
  rw [h]
/-- the cell of a draw -/
def drawO (ns : List Int) (n : Int) : SO := .lst [.frl (ns.map W.int), .int n]
section
variable {mir : Str → Option Mir} (D : Draws mir)
include D
theorem num_ok (d : Nat) (S : Sto) (ns : List Int) (hs : ns.length ≤ 63) (idx : Int) (hi : 0 ≤ idx) : ∃ r : Int, 0 ≤ r ∧ cdC mir (d + 1) "_law_number" [.frl (ns.map W.int), .int idx] S = .ok (.int r) S := by
  obtain ⟨M, h1, h2, h4, h5, h3⟩ := D.num
  obtain ⟨r, hr, e⟩ := lawNumber_ok S ns hs idx hi
  refine ⟨r, hr, ?_⟩
  rw [cdC_of h1 (by rw [h2]; rfl) h4, h3, h5]
  have e' : startE ["script", "index", "cell", "turn", "rest", "step", "blend"] [.frl (ns.map W.int), .int idx] = [some (.frl (ns.map W.int)), some (.int idx), none, none, none, none, none] := rfl
  rw [e', e, exitR_ret]
theorem take_ok (d : Nat) (S : Sto) (k : Nat) (ns : List Int) (n m : Int) (hs : ns.length ≤ 63) (hn : 0 ≤ n) (hm : 0 < m) (hk : S[k]? = some (drawO ns n)) :
    ∃ r : Int, 0 ≤ r ∧ r < m ∧ cdC mir (d + 2) "_law_take" [.ref k, .int m] S = .ok (.int r) (S.set k (drawO ns (n + 1))) := by
  obtain ⟨M, h1, h2, h4, h5, h3⟩ := D.take
  obtain ⟨r, hr, e⟩ := num_ok D d (S.set k (drawO ns (n + 1))) ns hs (n + 1) (by omega)
  refine ⟨r % m, Int.emod_nonneg _ (by omega), Int.emod_lt_of_pos _ hm, ?_⟩
  rw [cdC_of h1 (by rw [h2]; rfl) h4, h3, h5]
  have e' : startE ["draw", "many"] [.ref k, .int m] = [some (.ref k), some (.int m)] := rfl
  rw [e', cLawTake, seqC]
  have hkl : k < S.length := (List.getElem?_eq_some_iff.mp hk).1
  have s1 : sAugIx (xV 0) (xC (.int 1)) (xC (.int 1)) [some (.ref k), some (.int m)] S = .ok (.next [some (.ref k), some (.int m)]) (S.set k (drawO ns (n + 1))) := by
    unfold sAugIx
    simp only [xV, xC, List.getElem?_cons_zero, bind_ok, hk, drawO]
    rfl
  have hk2 : (S.set k (drawO ns (n + 1)))[k]? = some (drawO ns (n + 1)) := List.getElem?_set_self hkl
  rw [s1, bind_ok]
  have i0 : ixS (S.set k (drawO ns (n + 1))) (.ref k) (.int 0) = some (.frl (ns.map W.int)) := by
    rw [ixS_cell hk2]
    rfl
  have i1 : ixS (S.set k (drawO ns (n + 1))) (.ref k) (.int 1) = some (.int (n + 1)) := by
    rw [ixS_cell hk2]
    rfl
  show exitR S.length (seqC [_] _ _) = _
  rw [seqC]
  have s2 : sRet (xBin .Mod (xBlt "int" [(xCall (cdC mir (d + 1)) "_law_number" 2 [(xIx (xV 0) (xC (.int 0))), (xBlt "int" [(xIx (xV 0) (xC (.int 1)))])])]) (xV 1)) [some (.ref k), some (.int m)] (S.set k (drawO ns (n + 1))) = .ok (.ret (.int (r % m))) (S.set k (drawO ns (n + 1))) := by
    simp only [sRet, xBin, xBlt, xCall, xIx, mapC, xV, xC, List.getElem?_cons_zero, List.getElem?_cons_succ, bind_ok, i0, i1, lift_some, bcall_int]
    simp only [show decide (([W.frl (ns.map W.int), W.int (n+1)] : List W).length = 2) = true from rfl, guard_true, e, bind_ok, bcall_int, lift_some]
    rw [b_mod hm]
    rfl
  rw [s2, bind_ok]
  show exitW S.length _ _ = _
  unfold exitW
  rw [if_pos (by simp)]
theorem pick_ok (d : Nat) (S : Sto) (k : Nat) (ns : List Int) (n : Int) (xs : List W) (hs : ns.length ≤ 63) (hn : 0 ≤ n) (hx : 0 < xs.length) (hk : S[k]? = some (drawO ns n)) :
    ∃ (i : Nat) (h : i < xs.length), cdC mir (d + 3) "_law_pick" [.ref k, .lst xs] S = .ok xs[i] (S.set k (drawO ns (n + 1))) := by
  obtain ⟨M, h1, h2, h4, h5, h3⟩ := D.pick
  obtain ⟨r, hr, hr2, e⟩ := take_ok D d S k ns n (xs.length : Int) hs hn (by omega) hk
  have hi : r.toNat < xs.length := by omega
  refine ⟨r.toNat, hi, ?_⟩
  rw [cdC_of h1 (by rw [h2]; rfl) h4, h3, h5]
  have e' : startE ["draw", "items"] [.ref k, .lst xs] = [some (.ref k), some (.lst xs)] := rfl
  rw [e', cLawPick, seqC]
  have ix : ixS (S.set k (drawO ns (n + 1))) (.lst xs) (.int r) = some xs[r.toNat] := by
    show atI xs r = _
    have z := atI_nat (xs := xs) (j := r.toNat) (v := xs[r.toNat]) (by simp [hi])
    rw [show ((r.toNat : Nat) : Int) = r by omega] at z
    exact z
  have s2 : sRet (xIx (xV 1) (xCall (cdC mir (d + 2)) "_law_take" 2 [(xV 0), (xBlt "len" [(xV 1)])])) [some (.ref k), some (.lst xs)] S = .ok (.ret xs[r.toNat]) (S.set k (drawO ns (n + 1))) := by
    simp only [sRet, xBlt, xCall, xIx, mapC, xV, xC, List.getElem?_cons_zero, List.getElem?_cons_succ, bind_ok, lift_some, bcall_len, lenD_lst, Option.map_some]
    simp only [show decide (([W.ref k, W.int (xs.length : Int)] : List W).length = 2) = true from rfl, guard_true, e, bind_ok, ix, lift_some]
  rw [s2, bind_ok]
  show exitW S.length _ _ = _
  unfold exitW
  rw [if_pos (by simp)]
end
end Mi

set_option Elab.async false
set_option linter.all false
set_option maxRecDepth 100000
set_option maxHeartbeats 4000000
/-! Mi16: sequences, comprehensions, loops: general laws of the evaluator's words. -/
noncomputable section
namespace Mi
open PySem PySem.Spec PyProof.Rows L2
def contC (B : List CS) : Out' → Sto → R Out'
  | .next e, S => seqC B e S
  | .ret w, S => .ok (.ret w) S
  | .brk e, S => .ok (.brk e) S
  | .cont e, S => .ok (.cont e) S
theorem seqC_app (B : List CS) : ∀ (A : List CS) (env : Env') (S : Sto), seqC (A ++ B) env S = (seqC A env S).bind (contC B)
  | [], env, S => rfl
  | a :: A, env, S => by
    rw [List.cons_append, seqC, seqC]
    cases h : a env S with
    | ok o S1 =>
      rw [bind_ok, bind_ok]
      cases o with
      | next e => exact seqC_app B A e S1
      | ret w => rfl
      | brk e => rfl
      | cont e => rfl
    | exc c fs e S1 => rfl
    | bad => rfl
theorem seqC_next {a : CS} {A : List CS} {env env' : Env'} {S S' : Sto} (h : a env S = .ok (.next env') S') : seqC (a :: A) env S = seqC A env' S' := by
  rw [seqC, h]
  rfl
theorem seqC_ret {a : CS} {A : List CS} {env : Env'} {w : W} {S S' : Sto} (h : a env S = .ok (.ret w) S') : seqC (a :: A) env S = .ok (.ret w) S' := by
  rw [seqC, h]
  rfl
theorem lcR_map {step : W → Sto → R (Option W)} {f : W → W} {S : Sto} {chk : Sto → Bool} (hc : chk S = true) : ∀ (items acc : List W), acc.length + items.length ≤ 100000 → (∀ w ∈ items, step w S = .ok (some (f w)) S) → lcR false step chk items acc S = .ok (.lst (acc ++ items.map f)) S
  | [], acc, hl, h => by
    rw [lcR, hc, List.map_nil, List.append_nil]
    rfl
  | w :: ws, acc, hl, h => by
    rw [List.length_cons] at hl
    rw [lcR, hc, h w (List.mem_cons_self ..)]
    show guard' (decide (acc.length + 1 ≤ 100000)) (lcR false step chk ws (acc ++ [f w]) S) = _
    rw [decide_eq_true (by omega), guard_true, lcR_map hc ws _ (by simp; omega) fun w' q => h w' (List.mem_cons_of_mem _ q)]
    simp
theorem forR_same {body : Env' → Sto → R Out'} {bnd : W → Env' → Option Env'} {S : Sto} {I : Env' → Prop} {chk : Sto → Bool} (hc : chk S = true) : ∀ (items : List W) (env : Env'), I env →
    (∀ w ∈ items, ∀ env, I env → ∃ e1 e2, bnd w env = some e1 ∧ body e1 S = .ok (.next e2) S ∧ I e2) → ∃ e, forR body bnd chk items env S = .ok (.next e) S ∧ I e
  | [], env, i, _ => ⟨env, by rw [forR, hc]; rfl, i⟩
  | w :: ws, env, i, h => by
    obtain ⟨e1, e2, h1, h2, h3⟩ := h w (List.mem_cons_self ..) env i
    obtain ⟨e, h4, h5⟩ := forR_same hc ws e2 h3 fun w' q => h w' (List.mem_cons_of_mem _ q)
    refine ⟨e, ?_, h5⟩
    rw [forR, hc, h1]
    show (body e1 S).bind _ = _
    rw [h2]
    exact h4
theorem bools_true {α : Type} : ∀ (xs : List α), bools (xs.map fun _ => W.bl true) = some (xs.map fun _ => true)
  | [] => rfl
  | x :: r => by
    rw [List.map_cons, bools, bools_true r]
    rfl
theorem all_true {α : Type} (S : Sto) (xs : List α) : bcall S "all" [.lst (xs.map fun _ => W.bl true)] = some (.bl true) := by
  show (bools (xs.map fun _ => W.bl true)).map (fun bs => W.bl (bs.all id)) = _
  rw [bools_true]
  show some (W.bl _) = _
  congr 2
  induction xs with
  | nil => rfl
  | cons x r ih => exact ih
/-! ### rules: one step each -/
theorem sRet_ok {e : CE} {env : Env'} {S S' : Sto} {w : W} (h : e env S = .ok w S') : sRet e env S = .ok (.ret w) S' := by
  unfold sRet
  rw [h]
  rfl
theorem sSet_ok {i : Nat} {e : CE} {env : Env'} {S S' : Sto} {w : W} (h : e env S = .ok w S') : sSet i e env S = .ok (.next (env.set i (some w))) S' := by
  unfold sSet
  rw [h]
  rfl
theorem sExpr_ok {e : CE} {env : Env'} {S S' : Sto} {w : W} (h : e env S = .ok w S') : sExpr e env S = .ok (.next env) S' := by
  unfold sExpr
  rw [h]
  rfl
theorem xIf_t {t : CT} {a b : CE} {env : Env'} {S S1 : Sto} {r : R W} (h : t env S = .ok true S1) (h2 : a env S1 = r) : xIf t a b env S = r := by
  unfold xIf
  rw [h]
  exact h2
theorem xIf_f {t : CT} {a b : CE} {env : Env'} {S S1 : Sto} {r : R W} (h : t env S = .ok false S1) (h2 : b env S1 = r) : xIf t a b env S = r := by
  unfold xIf
  rw [h]
  exact h2
theorem sIf_t {t : CT} {a b : List CS} {env : Env'} {S S1 : Sto} {r : R Out'} (h : t env S = .ok true S1) (h2 : seqC a env S1 = r) : sIf t a b env S = r := by
  unfold sIf
  rw [h]
  exact h2
theorem sIf_f {t : CT} {a b : List CS} {env : Env'} {S S1 : Sto} {r : R Out'} (h : t env S = .ok false S1) (h2 : seqC b env S1 = r) : sIf t a b env S = r := by
  unfold sIf
  rw [h]
  exact h2
theorem xCall_ok {cl : Cl} {f : Str} {n : Nat} {args : List CE} {env : Env'} {S S1 S2 : Sto} {ws : List W} {w : W} (h : mapC args env S = .ok ws S1) (hn : ws.length = n) (h2 : cl f ws S1 = .ok w S2) : xCall cl f n args env S = .ok w S2 := by
  unfold xCall
  rw [h, bind_ok, decide_eq_true hn, guard_true, h2]
theorem xBlt_ok {f : Str} {args : List CE} {env : Env'} {S S1 : Sto} {ws : List W} {w : W} (h : mapC args env S = .ok ws S1) (h2 : bcall S1 f ws = some w) : xBlt f args env S = .ok w S1 := by
  unfold xBlt
  rw [h, bind_ok, h2]
  rfl
theorem mapC_cons {c : CE} {cs : List CE} {env : Env'} {S S1 S2 : Sto} {w : W} {ws : List W} (h : c env S = .ok w S1) (h2 : mapC cs env S1 = .ok ws S2) : mapC (c :: cs) env S = .ok (w :: ws) S2 := by
  rw [mapC, h, bind_ok, h2]
  rfl
theorem xBin_ok {op : Operator} {a b : CE} {env : Env'} {S S1 S2 : Sto} {x y w : W} (h1 : a env S = .ok x S1) (h2 : b env S1 = .ok y S2) (h : binop S2 op x y = some w) : xBin op a b env S = .ok w S2 := by
  unfold xBin
  rw [h1, bind_ok, h2, bind_ok, h]
  rfl
theorem xCmp_ok {op : CmpOp} {a b : CE} {env : Env'} {S S1 S2 : Sto} {x y : W} {c : Bool} (h1 : a env S = .ok x S1) (h2 : b env S1 = .ok y S2) (h : cmpop S2 op x y = some c) : xCmp op a b env S = .ok (.bl c) S2 := by
  unfold xCmp
  rw [h1, bind_ok, h2, bind_ok, h]
  rfl
theorem cCmp_ok {op : CmpOp} {a b : CE} {env : Env'} {S S1 S2 : Sto} {x y : W} {c : Bool} (h1 : a env S = .ok x S1) (h2 : b env S1 = .ok y S2) (h : cmpop S2 op x y = some c) : cCmp op a b env S = .ok c S2 := by
  unfold cCmp
  rw [h1, bind_ok, h2, bind_ok, h]
  rfl
theorem cTru_ok {a : CE} {env : Env'} {S S1 : Sto} {w : W} {c : Bool} (h1 : a env S = .ok w S1) (h : truth S1 w = some c) : cTru a env S = .ok c S1 := by
  unfold cTru
  rw [h1, bind_ok, h]
  rfl
theorem cNot_ok {a : CT} {env : Env'} {S S1 : Sto} {c : Bool} (h1 : a env S = .ok c S1) : cNot a env S = .ok (!c) S1 := by
  unfold cNot
  rw [h1]
  rfl
theorem xIx_ok {a i : CE} {env : Env'} {S S1 S2 : Sto} {x y w : W} (h1 : a env S = .ok x S1) (h2 : i env S1 = .ok y S2) (h : ixS S2 x y = some w) : xIx a i env S = .ok w S2 := by
  unfold xIx
  rw [h1, bind_ok, h2, bind_ok, h]
  rfl
theorem sFor_ok {bnd : W → Env' → Option Env'} {iter : CI} {body : List CS} {env : Env'} {S S1 : Sto} {items : Itm} {r : R Out'} (h : iter env S = .ok items S1) (h2 : forR (fun env S => seqC body env S) bnd items.2 items.1 env S1 = r) : sFor bnd iter body env S = r := by
  unfold sFor
  rw [h]
  exact h2
theorem xLc_ok {i : Nat} {iter : CI} {elt : CE} {env : Env'} {S : Sto} {items : List W} (f : W → W) (h : iter env S = .ok (still items) S) (hl : items.length ≤ 100000) (h2 : ∀ w ∈ items, elt ((wipeE env [i]).set i (some w)) S = .ok (f w) S) : xLc (bN i) [i] iter none elt env S = .ok (.lst (items.map f)) S := by
  unfold xLc xLcF
  rw [h, bind_ok]
  show lcR false _ (fun _ => true) items [] S = _
  rw [lcR_map (f := f) rfl items [] (by rw [List.length_nil, Nat.zero_add]; exact hl), List.nil_append]
  intro w hw
  show (noExc (elt ((wipeE env [i]).set i (some w)) S)).bind _ = _
  rw [h2 w hw]
  rfl
/-- the sign and the figures of a short number, read -/
def pvD (cs : List Nat) : Int := cs.foldl (fun (a : Int) (c : Nat) => a * 10 + (Int.ofNat c - 48)) 0
def pv : List Nat → Int
  | 45 :: r => -(pvD r)
  | r => pvD r
def strI (n : Int) : Str := (toString n : String)
def numO (w : Str) : Option Int := if -99 ≤ pv w.cps.toList ∧ pv w.cps.toList ≤ 99 ∧ strI (pv w.cps.toList) = w then some (pv w.cps.toList) else none
theorem pv_all : (List.range 199).all (fun i => decide (pv (strI ((i : Int) - 99)).cps.toList = (i : Int) - 99)) = true := by decide +kernel
theorem pv_ok {n : Int} (h1 : -99 ≤ n) (h2 : n ≤ 99) : pv (strI n).cps.toList = n := by
  have z := List.all_eq_true.mp pv_all (n + 99).toNat (by rw [List.mem_range]; omega)
  have e : (((n + 99).toNat : Nat) : Int) - 99 = n := by omega
  rw [e] at z
  exact of_decide_eq_true z
theorem numO_iff {n : Int} (h1 : -99 ≤ n) (h2 : n ≤ 99) (w : Str) : strI n = w ↔ numO w = some n := by
  constructor
  · intro e
    subst e
    have := pv_ok h1 h2
    unfold numO
    rw [this, if_pos ⟨h1, h2, rfl⟩]
  · intro e
    unfold numO at e
    split at e
    · rename_i h
      injection e with e
      rw [← e]
      exact h.2.2
    · cases e
theorem bcall_str {S : Sto} {n : Int} (h : n.natAbs < 1920) : bcall S "str" [.int n] = some (.str (strI n)) := by
  unfold bcall
  rw [if_neg (by decide +kernel), if_neg (by decide +kernel), if_pos rfl]
  exact if_pos (Nat.lt_of_le_of_lt (Nat.log2_le_self _) h)
theorem strI_lens : (List.range 201).all (fun i => decide ((strI ((i : Int) - 100)).length ≤ 4)) = true := by decide +kernel
theorem strI_len {n : Int} (h1 : -100 ≤ n) (h2 : n ≤ 100) : (strI n).length ≤ 4 := by
  have z := List.all_eq_true.mp strI_lens (n + 100).toNat (by rw [List.mem_range]; omega)
  have e : (((n + 100).toNat : Nat) : Int) - 100 = n := by omega
  rw [e] at z
  exact of_decide_eq_true z
/-- is w the text of a number in lo..hi? -/
def numIn (w : Str) (lo hi : Int) : Bool := match numO w with
  | some n => decide (lo ≤ n) && decide (n ≤ hi)
  | none => false
theorem numIn_any {w : Str} {lo hi : Int} (h1 : -99 ≤ lo) (h2 : hi ≤ 99) : inW (.str w) ((List.range (hi + 1 - lo).toNat).map fun i : Nat => W.str (strI (lo + (i : Int)))) = numIn w lo hi := by
  unfold inW
  rw [List.any_map, Bool.eq_iff_iff, List.any_eq_true]
  constructor
  · intro ⟨i, hi1, hi2⟩
    rw [List.mem_range] at hi1
    have e : strI (lo + (i : Int)) = w := eqStr_iff.mp (hi2 : eqStr (strI (lo + (i : Int))) w = true)
    have := (numO_iff (by omega) (by omega) w).mp e
    unfold numIn
    rw [this]
    simp only [Bool.and_eq_true, decide_eq_true_eq]
    omega
  · intro h
    unfold numIn at h
    split at h
    · rename_i n e
      simp only [Bool.and_eq_true, decide_eq_true_eq] at h
      have := (numO_iff (by omega) (by omega) w).mpr e
      refine ⟨(n - lo).toNat, by rw [List.mem_range]; omega, ?_⟩
      show eqStr (strI (lo + (((n - lo).toNat : Nat) : Int))) w = true
      rw [show lo + (((n - lo).toNat : Nat) : Int) = n by omega, this]
      exact eqStr_iff.mpr rfl
    · cases h
end Mi

set_option Elab.async false
set_option linter.all false
set_option maxRecDepth 100000
set_option maxHeartbeats 4000000
/-! Ma17: a text's tables; what the head must have seen of them. -/
noncomputable section
namespace Mi
open PySem PySem.Spec PyProof.Rows L2 He
abbrev Pth := Str × Option Str
structure Tx where
  fnl : List (Str × Fn)
  csts : List (Str × W)
  arl : List (Str × Nat)
  frl : List Str
  fldl : List ((Str × Str) × Unit)
  mtl : List ((Str × Str) × Nat)
  newl : List (Str × (Nat × Bool))
  xcl : List (Str × List Str)
  exkl : List (Str × Unit)
  exml : List ((Str × Str) × Bool)
  exfl : List ((Str × Str) × Unit)
  exil : List ((Str × Str) × Bool)
  isil : List ((Str × Str) × Bool)
  own : List Str
  pth : List (Str × Pth)
  /-- empty tuples: defaults -/
  ets : List (PySem.W.Frag → Addr)
  /-- left class, right class: the left one's own == is asked -/
  eql : List ((Str × Str) × Unit)
  /-- defs that are handed a lambda; defs that make one -/
  tol : List (Str × Told) := []
  tf : List Pth := []
def Tx.pg (T : Tx) : Pg := { told := fun f => T.tol.lookup f, eq := fun c d => (T.eql.lookup (c, d)).isSome, cst := fun x => T.csts.lookup x, ar := fun f => T.arl.lookup f, free := T.frl, fld := fun c f => (T.fldl.lookup (c, f)).isSome, mt := fun c m => T.mtl.lookup (c, m), new := fun c => T.newl.lookup c, xc := fun c => T.xcl.lookup c, exk := fun x => (T.exkl.lookup x).isSome, exm := fun c x => T.exml.lookup (c, x), exf := fun c f => (T.exfl.lookup (c, f)).isSome, exi := fun c t => T.exil.lookup (c, t), isi := fun c t => T.isil.lookup (c, t), dfl := fun c => match T.fnl.lookup (mName c "__init__") with
    | some F => F.dfl
    | none => [] }
def Tx.path (T : Tx) (f : Str) : Pth := (T.pth.lookup f).getD (f, none)
/-- where classes and defs stand -/
@[reducible] def Tx.gam (T : Tx) (K : PySem.W.Frag) (wd : World) : Gam := ⟨fun c => if T.own.contains c = true then some (ga K c) else none, fun f => fAd K (T.path f), T.tf.map fun p => ((cT K p).2, p.1 ++ ".<locals>." ++ "<lambda>"), wd⟩
theorem lookup_in {κ β : Type} [BEq κ] [LawfulBEq κ] : ∀ {l : List (κ × β)} {f : κ} {F : β}, l.lookup f = some F → (f, F) ∈ l
  | [], _, _, h => by cases h
  | (g, G) :: r, f, F, h => by
    rw [List.lookup_cons] at h
    cases q : f == g with
    | true =>
      rw [q] at h
      cases h
      rw [eq_of_beq q]
      exact List.mem_cons_self ..
    | false =>
      rw [q] at h
      exact List.mem_cons_of_mem _ (lookup_in h)
/-! ### looks -/
def oneB (a b : Option (Option Value)) : Bool := decide (a = b)
def isB (K : PySem.W.Frag) (C : Addr) : Bool := decide (PySem.W.findIn K (.ref C) "__class__" = some (some (.builtin "object.__class__"))) && (decide (PySem.W.specialIn K (.builtin "object.__class__") "__get__" = some (some (.builtin "getset_descriptor.__get__"))) && (decide (PySem.W.takesIn K (.builtin "object.__class__") = some true) && decide (PySem.W.mroIn K C (.type "object") = some true)))
def oexB (K : PySem.W.Frag) (C : Addr) : Bool := (match K.lookup C with
  | some ⟨.type "type", _, .cls cd, sl⟩ => (match cd.mro, sl.toList with
    | .ref C' :: bm, [_, _, _, _, some (.builtin n), _] => decide (C' = C) && (decide (n = "ValueError.__new__") && (!cd.hasDel && (cd.hasDict && PySem.HandSPX.refsVE bm)))
    | _, _ => false)
  | _ => false) && (decide (PySem.W.findIn K (.ref C) "__setattr__" = some (some (.builtin "object.__setattr__"))) && (decide (PySem.W.subIn K (.ref C) (.type "BaseException") = some true) && (decide (PySem.W.typeIn K (.ref C) = some (.type "type")) && PySem.W.keepIn K (.ref C))))
def cB (K : PySem.W.Frag) (x : Str) : W → Bool
  | .int i => (Fa.int x i).ok K
  | .str s => (Fa.str x s).ok K
  | .tup ws => (Fa.glo x).ok K && (ws.all flatW && tupB K x (ws.map fun w => match w with
    | .bl b => .bl b
    | .int i => .int i
    | .str s => .str s
    | _ => .non))
  | _ => false
/-- the second argument of isinstance -/
def cvB (T : Tx) (K : PySem.W.Frag) (t : Str) : Option Value := match T.frl.contains t with
  | true => (match bootBuiltins t with
    | some (.type n) => some (.type n)
    | _ => none)
  | false => (match (Fa.glo t).ok K with
    | true => some (.ref (ga K t))
    | false => none)
def tyV (T : Tx) (K : PySem.W.Frag) (c : Str) : Option Value := match tyB c with
  | some n => some (.type n)
  | none => (match T.own.contains c && ((Fa.cls c).ok K && isB K (ga K c)) with
    | true => some (.ref (ga K c))
    | false => none)
def excB (K : PySem.W.Frag) (C : Addr) : Bool := xfB K C && isB K C
def etB (K : PySem.W.Frag) (a : Addr) : Bool := match K.lookup a with
  | some ⟨.type c, _, .seq its _, _⟩ => decide (c = "tuple") && decide (its.size = 0)
  | _ => false
def eqB (T : Tx) (K : PySem.W.Frag) (c d : Str) : Bool := T.own.contains c && (T.own.contains d && ((Fa.meth c "__eq__").ok K && (PySem.W.notFirst K (ga K c) (.ref (ga K d)) && (decide (PySem.W.findIn K (.ref (ga K c)) "__ne__" = some (some (.builtin "object.__ne__"))) && decide (PySem.W.mroIn K (ga K c) (.type "object") = some true)))))
def Tx.ok (T : Tx) (K : PySem.W.Frag) : Bool := (T.tol.all fun p => (Fa.glo p.1).ok K) && (decide ((T.tf.map fun p => (cT K p).2).Nodup) && ((T.eql.all fun p => eqB T K p.1.1 p.1.2) && ((T.ets.all fun f => etB K (f K)) && (
  (T.arl.all fun p => (Fa.glo p.1).ok K && PySem.W.keepIn K (.ref (ga K p.1))) && ((T.csts.all fun p => cB K p.1 p.2) && ((T.frl.all fun x => (Fa.free x).ok K) &&
  ((T.fldl.all fun p => T.own.contains p.1.1 && ((Fa.cls p.1.1).ok K && (Fa.noat p.1.1 p.1.2).ok K)) && ((T.mtl.all fun p => T.own.contains p.1.1 && ((Fa.cls p.1.1).ok K && (Fa.meth p.1.1 p.1.2).ok K)) &&
  ((T.newl.all fun p => T.own.contains p.1 && ((Fa.glo p.1).ok K && (Fa.mkr p.1).ok K)) &&
  ((T.xcl.all fun p => (Fa.glo p.1).ok K && (oexB K (ga K p.1) && ((p.2.all fun f => (Fa.noat p.1 f).ok K) && (oneB (PySem.W.findIn K (.ref (ga K p.1)) "__init__") (some (some (.ref (ma K (ga K p.1) "__init__")))) && decide (PySem.W.typeIn K (.ref (ma K (ga K p.1) "__init__")) = some (.type "function")))))) &&
  ((T.exkl.all fun p => (Fa.glo p.1).ok K) && ((T.exml.all fun p => (Fa.glo p.1.1).ok K && ((Fa.glo p.1.2).ok K && (Fa.exm p.1.1 p.1.2 p.2).ok K)) && ((T.exfl.all fun p => (Fa.glo p.1.1).ok K && (xfB K (ga K p.1.1) && (Fa.noat p.1.1 p.1.2).ok K)) &&
  ((T.exil.all fun p => (Fa.glo p.1.1).ok K && (excB K (ga K p.1.1) && (match cvB T K p.1.2 with
    | some cv => decide (PySem.W.kitOne K (.ref (ga K p.1.1)) cv = some p.2)
    | none => false))) && (T.isil.all fun p => (match tyV T K p.1.1, cvB T K p.1.2 with
    | some u, some cv => decide (PySem.W.kitOne K u cv = some p.2)
    | _, _ => false))))))))))))))))
def Tx.o1 (T : Tx) (K : PySem.W.Frag) : Bool := (((T.tol.all fun p => (Fa.glo p.1).ok K)) && ((decide ((T.tf.map fun p => (cT K p).2).Nodup)) && (((T.eql.all fun p => eqB T K p.1.1 p.1.2)) && (((T.ets.all fun f => etB K (f K))) && (((T.arl.all fun p => (Fa.glo p.1).ok K && PySem.W.keepIn K (.ref (ga K p.1)))) && (((T.csts.all fun p => cB K p.1 p.2)) && ((T.frl.all fun x => (Fa.free x).ok K))))))))
def Tx.o2 (T : Tx) (K : PySem.W.Frag) : Bool := (((T.fldl.all fun p => T.own.contains p.1.1 && ((Fa.cls p.1.1).ok K && (Fa.noat p.1.1 p.1.2).ok K))) && (((T.mtl.all fun p => T.own.contains p.1.1 && ((Fa.cls p.1.1).ok K && (Fa.meth p.1.1 p.1.2).ok K))) && (((T.newl.all fun p => T.own.contains p.1 && ((Fa.glo p.1).ok K && (Fa.mkr p.1).ok K))) && ((T.xcl.all fun p => (Fa.glo p.1).ok K && (oexB K (ga K p.1) && ((p.2.all fun f => (Fa.noat p.1 f).ok K) && (oneB (PySem.W.findIn K (.ref (ga K p.1)) "__init__") (some (some (.ref (ma K (ga K p.1) "__init__")))) && decide (PySem.W.typeIn K (.ref (ma K (ga K p.1) "__init__")) = some (.type "function"))))))))))
def Tx.o3 (T : Tx) (K : PySem.W.Frag) : Bool := (((T.exkl.all fun p => (Fa.glo p.1).ok K)) && (((T.exml.all fun p => (Fa.glo p.1.1).ok K && ((Fa.glo p.1.2).ok K && (Fa.exm p.1.1 p.1.2 p.2).ok K))) && ((T.exfl.all fun p => (Fa.glo p.1.1).ok K && (xfB K (ga K p.1.1) && (Fa.noat p.1.1 p.1.2).ok K)))))
def Tx.o4 (T : Tx) (K : PySem.W.Frag) : Bool := (((T.exil.all fun p => (Fa.glo p.1.1).ok K && (excB K (ga K p.1.1) && (match cvB T K p.1.2 with
    | some cv => decide (PySem.W.kitOne K (.ref (ga K p.1.1)) cv = some p.2)
    | none => false)))) && (T.isil.all fun p => (match tyV T K p.1.1, cvB T K p.1.2 with
    | some u, some cv => decide (PySem.W.kitOne K u cv = some p.2)
    | _, _ => false)))
theorem Tx.ok_of {T : Tx} {K : PySem.W.Frag} (h1 : T.o1 K = true) (h2 : T.o2 K = true) (h3 : T.o3 K = true) (h4 : T.o4 K = true) : T.ok K = true := by
  unfold Tx.o1 at h1
  unfold Tx.o2 at h2
  unfold Tx.o3 at h3
  unfold Tx.o4 at h4
  unfold Tx.ok
  simp only [Bool.and_eq_true] at h1 h2 h3 h4 ⊢
  exact ⟨h1.1, h1.2.1, h1.2.2.1, h1.2.2.2.1, h1.2.2.2.2.1, h1.2.2.2.2.2.1, h1.2.2.2.2.2.2, h2.1, h2.2.1, h2.2.2.1, h2.2.2.2, h3.1, h3.2.1, h3.2.2, h4.1, h4.2⟩
/-- what shows without the head -/
def Tx.st (T : Tx) : Bool := (T.tf.isEmpty || ((T.fnl.all fun p => !p.2.own) && T.eql.isEmpty)) && ((T.fnl.all fun p => !p.2.lam || (T.tf.any fun q => decide (q = (p.1, none))) && decide (T.path p.1 = (p.1, none))) && ((T.eql.all fun p => (match T.fnl.lookup (mName p.1.1 "__eq__") with
    | some F => decide (F.P = 2)
    | none => false) && decide (T.path (mName p.1.1 "__eq__") = (p.1.1, some ("__eq__" : Str)))) && (
  (T.arl.all fun p => (match T.fnl.lookup p.1 with
    | some F => decide (F.P = p.2)
    | none => false) && decide (T.path p.1 = (p.1, none))) &&
  ((T.mtl.all fun p => (match T.fnl.lookup (mName p.1.1 p.1.2) with
    | some F => decide (F.P = p.2 + 1)
    | none => false) && decide (T.path (mName p.1.1 p.1.2) = (p.1.1, some p.1.2))) &&
  (T.newl.all fun p => (match T.fnl.lookup (mName p.1 "__init__") with
    | some F => decide (F.P = p.2.1 + 1)
    | none => false) && decide (T.path (mName p.1 "__init__") = (p.1, some ("__init__" : Str))))))))
section
variable {K : PySem.W.Frag} {h : Heap} {mg : Str → Option Value} {wd : World}
theorem isB_ok {C : Addr} (c : Cls K C) (hb : isB K C = true) : IsC K C := by
  obtain ⟨h1, h2⟩ := ba hb
  obtain ⟨h2, h3⟩ := ba h2
  obtain ⟨h3, h4⟩ := ba h3
  exact ⟨c, of_decide_eq_true h1, of_decide_eq_true h2, of_decide_eq_true h3, of_decide_eq_true h4⟩
theorem excB_ok {C : Addr} (hb : excB K C = true) : ExcC K C := by
  obtain ⟨h0, hb⟩ := ba hb
  have x := xfB_ok h0
  obtain ⟨h1, h2⟩ := ba hb
  obtain ⟨h2, h3⟩ := ba h2
  obtain ⟨h3, h4⟩ := ba h3
  exact ⟨x.ga, x.gg, x.exC, x.hdC, of_decide_eq_true h1, of_decide_eq_true h2, of_decide_eq_true h3, of_decide_eq_true h4⟩
theorem oexB_ok {C : Addr} (hb : oexB K C = true) : OexC K C := by
  obtain ⟨h0, hb⟩ := ba hb
  obtain ⟨h1, h2⟩ := ba hb
  obtain ⟨h2, h3⟩ := ba h2
  obtain ⟨h3, h4⟩ := ba h3
  refine ⟨?_, of_decide_eq_true h1, of_decide_eq_true h2, of_decide_eq_true h3, h4⟩
  split at h0
  · rename_i dd cd sl ho
    split at h0
    · rename_i C' bm k0 k1 k2 k3 n k5 hm hs
      obtain ⟨e1, h0⟩ := ba h0
      obtain ⟨e2, h0⟩ := ba h0
      obtain ⟨e3, h0⟩ := ba h0
      obtain ⟨e4, e5⟩ := ba h0
      have e1 := of_decide_eq_true e1
      have e2 := of_decide_eq_true e2
      subst e1 e2
      obtain ⟨nm, bs, mro, nsp, qn, hd, sn, sub, ab, col, del⟩ := cd
      dsimp only at hm e3 e4
      have e3 : del = false := by simpa using e3
      subst hm e3 e4
      have hsl : sl = #[k0, k1, k2, k3, some (.builtin "ValueError.__new__"), k5] := by
        obtain ⟨l⟩ := sl
        simp only at hs
        rw [hs]
      subst hsl
      exact ⟨nm, qn, nsp, bs, bm, sn, sub, ab, col, dd, k0, k1, k2, k3, k5, ho, e5⟩
    · cases h0
  · cases h0
theorem etB_ok {a : Addr} (h : etB K a = true) (B : Hp) : SqT K B a [] := by
  unfold etB at h
  split at h
  · rename_i c dd its n sl q
    obtain ⟨h1, h2⟩ := ba h
    have e := of_decide_eq_true h2
    refine .inr ⟨_, its, n, q, congrArg Value.type (of_decide_eq_true h1), rfl, by rw [e]; exact Nat.zero_le _, ?_⟩
    have : its = #[] := Array.eq_empty_of_size_eq_zero e
    rw [this]
    exact .nil
  · cases h
theorem Tx.et {T : Tx} {f : PySem.W.Frag → Addr} (hk : T.ok K = true) (hf : f ∈ T.ets) (B : Hp) : SqT K B (f K) [] := etB_ok (List.all_eq_true.mp (ba (ba (ba (ba hk).2).2).2).1 f hf) B
theorem flat_v {K : PySem.W.Frag} [Gam] : ∀ {ws : List W}, ws.all flatW = true → ∀ B, RepL K B [] ((ws.map fun w => match w with
    | .bl b => Dv.bl b
    | .int i => .int i
    | .str s => .str s
    | _ => .non).map (Dv.v K)) ws
  | [], _, B => .nil
  | w :: ws, hf, B => by
    obtain ⟨h1, h2⟩ := ba (show (flatW w && ws.all flatW) = true from hf)
    refine .cons ?_ (flat_v h2 B)
    cases w <;> first | (cases h1; done) | constructor
theorem cB_ok [Gam] {x : Str} {w : W} (X : K.In h) (G : h.Ns mainGlobals mg) (c : cB K x w = true) : ∃ u v, mg x = some u ∧ RelV v u ∧ ∀ B, Rep K B [] v w := by
  unfold cB at c
  split at c
  · obtain ⟨t, e⟩ := int_ok X G c
    exact ⟨_, .int _, e, ⟨t, rfl⟩, fun B => .int _⟩
  · obtain ⟨t, e⟩ := str_ok X G c
    exact ⟨_, .str _, e, ⟨t, rfl⟩, fun B => .str _⟩
  · obtain ⟨h1, h2⟩ := ba c
    obtain ⟨h2, h3⟩ := ba h2
    exact ⟨_, .ref _, glo_ok X G h1, rfl, fun B => .tup (tupB_ok h3 B) (flat_v h2 B)⟩
  · cases c
theorem cvB_ok {T : Tx} {t : Str} {cv : Value} (X : K.In h) (G : h.Ns mainGlobals mg) (hf : ∀ x ∈ T.frl, mg x = none) (c : cvB T K t = some cv) : (∃ Ct, mg t = some (.ref Ct) ∧ cv = .ref Ct) ∨ (mg t = none ∧ ∃ T, bootBuiltins t = some (.type T) ∧ cv = .type T) := by
  unfold cvB at c
  split at c
  · rename_i q
    have hm : t ∈ T.frl := List.contains_iff_mem.mp q
    split at c
    · rename_i n e
      cases c
      exact .inr ⟨hf t hm, n, e, rfl⟩
    · cases c
  · split at c
    · rename_i q
      cases c
      exact .inl ⟨_, glo_ok X G q, rfl⟩
    · cases c
theorem tyV_ok {T : Tx} {c : Str} {u : Value} (e : tyV T K c = some u) : letI := T.gam K wd; TyN K c u := by
  letI := T.gam K wd
  unfold tyV at e
  show TyN K c u
  unfold TyN
  split at e
  · rename_i n q
    cases e
    first | rfl | rw [q]
  · rename_i q
    try rw [q]
    split at e
    · rename_i z
      cases e
      obtain ⟨h1, h2⟩ := ba z
      obtain ⟨h2, h3⟩ := ba h2
      exact ⟨_, if_pos h1, rfl, isB_ok (cls_ok h2) h3⟩
    · cases e
theorem opt_fn {l : List (Str × Fn)} {f : Str} {n : Nat} (e : (match l.lookup f with
    | some F => decide (F.P = n)
    | none => false) = true) : ∃ F, l.lookup f = some F ∧ F.P = n := by
  cases q : l.lookup f with
  | none => rw [q] at e; cases e
  | some F =>
    rw [q] at e
    exact ⟨F, rfl, of_decide_eq_true e⟩
/-- what is asked of an exception's __init__ -/
def XcOk (K : PySem.W.Frag) (mg : Str → Option Value) (c : Str) (ns : List Str) : Prop := ∃ fd ps, (∀ P w base, FnOk P w K mg base (L2.CX P w) 1 (ma K (ga K c) "__init__") fd ps (SpI K ns)) ∧ Binds K fd ps []
theorem dfl_none {K : PySem.W.Frag} [Gam] {fd : FuncData} {ps : List Str} (b : Binds K fd ps []) : ∀ j, Dfl K fd ps (([] : List W).drop j) := fun j => ⟨[], [], b, .nil, fun _ _ => by rw [List.drop_nil]; exact .nil⟩
theorem dfl_some {K : PySem.W.Frag} [Gam] {fd : FuncData} {ps : List Str} {dvs : List V} {dws : List W} (L : Nat) (h : ∀ j, j ≤ L → ∃ ds, Vals (dvs.drop j) ds ∧ Binds K fd ps ds) (r : ∀ B ρ, RepL K B ρ dvs dws) (hl : dws.length = L) : ∀ j, Dfl K fd ps (dws.drop j) := fun j => by
  by_cases hj : j ≤ L
  · obtain ⟨ds, v, b⟩ := h j hj
    exact ⟨ds, _, b, v, fun B ρ => (r B ρ).drop j⟩
  · obtain ⟨ds, v, b⟩ := h L (Nat.le_refl _)
    refine ⟨ds, _, b, v, fun B ρ => ?_⟩
    have z := (r B ρ).drop L
    have e1 : dws.drop L = [] := List.drop_of_length_le (by omega)
    have e2 : dws.drop j = [] := List.drop_of_length_le (by omega)
    rw [e1] at z
    rw [e2]
    exact z
theorem txt_of {T : Tx} (X : K.In h) (G : h.Ns mainGlobals mg) (hk : T.ok K = true) (hs : T.st = true) (hd : letI := T.gam K wd; ∀ p ∈ T.fnl, Def K p.1 p.2) (hx : ∀ p ∈ T.xcl, XcOk K mg p.1 p.2) (ht : letI := T.gam K wd; ∀ p ∈ T.tol, ToldOk K mg p.1 p.2) :
    letI := T.gam K wd; Txt K mg T.pg (fun f => T.fnl.lookup f) := by
  letI := T.gam K wd
  obtain ⟨kt1, hk⟩ := ba hk
  obtain ⟨kt2, hk⟩ := ba hk
  obtain ⟨st1, hs⟩ := ba hs
  obtain ⟨st2, hs⟩ := ba hs
  obtain ⟨kq, hk⟩ := ba hk
  obtain ⟨k0, hk⟩ := ba hk
  obtain ⟨k1, hk⟩ := ba hk
  obtain ⟨k2, hk⟩ := ba hk
  obtain ⟨k3, hk⟩ := ba hk
  obtain ⟨k4, hk⟩ := ba hk
  obtain ⟨k5, hk⟩ := ba hk
  obtain ⟨k6, hk⟩ := ba hk
  obtain ⟨k7, hk⟩ := ba hk
  obtain ⟨k8, hk⟩ := ba hk
  obtain ⟨k9, hk⟩ := ba hk
  obtain ⟨k10, hk⟩ := ba hk
  obtain ⟨k11, k12⟩ := ba hk
  obtain ⟨sq, hs⟩ := ba hs
  obtain ⟨s1, hs⟩ := ba hs
  obtain ⟨s2, s3⟩ := ba hs
  have hfree : ∀ x ∈ T.frl, mg x = none := fun x hx => He.free_ok X G (List.all_eq_true.mp k3 x hx)
  have some_mem : ∀ {β : Type} {l : List ((Str × Str) × β)} {k : Str × Str}, (l.lookup k).isSome = true → ∃ b, (k, b) ∈ l := fun {β l k} e => by
    obtain ⟨b, q⟩ := Option.isSome_iff_exists.mp e
    exact ⟨b, lookup_in q⟩
  refine ⟨fun f F e => hd _ (lookup_in e), fun f n e => ?_, fun x w e => cB_ok X G (List.all_eq_true.mp k2 _ (lookup_in e)), hfree, fun c f e => ?_, fun c m n e => ?_, fun c n fz e => ?_, fun c ns e => ?_, fun x e => ?_, fun c x b e => ?_, fun c f e => ?_, fun c t b e => ?_, fun c t b e => ?_, fun c d e => ?_, ?_, fun f t e => ht _ (lookup_in e)⟩
  · have m := lookup_in e
    obtain ⟨a1, a2⟩ := ba (List.all_eq_true.mp k1 _ m)
    obtain ⟨b1, b2⟩ := ba (List.all_eq_true.mp s1 _ m)
    obtain ⟨F, c1, c2⟩ := opt_fn b1
    have e2 : T.path f = (f, none) := of_decide_eq_true b2
    have e3 : Gam.fn f = ga K f := by
      show fAd K (T.path f) = _
      rw [e2]
      rfl
    exact ⟨F, c1, c2, by rw [e3]; exact glo_ok X G a1, by rw [e3]; exact a2⟩
  · obtain ⟨b, m⟩ := some_mem e
    obtain ⟨a1, a2⟩ := ba (List.all_eq_true.mp k4 _ m)
    obtain ⟨a2, a3⟩ := ba a2
    exact ⟨_, if_pos a1, cls_ok a2, noat_ok a3⟩
  · have mm := lookup_in e
    obtain ⟨a1, a2⟩ := ba (List.all_eq_true.mp k5 _ mm)
    obtain ⟨a2, a3⟩ := ba a2
    obtain ⟨b1, b2⟩ := ba (List.all_eq_true.mp s2 _ mm)
    obtain ⟨F, c1, c2⟩ := opt_fn b1
    have e2 : T.path (mName c m) = (c, some m) := of_decide_eq_true b2
    have e3 : Gam.fn (mName c m) = ma K (ga K c) m := by
      show fAd K (T.path (mName c m)) = _
      rw [e2]
      rfl
    exact ⟨_, F, if_pos a1, cls_ok a2, by rw [e3]; exact meth_ok a3, c1, c2⟩
  · have mm := lookup_in e
    obtain ⟨a1, a2⟩ := ba (List.all_eq_true.mp k6 _ mm)
    obtain ⟨a2, a3⟩ := ba a2
    obtain ⟨b1, b2⟩ := ba (List.all_eq_true.mp s3 _ mm)
    obtain ⟨F, c1, c2⟩ := opt_fn b1
    have e2 : T.path (mName c "__init__") = (c, some ("__init__" : Str)) := of_decide_eq_true b2
    have e3 : Gam.fn (mName c "__init__") = ma K (ga K c) "__init__" := by
      show fAd K (T.path (mName c "__init__")) = _
      rw [e2]
      rfl
    exact ⟨_, F, if_pos a1, glo_ok X G a2, by rw [e3]; exact mkr_ok a3, c1, c2, by
      show F.dfl = (match T.fnl.lookup (mName c "__init__") with
        | some F => F.dfl
        | none => [])
      rw [c1]⟩
  · have mm := lookup_in e
    obtain ⟨a1, a2⟩ := ba (List.all_eq_true.mp k7 _ mm)
    obtain ⟨a2, a3⟩ := ba a2
    obtain ⟨a3, a4⟩ := ba a3
    obtain ⟨a4, a5⟩ := ba a4
    obtain ⟨fd, ps, b1, b2⟩ := hx _ mm
    exact ⟨_, _, fd, ps, glo_ok X G a1, oexB_ok a2, fun f hf => noat_ok (List.all_eq_true.mp a3 f hf), of_decide_eq_true a4, of_decide_eq_true a5, b1, b2⟩
  · obtain ⟨b, q⟩ := Option.isSome_iff_exists.mp e
    exact ⟨_, glo_ok X G (List.all_eq_true.mp k8 _ (lookup_in q))⟩
  · obtain ⟨a1, a2⟩ := ba (List.all_eq_true.mp k9 _ (lookup_in e))
    obtain ⟨a2, a3⟩ := ba a2
    exact ⟨_, _, glo_ok X G a1, glo_ok X G a2, exm_ok a3⟩
  · obtain ⟨b, m⟩ := some_mem e
    obtain ⟨a1, a2⟩ := ba (List.all_eq_true.mp k10 _ m)
    obtain ⟨a2, a3⟩ := ba a2
    exact ⟨_, glo_ok X G a1, xfB_ok a2, noat_ok a3⟩
  · obtain ⟨a1, a2⟩ := ba (List.all_eq_true.mp k11 _ (lookup_in e))
    obtain ⟨a2, a3⟩ := ba a2
    dsimp only at a3
    split at a3
    · rename_i cv q
      exact ⟨_, cv, glo_ok X G a1, excB_ok a2, of_decide_eq_true a3, cvB_ok X G hfree q⟩
    · cases a3
  · have a := List.all_eq_true.mp k12 _ (lookup_in e)
    dsimp only at a
    split at a
    · rename_i u cv q1 q2
      exact ⟨u, cv, tyV_ok q1, of_decide_eq_true a, cvB_ok X G hfree q2⟩
    · cases a
  · obtain ⟨b, m⟩ := some_mem e
    obtain ⟨a1, a2⟩ := ba (List.all_eq_true.mp kq _ m)
    obtain ⟨a2, a3⟩ := ba a2
    obtain ⟨a3, a4⟩ := ba a3
    obtain ⟨a4, a5⟩ := ba a4
    obtain ⟨a5, a6⟩ := ba a5
    obtain ⟨b1, b2⟩ := ba (List.all_eq_true.mp sq _ m)
    obtain ⟨F, c1, c2⟩ := opt_fn b1
    have e2 : T.path (mName c "__eq__") = (c, some ("__eq__" : Str)) := of_decide_eq_true b2
    have e3 : Gam.fn (mName c "__eq__") = ma K (ga K c) "__eq__" := by
      show fAd K (T.path (mName c "__eq__")) = _
      rw [e2]
      rfl
    have mt := meth_ok a3
    exact ⟨_, _, F, if_pos a1, if_pos a2, a4, by rw [e3]; exact mt.at_, by rw [e3]; exact mt.fn, of_decide_eq_true a5, of_decide_eq_true a6, c1, c2⟩
  · rw [Bool.or_eq_true] at st1
    rcases st1 with z | z
    · left
      show T.tf.map _ = []
      rw [List.isEmpty_iff.mp z]
      rfl
    · right
      obtain ⟨z1, z2⟩ := ba z
      refine ⟨fun f F e => ?_, fun c d => ?_⟩
      · have q := List.all_eq_true.mp z1 _ (lookup_in e)
        simpa using q
      · show (T.eql.lookup (c, d)).isSome = false
        rw [List.isEmpty_iff.mp z2]
        rfl
theorem inj_nd {α β : Type} {g : α → β} : ∀ {l : List α}, (l.map g).Nodup → ∀ {a b : α}, a ∈ l → b ∈ l → g a = g b → a = b
  | [], _, _, _, h, _, _ => nomatch h
  | x :: r, hn, a, b, ha, hb, e => by
    have hn' : g x ∉ r.map g ∧ (r.map g).Nodup := List.nodup_cons.mp hn
    rcases List.mem_cons.mp ha with e1 | h1
    · rcases List.mem_cons.mp hb with e2 | h2
      · rw [e1, e2]
      · exact absurd (List.mem_map.mpr ⟨b, h2, by rw [← e, e1]⟩) hn'.1
    · rcases List.mem_cons.mp hb with e2 | h2
      · exact absurd (List.mem_map.mpr ⟨a, h1, by rw [e, e2]⟩) hn'.1
      · exact inj_nd hn'.2 h1 h2 e
theorem Tx.nd {T : Tx} (hk : T.ok K = true) : (T.tf.map fun p => (cT K p).2).Nodup := of_decide_eq_true (ba (ba hk).2).1
/-- where lambdas are made -/
theorem lamT_of {T : Tx} {base : Heap} (hs : T.st = true) (nd : (T.tf.map fun p => (cT K p).2).Nodup) (hB : ∀ p ∈ T.tf, LamX.TabB base mg (cT K p).1 (cT K p).2) (hF : ∀ p ∈ T.tf, ∃ name pr bd sc dvs kws fd, FunD K name p.1 pr bd sc dvs kws (fAd K p) fd) :
    letI := T.gam K wd; LamT K mg base (fun f => T.fnl.lookup f) := by
  letI := T.gam K wd
  intro f F hf hl fd oc od osl lk c ec
  have z := List.all_eq_true.mp (ba (ba hs).2).1 _ (lookup_in hf)
  rw [hl] at z
  obtain ⟨z1, z2⟩ := ba (show ((T.tf.any fun q => decide (q = (f, none))) && decide (T.path f = (f, none))) = true from z)
  obtain ⟨p, hp, z3⟩ := List.any_eq_true.mp z1
  have e1 := of_decide_eq_true z3
  have e2 : T.path f = (f, none) := of_decide_eq_true z2
  subst e1
  have lk2 : K.lookup (fAd K (f, none)) = some ⟨oc, od, .func fd, osl⟩ := by
    rw [← lk]
    show _ = List.lookup (fAd K (T.path f)) K
    rw [e2]
  have ec2 := codeOf_eq lk2 ec
  have tb := hB _ hp
  obtain ⟨name, pr, bd, sc, dvs, kws, fd', FD⟩ := hF _ hp
  obtain ⟨oc', od', dV, kV, doc, pm, an, cdv, ct, osl', rfl, lk', _, _, _⟩ := FD.ex
  rw [lk2] at lk'
  cases lk'
  have ct : cT K (f, none) = (c, tabOf K c) := by
    unfold cT
    rw [ec2]
  refine ⟨tabOf K c, by rw [ct] at tb; exact tb, List.mem_map.mpr ⟨_, hp, by rw [ct]⟩, fun q hq e => ?_⟩
  obtain ⟨p', hp', rfl⟩ := List.mem_map.mp hq
  have : p' = (f, none) := inj_nd nd hp' hp (by rw [ct]; exact e)
  rw [this]
theorem lamT_no {T : Tx} {base : Heap} (h : (T.fnl.all fun p => !p.2.lam) = true) : letI := T.gam K wd; LamT K mg base (fun f => T.fnl.lookup f) := by
  letI := T.gam K wd
  intro f F hf hl
  have z := List.all_eq_true.mp h _ (lookup_in hf)
  rw [hl] at z
  cases z
end
end Mi

set_option Elab.async false
set_option linter.all false
set_option maxRecDepth 100000
set_option maxHeartbeats 4000000
/-! Ma18: total answers: rules that walk through a body with drawn numbers. -/
noncomputable section
namespace Mi
open PySem PySem.Spec PyProof.Rows L2
def Tot {α : Type} (r : R α) (Q : α → Sto → Prop) : Prop := ∃ w S, r = .ok w S ∧ Q w S
theorem tot_ok {α : Type} {w : α} {S : Sto} {Q : α → Sto → Prop} : Tot (.ok w S) Q ↔ Q w S := by
  constructor
  · rintro ⟨w', S', e, q⟩
    cases e
    exact q
  · exact fun q => ⟨w, S, rfl, q⟩
theorem tot_bind {α β : Type} {r : R α} {f : α → Sto → R β} {Q : β → Sto → Prop} : Tot (r.bind f) Q ↔ Tot r fun w S => Tot (f w S) Q := by
  cases r with
  | ok w S => rw [bind_ok, tot_ok]
  | exc c fs e S =>
    constructor
    · rintro ⟨_, _, e, _⟩; cases e
    · rintro ⟨_, _, e, _⟩; cases e
  | bad =>
    constructor
    · rintro ⟨_, _, e, _⟩; cases e
    · rintro ⟨_, _, e, _⟩; cases e
theorem tot_guard {α : Type} {b : Bool} {r : R α} {Q : α → Sto → Prop} : Tot (guard' b r) Q ↔ b = true ∧ Tot r Q := by
  cases b with
  | true => rw [guard_true]; simp
  | false =>
    constructor
    · rintro ⟨_, _, e, _⟩; cases e
    · rintro ⟨e, _⟩; cases e
theorem tot_lift {α : Type} {o : Option α} {S : Sto} {Q : α → Sto → Prop} : Tot (lift o S) Q ↔ ∃ w, o = some w ∧ Q w S := by
  cases o with
  | some w => rw [lift_some, tot_ok]; simp
  | none =>
    constructor
    · rintro ⟨_, _, e, _⟩; cases e
    · rintro ⟨_, e, _⟩; cases e
theorem tot_some {α : Type} {w : α} {S : Sto} {Q : α → Sto → Prop} : Tot (lift (some w) S) Q ↔ Q w S := by rw [lift_some, tot_ok]
theorem Tot.imp {α : Type} {r : R α} {Q Q' : α → Sto → Prop} (h : Tot r Q) (q : ∀ w S, Q w S → Q' w S) : Tot r Q' := by
  obtain ⟨w, S, e, z⟩ := h
  exact ⟨w, S, e, q w S z⟩
theorem tot_of {α : Type} {r : R α} {w : α} {S : Sto} {Q : α → Sto → Prop} (h : r = .ok w S) (q : Q w S) : Tot r Q := ⟨w, S, h, q⟩
theorem tot_back {env : Env'} {r : R W} {Q : W → Sto → Prop} : Tot (back env r) Q ↔ Tot r Q := by
  cases r with
  | ok w S => exact Iff.rfl
  | exc c fs e S =>
    constructor
    · rintro ⟨_, _, e, _⟩; cases e
    · rintro ⟨_, _, e, _⟩; cases e
  | bad => exact Iff.rfl
theorem tot_noExc {α : Type} {r : R α} {Q : α → Sto → Prop} : Tot (noExc r) Q ↔ Tot r Q := by
  cases r with
  | ok w S => rw [noExc_ok]
  | exc c fs e S =>
    constructor
    · rintro ⟨_, _, e, _⟩; cases e
    · rintro ⟨_, _, e, _⟩; cases e
  | bad => exact Iff.rfl
theorem tot_xCall {cl : Cl} {f : Str} {n : Nat} {args : List CE} {env : Env'} {S : Sto} {Q : W → Sto → Prop} : Tot (xCall cl f n args env S) Q ↔ Tot (mapC args env S) fun ws S1 => ws.length = n ∧ Tot (cl f ws S1) Q := by
  unfold xCall
  rw [tot_bind]
  have e : ∀ ws S1, Tot (guard' (decide (ws.length = n)) (match cl f ws S1 with
    | .ok w S2 => .ok w S2
    | .exc c fs _ S2 => .exc c fs env S2
    | .bad => .bad)) Q ↔ ws.length = n ∧ Tot (cl f ws S1) Q := fun ws S1 => by
      rw [tot_guard, decide_eq_true_iff]
      have := tot_back (env := env) (r := cl f ws S1) (Q := Q)
      exact ⟨fun z => ⟨z.1, this.mp z.2⟩, fun z => ⟨z.1, this.mpr z.2⟩⟩
  constructor
  · exact fun h => h.imp fun ws S1 z => (e ws S1).mp z
  · exact fun h => h.imp fun ws S1 z => (e ws S1).mpr z
theorem tot_exitR {n0 : Nat} {r : R Out'} {Q : W → Sto → Prop} : Tot (exitR n0 r) Q ↔ Tot r fun o S => Tot (match o with
  | .ret w => exitW n0 w S
  | .next _ => exitW n0 .non S
  | .brk _ => .bad
  | .cont _ => .bad) Q := tot_bind
theorem tot_keepR {r : R Out'} {Q : W → Sto → Prop} : Tot (keepR r) Q ↔ Tot r fun o S => Tot (match o with
  | .ret w => .ok w S
  | .next _ => .ok .non S
  | .brk _ => .bad
  | .cont _ => .bad) Q := tot_bind
theorem tot_exit_same {n0 : Nat} {w : W} {S : Sto} {Q : W → Sto → Prop} (h : S.length = n0) (q : Q w S) : Tot (exitW n0 w S) Q := by
  subst h
  rw [exitW_same]
  exact tot_ok.mpr q
/-- a call, by its def's body -/
theorem tot_cd {mir : Str → Option Mir} {d : Nat} {f : Str} {M : Mir} {ws : List W} {S : Sto} {Q : W → Sto → Prop} (hf : mir f = some M) (hl : ws.length = M.P) (hk : M.keep = false) (h : Tot (seqC (M.c (cdC mir d)) (startE M.N ws) S) fun o S' => Tot (match o with
  | .ret w => exitW S.length w S'
  | .next _ => exitW S.length .non S'
  | .brk _ => .bad
  | .cont _ => .bad) Q) : Tot (cdC mir (d + 1) f ws S) Q := by
  rw [cdC_of hf hl hk]
  exact tot_exitR.mpr h
theorem tot_cdK {mir : Str → Option Mir} {d : Nat} {f : Str} {M : Mir} {ws : List W} {S : Sto} {Q : W → Sto → Prop} (hf : mir f = some M) (hl : ws.length = M.P) (hk : M.keep = true) (h : Tot (seqC (M.c (cdC mir d)) (startE M.N ws) S) fun o S' => Tot (match o with
  | .ret w => .ok w S'
  | .next _ => .ok .non S'
  | .brk _ => .bad
  | .cont _ => .bad) Q) : Tot (cdC mir (d + 1) f ws S) Q := by
  rw [cdC_keep hf hl hk]
  exact tot_keepR.mpr h
/-- a comprehension, by an invariant -/
theorem tot_lcR {step : W → Sto → R (Option W)} {chk : Sto → Bool} {Q : W → Sto → Prop} (I : List W → List W → Sto → Prop) (h0 : ∀ acc S, I [] acc S → chk S = true ∧ Q (.lst acc) S)
    (h1 : ∀ w ws acc S, I (w :: ws) acc S → chk S = true ∧ Tot (step w S) fun o S1 => match o with
      | none => I ws acc S1
      | some y => acc.length + 1 ≤ 100000 ∧ I ws (acc ++ [y]) S1) : ∀ items acc S, I items acc S → Tot (lcR false step chk items acc S) Q
  | [], acc, S, i => by
    obtain ⟨c, q⟩ := h0 acc S i
    rw [lcR, c, guard_true]
    exact tot_ok.mpr q
  | w :: ws, acc, S, i => by
    obtain ⟨c, q⟩ := h1 w ws acc S i
    rw [lcR, c, guard_true, tot_bind]
    refine q.imp fun o S1 z => ?_
    cases o with
    | none => exact tot_lcR I h0 h1 ws acc S1 z
    | some y =>
      obtain ⟨l, z⟩ := z
      dsimp only
      rw [show small (acc.length + 1) = true from decide_eq_true l, guard_true]
      exact tot_lcR I h0 h1 ws _ S1 z
/-- a for, by an invariant -/
theorem tot_forR {body : Env' → Sto → R Out'} {bnd : Bnd} {chk : Sto → Bool} {Q : Out' → Sto → Prop} (I : List W → Env' → Sto → Prop) (h0 : ∀ env S, I [] env S → chk S = true ∧ Q (.next env) S)
    (h1 : ∀ w ws env S, I (w :: ws) env S → chk S = true ∧ ∃ e1, bnd w env = some e1 ∧ Tot (body e1 S) fun o S1 => match o with
      | .next e2 => I ws e2 S1
      | .cont e2 => I ws e2 S1
      | .brk e2 => Q (.next e2) S1
      | .ret w => Q (.ret w) S1) : ∀ items env S, I items env S → Tot (forR body bnd chk items env S) Q
  | [], env, S, i => by
    obtain ⟨c, q⟩ := h0 env S i
    rw [forR, c, guard_true]
    exact tot_ok.mpr q
  | w :: ws, env, S, i => by
    obtain ⟨c, e1, eb, q⟩ := h1 w ws env S i
    rw [forR, c, guard_true, eb]
    dsimp only
    rw [tot_bind]
    refine q.imp fun o S1 z => ?_
    cases o with
    | next e2 => exact tot_forR I h0 h1 ws e2 S1 z
    | cont e2 => exact tot_forR I h0 h1 ws e2 S1 z
    | brk e2 => exact tot_ok.mpr z
    | ret w => exact tot_ok.mpr z
theorem tot_take {mir : Str → Option Mir} (D : Draws mir) {d : Nat} {T : Sto} {ns : List Int} {n m : Int} {Q : W → Sto → Prop} (hs : ns.length ≤ 63) (hn : 0 ≤ n) (hm : 0 < m) (q : ∀ r : Int, 0 ≤ r → r < m → Q (.int r) (drawO ns (n + 1) :: T)) :
    Tot (cdC mir (d + 2) "_law_take" [.ref 0, .int m] (drawO ns n :: T)) Q := by
  obtain ⟨r, h0, h1, e⟩ := take_ok D d (drawO ns n :: T) 0 ns n m hs hn hm rfl
  rw [e, List.set_cons_zero]
  exact tot_ok.mpr (q r h0 h1)
theorem tot_pick {mir : Str → Option Mir} (D : Draws mir) {d : Nat} {T : Sto} {ns : List Int} {n : Int} {xs : List W} {Q : W → Sto → Prop} (hs : ns.length ≤ 63) (hn : 0 ≤ n) (hx : 0 < xs.length) (q : ∀ w ∈ xs, Q w (drawO ns (n + 1) :: T)) :
    Tot (cdC mir (d + 3) "_law_pick" [.ref 0, .lst xs] (drawO ns n :: T)) Q := by
  obtain ⟨i, h, e⟩ := pick_ok D d (drawO ns n :: T) 0 ns n xs hs hn hx rfl
  rw [e, List.set_cons_zero]
  exact tot_ok.mpr (q _ (List.getElem_mem h))
/-- what a frozen value stays -/
def Sm (n : Nat) (w : W) : Prop := ∀ S n0 f, n ≤ f → frzW S n0 f w = some w
def SmL (n : Nat) (ws : List W) : Prop := ∀ S n0 f, n ≤ f → frzs S n0 f ws = some ws
theorem Sm.mono {n m : Nat} {w : W} (h : Sm n w) (l : n ≤ m) : Sm m w := fun S n0 f k => h S n0 f (Nat.le_trans l k)
theorem SmL.mono {n m : Nat} {ws : List W} (h : SmL n ws) (l : n ≤ m) : SmL m ws := fun S n0 f k => h S n0 f (Nat.le_trans l k)
theorem sm_int {i : Int} : Sm 1 (.int i) := fun S n0 f k => by cases f with | zero => omega | succ f => rfl
theorem sm_str {i : Str} : Sm 1 (.str i) := fun S n0 f k => by cases f with | zero => omega | succ f => rfl
theorem sm_bl {i : Bool} : Sm 1 (.bl i) := fun S n0 f k => by cases f with | zero => omega | succ f => rfl
theorem sm_non : Sm 1 .non := fun S n0 f k => by cases f with | zero => omega | succ f => rfl
theorem sm_frl {ws : List W} : Sm 1 (.frl ws) := fun S n0 f k => by cases f with | zero => omega | succ f => rfl
theorem smL_nil : SmL 1 [] := fun S n0 f k => by cases f with | zero => omega | succ f => rfl
theorem smL_cons {n : Nat} {w : W} {ws : List W} (h : Sm n w) (r : SmL n ws) : SmL (n + 1) (w :: ws) := fun S n0 f k => by
  cases f with
  | zero => omega
  | succ f => rw [frzs, h S n0 f (by omega), r S n0 f (by omega)]
theorem sm_tup {n : Nat} {ws : List W} (h : SmL n ws) : Sm (n + 1) (.tup ws) := fun S n0 f k => by
  cases f with
  | zero => omega
  | succ f =>
    rw [frzW]
    rw [h S n0 f (by omega)]
    rfl
theorem sm_lst {n : Nat} {ws : List W} (h : SmL n ws) : Sm (n + 1) (.lst ws) := fun S n0 f k => by
  cases f with
  | zero => omega
  | succ f =>
    rw [frzW]
    rw [h S n0 f (by omega)]
    rfl
theorem smL_all {n : Nat} : ∀ {ws : List W}, 1 ≤ n → (∀ w ∈ ws, Sm n w) → SmL (n + ws.length) ws
  | [], l, _ => smL_nil.mono (by simpa using l)
  | w :: ws, l, h => (smL_cons ((h w (List.mem_cons_self ..)).mono (Nat.le_add_right _ _)) (smL_all l fun x hx => h x (List.mem_cons_of_mem _ hx))).mono (by rw [List.length_cons]; omega)
theorem zip_fst_snd {α β : Type} : ∀ (l : List (α × β)), (l.map Prod.fst).zip (l.map Prod.snd) = l
  | [] => rfl
  | (a, b) :: r => by
    rw [List.map_cons, List.map_cons, List.zip_cons_cons, zip_fst_snd r]
theorem sm_dct {n : Nat} {ks : List (Key × W)} (h : SmL n (ks.map Prod.snd)) : Sm (n + 1) (.dct ks) := fun S n0 f k => by
  cases f with
  | zero => omega
  | succ f =>
    rw [frzW]
    rw [h S n0 f (by omega), Option.map_some, zip_fst_snd]
theorem sm_obj {n : Nat} {c : Str} {fs : List (Str × W)} (h : SmL n (fs.map Prod.snd)) : Sm (n + 1) (.obj c fs) := fun S n0 f k => by
  cases f with
  | zero => omega
  | succ f =>
    rw [frzW]
    rw [h S n0 f (by omega), Option.map_some, zip_fst_snd]
end Mi

set_option Elab.async false
set_option linter.all false
set_option maxRecDepth 100000
set_option maxHeartbeats 4000000
/-! Ma19: derivations: what a body comes to over a store of which only some cells are known. -/
noncomputable section
namespace Mi
open PySem PySem.Spec PyProof.Rows L2
/-! ### stores that stay as they are -/
def GoodO (o : SO) : Prop := ∀ S n0, frzO S n0 o = some o
def Good (S : Sto) : Prop := ∀ o ∈ S, GoodO o
theorem frzS_good {S' : Sto} {n0 : Nat} : ∀ {S : Sto}, Good S → frzS S' n0 S = some S
  | [], _ => rfl
  | o :: r, g => by
    rw [frzS, g o (List.mem_cons_self ..), frzS_good fun x hx => g x (List.mem_cons_of_mem _ hx)]
theorem Good.nil : Good [] := fun _ h => nomatch h
theorem Good.cons {o : SO} {S : Sto} (h : GoodO o) (g : Good S) : Good (o :: S) := fun x hx => by
  rcases List.mem_cons.mp hx with e | e
  · rw [e]; exact h
  · exact g x e
theorem Good.app {S T : Sto} (a : Good S) (b : Good T) : Good (S ++ T) := fun o h => (List.mem_append.mp h).elim (a o) (b o)
theorem Good.snoc {S : Sto} {o : SO} (a : Good S) (b : GoodO o) : Good (S ++ [o]) := a.app (Good.nil.cons b)
theorem Good.set {S : Sto} {o : SO} {n : Nat} (a : Good S) (b : GoodO o) : Good (S.set n o) := fun x hx => by
  rcases List.mem_or_eq_of_mem_set hx with e | e
  · exact a x e
  · rw [e]; exact b
theorem exit_app {S : Sto} {L : List SO} {w w' : W} (g : Good S) (hL : L ≠ []) (h : frzW (S ++ L) S.length 100000 w = some w') : exitW S.length w (S ++ L) = .ok w' S := by
  unfold exitW
  have hn : ¬ (S ++ L).length = S.length := by
    rw [List.length_append]
    cases L with
    | nil => exact absurd rfl hL
    | cons a l => simp
  rw [if_neg hn, h, show (S ++ L).take S.length = S by simp, frzS_good g]
theorem frzs_strs {S : Sto} {n0 : Nat} : ∀ (xs : List Str) (f : Nat), xs.length < f → frzs S n0 f (xs.map W.str) = some (xs.map W.str)
  | [], f + 1, _ => rfl
  | x :: r, f + 1, h => by
    rw [List.length_cons] at h
    cases f with
    | zero => omega
    | succ f =>
      rw [List.map_cons, frzs, frzs_strs r (f + 1) (by omega)]
      rfl
  | _, 0, h => by omega
theorem good_strs {xs : List Str} (h : xs.length < 100000) : GoodO (.lst (xs.map W.str)) := fun S n0 => by
  show (frzs S n0 100000 (xs.map W.str)).map SO.lst = _
  rw [frzs_strs xs _ h]
  rfl
theorem good_draw {ns : List Int} {n : Int} : GoodO (drawO ns n) := fun S n0 => rfl
/-- a cell of texts, frozen -/
theorem frz_cell {S : Sto} {n0 n : Nat} {xs : List Str} (h : S[n]? = some (.lst (xs.map W.str))) (hn : n0 ≤ n) (hl : xs.length < 99999) : frzW S n0 100000 (.ref n) = some (.lst (xs.map W.str)) := by
  show (if n < n0 then some (W.ref n) else (match S[n]? with
      | some (.lst ws) => (frzs S n0 99999 ws).map W.lst
      | some (.ins c fs) => (frzs S n0 99999 (fs.map Prod.snd)).map fun ws => W.obj c ((fs.map Prod.fst).zip ws)
      | some (.dct ks) => (frzs S n0 99999 (ks.map Prod.snd)).map fun ws => W.dct ((ks.map Prod.fst).zip ws)
      | some (.imd ks) => (frzs S n0 99999 (ks.map Prod.snd)).map fun ws => W.dct ((ks.map Prod.fst).zip ws)
      | some (.lck _) => none
      | some (.kd _ _) => none
      | none => none)) = _
  rw [if_neg (by omega), h]
  show (frzs S n0 99999 (xs.map W.str)).map W.lst = _
  rw [frzs_strs xs _ hl]
  rfl
/-- an object, frozen -/
theorem frz_ins {S : Sto} {n0 n : Nat} {c : Str} {fs : List (Str × W)} (h : S[n]? = some (.ins c fs)) (hn : n0 ≤ n) (hz : ∀ S n0, frzs S n0 99999 (fs.map Prod.snd) = some (fs.map Prod.snd)) : frzW S n0 100000 (.ref n) = some (.obj c fs) := by
  show frzW S n0 (99999 + 1) (.ref n) = _
  rw [frzW, if_neg (by omega), h]
  dsimp only
  rw [hz, Option.map_some, zip_fst_snd]
theorem frz_dct {S : Sto} {n0 n f : Nat} {ks : List (Key × W)} {ws : List W} (h : S[n]? = some (.dct ks)) (hn : n0 ≤ n) (hz : frzs S n0 f (ks.map Prod.snd) = some ws) : frzW S n0 (f + 1) (.ref n) = some (.dct ((ks.map Prod.fst).zip ws)) := by
  rw [frzW, if_neg (by omega), h]
  dsimp only
  rw [hz, Option.map_some]
/-! ### cells -/
theorem get_new {S : Sto} {o : SO} : (S ++ [o])[S.length]? = some o := by simp
theorem get_app {S L : Sto} {n : Nat} {o : SO} (h : S[n]? = some o) : (S ++ L)[n]? = some o := by
  rw [List.getElem?_append_left (List.getElem?_eq_some_iff.mp h).1]
  exact h
theorem set_new {S : Sto} {o o' : SO} : (S ++ [o]).set S.length o' = S ++ [o'] := by simp
theorem set_app {S L : Sto} {n : Nat} {o : SO} (h : n < S.length) : (S ++ L).set n o = S.set n o ++ L := by
  rw [List.set_append_left _ _ h]
theorem get_lt {S : Sto} {n : Nat} {o : SO} (h : S[n]? = some o) : n < S.length := (List.getElem?_eq_some_iff.mp h).1
theorem get_set {S : Sto} {n : Nat} {o o' : SO} (h : S[n]? = some o) : (S.set n o')[n]? = some o' := List.getElem?_set_self (get_lt h)
theorem seqL_cell {S : Sto} {n : Nat} {ws : List W} (h : S[n]? = some (.lst ws)) : seqL S (.ref n) = some ws := by
  unfold seqL
  dsimp only
  rw [h]
theorem lstE_cell {S : Sto} {n : Nat} {ws : List W} (h : S[n]? = some (.lst ws)) : lstE S (.ref n) = some ws := by
  unfold lstE
  dsimp only
  rw [h]
theorem objS_cell {S : Sto} {n : Nat} {ws : List W} (h : S[n]? = some (.lst ws)) : objS S (.ref n) = none := by
  unfold objS
  dsimp only
  rw [h]
mutual
theorem eqF_refl_s : ∀ (f : Nat) (x : Str), eqF (f + 1) (.str x) (.str x) = true := fun f x => eqStr_iff.mpr rfl
end
theorem eqFs_strs : ∀ (xs : List Str) (f : Nat), xs.length < f → eqFs f (xs.map W.str) (xs.map W.str) = true
  | [], f + 1, _ => rfl
  | x :: r, f + 1, h => by
    rw [List.length_cons] at h
    cases f with
    | zero => omega
    | succ f =>
      rw [List.map_cons, eqFs, eqFs_strs r (f + 1) (by omega), eqF_refl_s]
      rfl
  | _, 0, h => by omega
theorem sameL_strs {S : Sto} {n : Nat} {xs : List Str} (h : S[n]? = some (.lst (xs.map W.str))) (hl : xs.length < 100000) : sameL n (xs.map W.str) S = true := by
  unfold sameL
  rw [h]
  exact eqFs_strs xs _ hl
/-! ### calls -/
section
variable {mir : Str → Option Mir} {d : Nat} {f : Str} {M : Mir} {ws : List W} {S S' : Sto} {w w' : W} {env : Env'}
theorem call_v (hf : mir f = some M) (hl : ws.length = M.P) (hk : M.keep = false) (h : seqC (M.c (cdC mir d)) (startE M.N ws) S = .ok (.ret w) S) : cdC mir (d + 1) f ws S = .ok w S := by
  rw [cdC_of hf hl hk, h]
  exact exitR_ret
theorem call_n (hf : mir f = some M) (hl : ws.length = M.P) (hk : M.keep = false) (h : seqC (M.c (cdC mir d)) (startE M.N ws) S = .ok (.next env) S') (hS : S'.length = S.length) : cdC mir (d + 1) f ws S = .ok .non S' := by
  rw [cdC_of hf hl hk, h]
  show exitW S.length .non S' = _
  exact if_pos hS
theorem call_w (hf : mir f = some M) (hl : ws.length = M.P) (hk : M.keep = false) (h : seqC (M.c (cdC mir d)) (startE M.N ws) S = .ok (.ret w) S') (hS : S'.length = S.length) : cdC mir (d + 1) f ws S = .ok w S' := by
  rw [cdC_of hf hl hk, h]
  show exitW S.length w S' = _
  exact if_pos hS
theorem call_x {L : List SO} (hf : mir f = some M) (hl : ws.length = M.P) (hk : M.keep = false) (h : seqC (M.c (cdC mir d)) (startE M.N ws) S = .ok (.ret w) (S ++ L)) (g : Good S) (hL : L ≠ []) (hz : frzW (S ++ L) S.length 100000 w = some w') : cdC mir (d + 1) f ws S = .ok w' S := by
  rw [cdC_of hf hl hk, h]
  exact exit_app g hL hz
theorem call_k (hf : mir f = some M) (hl : ws.length = M.P) (hk : M.keep = true) (h : seqC (M.c (cdC mir d)) (startE M.N ws) S = .ok (.ret w) S') : cdC mir (d + 1) f ws S = .ok w S' := by
  rw [cdC_keep hf hl hk, h]
  rfl
end
/-! ### rules -/
section
variable {cl : Cl} {pg : Pg} {env env1 : Env'} {S S1 S2 S3 : Sto}
theorem xOr_t {a b : CE} {r : List CE} (h : a env S = .ok (.bl true) S1) : xBool .Or (a :: b :: r) env S = .ok (.bl true) S1 := by
  rw [xBool, h]
  rfl
theorem xOr_f {a b : CE} {r : List CE} {q : R W} (h : a env S = .ok (.bl false) S1) (h2 : xBool .Or (b :: r) env S1 = q) : xBool .Or (a :: b :: r) env S = q := by
  rw [xBool, h, ← h2]
  rfl
theorem xAnd_f {a b : CE} {r : List CE} (h : a env S = .ok (.bl false) S1) : xBool .And (a :: b :: r) env S = .ok (.bl false) S1 := by
  rw [xBool, h]
  rfl
theorem xAnd_t {a b : CE} {r : List CE} {q : R W} (h : a env S = .ok (.bl true) S1) (h2 : xBool .And (b :: r) env S1 = q) : xBool .And (a :: b :: r) env S = q := by
  rw [xBool, h, ← h2]
  rfl
theorem cOr_t {a b : CT} {r : List CT} (h : a env S = .ok true S1) : cBool .Or (a :: b :: r) env S = .ok true S1 := by
  rw [cBool, h]
  rfl
theorem cOr_f {a b : CT} {r : List CT} {q : R Bool} (h : a env S = .ok false S1) (h2 : cBool .Or (b :: r) env S1 = q) : cBool .Or (a :: b :: r) env S = q := by
  rw [cBool, h, ← h2]
  rfl
theorem cAnd_f {a b : CT} {r : List CT} (h : a env S = .ok false S1) : cBool .And (a :: b :: r) env S = .ok false S1 := by
  rw [cBool, h]
  rfl
theorem cAnd_t {a b : CT} {r : List CT} {q : R Bool} (h : a env S = .ok true S1) (h2 : cBool .And (b :: r) env S1 = q) : cBool .And (a :: b :: r) env S = q := by
  rw [cBool, h, ← h2]
  rfl
theorem xTup_ok {cs : List CE} {ws : List W} (h : mapC cs env S = .ok ws S1) (hs : small ws.length = true) : xTup cs env S = .ok (.tup ws) S1 := by
  unfold xTup
  rw [h, bind_ok, hs]
  rfl
theorem xLst_ok {cs : List CE} {ws : List W} (h : mapC cs env S = .ok ws S1) (hs : small ws.length = true) : xLst cs env S = .ok (.lst ws) S1 := by
  unfold xLst
  rw [h, bind_ok, hs]
  rfl
theorem xCell_ok {cs : List CE} {ws : List W} (h : mapC cs env S = .ok ws S1) (hs : small ws.length = true) : xCell cs env S = .ok (.ref S1.length) (S1 ++ [SO.lst ws]) := by
  unfold xCell
  rw [h, bind_ok, hs]
  rfl
theorem xCellA_ok {a b : CE} {x y : W} {xs ys : List W} (h1 : a env S = .ok x S1) (h2 : b env S1 = .ok y S2) (hx : lstE S2 x = some xs) (hy : lstE S2 y = some ys) (hs : small (xs.length + ys.length) = true) : xCellA a b env S = .ok (.ref S2.length) (S2 ++ [SO.lst (xs ++ ys)]) := by
  unfold xCellA
  rw [h1, bind_ok, h2, bind_ok, hx, hy]
  dsimp only
  rw [hs]
  rfl
theorem mapSC_f {c : CE} {cs : List (Bool × CE)} {w : W} {ws : List W} (h : c env S = .ok w S1) (h2 : mapSC cs env S1 = .ok ws S2) : mapSC ((false, c) :: cs) env S = .ok (w :: ws) S2 := by
  rw [mapSC, h, bind_ok, h2]
  rfl
theorem mapSC_t {c : CE} {cs : List (Bool × CE)} {w : W} {xs ws : List W} (h : c env S = .ok w S1) (hs : (seqL S1 w).orElse (fun _ => seqT w) = some xs) (h2 : mapSC cs env S1 = .ok ws S2) : mapSC ((true, c) :: cs) env S = .ok (xs ++ ws) S2 := by
  rw [mapSC, h, bind_ok, hs]
  dsimp only
  rw [h2]
  rfl
theorem mapSC_nil : mapSC [] env S = .ok [] S := rfl
theorem xLstS_ok {cs : List (Bool × CE)} {ws : List W} (h : mapSC cs env S = .ok ws S1) (hs : ws.length ≤ 100000) : xLstS cs env S = .ok (.lst ws) S1 := by
  unfold xLstS
  rw [h, bind_ok, show small ws.length = true from decide_eq_true hs]
  rfl
theorem app_ok {o a : CE} {n : Nat} {ws ws2 : List W} {y : W} (ho : o env S = .ok (.ref n) S1) (hn : S1[n]? = some (.lst ws)) (ha : a env S1 = .ok y S2) (hn2 : S2[n]? = some (.lst ws2)) (hs : small (ws2.length + 1) = true) : xMeth1 pg cl o "append" a env S = .ok .non (S2.set n (.lst (ws2 ++ [y]))) := by
  unfold xMeth1 xMeth
  rw [ho, noExc_ok, bind_ok, objS_cell hn]
  show mB1 "append" a env S1 (.ref n) = _
  unfold mB1
  dsimp only
  rw [seqL_cell hn]
  show (mapC [a] env S1).bind _ = _
  rw [mapC, ha, bind_ok]
  show (match bmeth S2 "append" (.ref n) [y] with
    | some (w, S3) => R.ok w S3
    | none => .bad) = _
  have e : bmeth S2 "append" (.ref n) [y] = some (.non, S2.set n (.lst (ws2 ++ [y]))) := by
    unfold bmeth
    dsimp only
    rw [if_pos rfl, hn2]
    exact if_pos hs
  rw [e]
theorem sAug_l {i n : Nat} {e : CE} {w : W} {xs ys : List W} (hv : env[i]? = some (some (.ref n))) (he : e env S = .ok w S1) (hn : S1[n]? = some (.lst xs)) (hw : lstE S1 w = some ys) (hs : small (xs.length + ys.length) = true) : sAug i e env S = .ok (.next (env.set i (some (.ref n)))) (S1.set n (.lst (xs ++ ys))) := by
  unfold sAug
  rw [hv]
  dsimp only
  rw [he, bind_ok, hn, hw]
  dsimp only
  rw [hs]
  rfl
theorem sSw2_ok {i j : Nat} {a b : CE} {v w : W} (h1 : a env S = .ok v S1) (h2 : b env S1 = .ok w S2) : sSw2 i j a b env S = .ok (.next ((env.set i (some v)).set j (some w))) S2 := by
  unfold sSw2
  rw [h1, bind_ok, h2]
  rfl
theorem sSetT_ok {ix : List Nat} {e : CE} {ws : List W} {env1 : Env'} (h : e env S = .ok (.tup ws) S1) (h2 : bindIx ix ws env = some env1) : sSetT ix e env S = .ok (.next env1) S1 := by
  unfold sSetT
  rw [h, bind_ok]
  show (match bindIx ix ws env with
    | some env1 => R.ok (Out'.next env1) S1
    | none => .bad) = _
  rw [h2]
theorem sAtt_ok {o e : CE} {f c : Str} {n : Nat} {y : W} {fs : List (Str × W)} (h1 : e env S = .ok y S1) (h2 : o env S1 = .ok (.ref n) S2) (hn : S2[n]? = some (.ins c fs)) (hf : (pg.fld c f && decide (fs.length < 1000)) = true) : sAtt pg o f e env S = .ok (.next env) (S2.set n (SO.ins c (putW f y fs))) := by
  unfold sAtt
  rw [h1, bind_ok, h2, bind_ok]
  dsimp only
  rw [hn]
  dsimp only
  rw [hf]
  rfl
theorem sSub_l {o i e : CE} {n j : Nat} {k : Int} {y : W} {ws : List W} (h1 : e env S = .ok y S1) (h2 : o env S1 = .ok (.ref n) S2) (h3 : i env S2 = .ok (.int k) S3) (hn : S3[n]? = some (.lst ws)) (hj : ixN ws.length k = some j) : sSub o i e env S = .ok (.next env) (S3.set n (SO.lst (ws.set j y))) := by
  unfold sSub
  rw [h1, bind_ok, h2, bind_ok, h3, bind_ok]
  dsimp only
  rw [hn]
  dsimp only
  rw [hj]
theorem xAt_ok {o : CE} {f c : Str} {fs : List (Str × W)} {x w : W} (h : o env S = .ok x S1) (ho : objS S1 x = some (c, fs)) (hf : pg.fld c f = true) (hl : fs.lookup f = some w) : xAt pg o f env S = .ok w S1 := by
  unfold xAt
  rw [h, bind_ok, ho]
  dsimp only
  rw [hf, hl]
  rfl
theorem xMk_ok {c i : Str} {n : Nat} {dws : List W} {args : List CE} {ws : List W} {fs : List (Str × W)} (h : mapC args env S = .ok ws S1) (hn : (ws ++ dws).length = n) (hc : cl i (.ref S1.length :: (ws ++ dws)) (S1 ++ [SO.ins c []]) = .ok .non (S1 ++ [SO.ins c fs])) (g : Good S1) (hz : ∀ S n0, frzs S n0 99999 (fs.map Prod.snd) = some (fs.map Prod.snd)) : xMk cl c i n true dws args env S = .ok (.obj c fs) S1 := by
  unfold xMk
  rw [h, bind_ok, decide_eq_true hn, guard_true, hc]
  show exitW S1.length (.ref S1.length) (S1 ++ [SO.ins c fs]) = _
  exact exit_app g (by simp) (frz_ins get_new (Nat.le_refl _) hz)
/-! ### comprehensions -/
theorem lcR_fm {step : W → Sto → R (Option W)} {f : W → Option W} {chk : Sto → Bool} (hc : chk S = true) : ∀ (items acc : List W), acc.length + items.length ≤ 100000 → (∀ w ∈ items, step w S = .ok (f w) S) → lcR false step chk items acc S = .ok (.lst (acc ++ items.filterMap f)) S
  | [], acc, hl, h => by
    rw [lcR, hc, List.filterMap_nil, List.append_nil]
    rfl
  | w :: ws, acc, hl, h => by
    rw [List.length_cons] at hl
    rw [lcR, hc, h w (List.mem_cons_self ..)]
    cases q : f w with
    | none =>
      show lcR false step chk ws acc S = _
      rw [lcR_fm hc ws _ (by omega) fun w' z => h w' (List.mem_cons_of_mem _ z), List.filterMap_cons, q]
    | some y =>
      show guard' (decide (acc.length + 1 ≤ 100000)) (lcR false step chk ws (acc ++ [y]) S) = _
      rw [decide_eq_true (by omega), guard_true, lcR_fm hc ws _ (by simp; omega) fun w' z => h w' (List.mem_cons_of_mem _ z), List.filterMap_cons, q]
      simp
theorem stepC_n {bnd : Bnd} {vs : List Nat} {elt : CE} {w y : W} (hb : bnd w (wipeE env vs) = some env1) (he : elt env1 S = .ok y S) : stepC bnd vs none elt env w S = .ok (some y) S := by
  unfold stepC
  rw [hb]
  dsimp only
  rw [he]
  rfl
theorem stepC_t {bnd : Bnd} {vs : List Nat} {elt : CE} {c : CT} {w y : W} (hb : bnd w (wipeE env vs) = some env1) (hc : c env1 S = .ok true S) (he : elt env1 S = .ok y S) : stepC bnd vs (some c) elt env w S = .ok (some y) S := by
  unfold stepC
  rw [hb]
  dsimp only
  rw [hc]
  show (noExc (elt env1 S)).bind _ = _
  rw [he]
  rfl
theorem stepC_f {bnd : Bnd} {vs : List Nat} {elt : CE} {c : CT} {w : W} (hb : bnd w (wipeE env vs) = some env1) (hc : c env1 S = .ok false S) : stepC bnd vs (some c) elt env w S = .ok none S := by
  unfold stepC
  rw [hb]
  dsimp only
  rw [hc]
  rfl
/-- over what never changes; the plain comprehension -/
theorem lcF_ok {bnd : Bnd} {vs : List Nat} {iter : CI} {c : Option CT} {elt : CE} {items : List W} (f : W → Option W) (hi : iter env S = .ok (still items) S1) (hl : items.length ≤ 100000) (he : ∀ w ∈ items, stepC bnd vs c elt env w S1 = .ok (f w) S1) : xLcF false bnd vs iter c elt env S = .ok (.lst (items.filterMap f)) S1 := by
  unfold xLcF
  rw [hi, bind_ok]
  show lcR false _ (fun _ => true) items [] S1 = _
  rw [lcR_fm (f := f) rfl items [] (by simpa using hl) he, List.nil_append]
theorem ldD_ok {k : Nat} {p : CP} {bnd : Bnd} {vs : List Nat} {iter : CI} {c : Option CT} {elt : CE} {items : List W} (f : W → Option W) (hd : dWalkC k p env S = none) (hi : iter env S = .ok (still items) S1) (hl : items.length ≤ 100000) (he : ∀ w ∈ items, stepC bnd vs c elt env w S1 = .ok (f w) S1) : xLcD k p bnd vs iter c elt env S = .ok (.lst (items.filterMap f)) S1 := by
  unfold xLcD
  rw [hd]
  dsimp only
  rw [hi, bind_ok]
  show lcR false _ (fun _ => true) items [] S1 = _
  rw [lcR_fm (f := f) rfl items [] (by simpa using hl) he, List.nil_append]
/-- .. that becomes a cell -/
theorem lcR_fmC {step : W → Sto → R (Option W)} {f : W → Option W} {chk : Sto → Bool} (hc : chk S = true) : ∀ (items acc : List W), acc.length + items.length ≤ 100000 → (∀ w ∈ items, step w S = .ok (f w) S) → lcR true step chk items acc S = .ok (.ref S.length) (S ++ [SO.lst (acc ++ items.filterMap f)])
  | [], acc, hl, h => by
    rw [lcR, hc, List.filterMap_nil, List.append_nil]
    rfl
  | w :: ws, acc, hl, h => by
    rw [List.length_cons] at hl
    rw [lcR, hc, h w (List.mem_cons_self ..)]
    cases q : f w with
    | none =>
      show lcR true step chk ws acc S = _
      rw [lcR_fmC hc ws _ (by omega) fun w' z => h w' (List.mem_cons_of_mem _ z), List.filterMap_cons, q]
    | some y =>
      show guard' (decide (acc.length + 1 ≤ 100000)) (lcR true step chk ws (acc ++ [y]) S) = _
      rw [decide_eq_true (by omega), guard_true, lcR_fmC hc ws _ (by simp; omega) fun w' z => h w' (List.mem_cons_of_mem _ z), List.filterMap_cons, q]
      simp
theorem lcC_ok {bnd : Bnd} {vs : List Nat} {iter : CI} {c : Option CT} {elt : CE} {items : List W} (f : W → Option W) (hi : iter env S = .ok (still items) S1) (hl : items.length ≤ 100000) (he : ∀ w ∈ items, stepC bnd vs c elt env w S1 = .ok (f w) S1) : xLcF true bnd vs iter c elt env S = .ok (.ref S1.length) (S1 ++ [SO.lst (items.filterMap f)]) := by
  unfold xLcF
  rw [hi, bind_ok]
  show lcR true _ (fun _ => true) items [] S1 = _
  rw [lcR_fmC (f := f) rfl items [] (by simpa using hl) he, List.nil_append]
theorem iOf_ok {a : CE} {w : W} {ws : List W} (h : a env S = .ok w S1) (hw : walkW w S1 = .ok (still ws) S1) : iOf a env S = .ok (still ws) S1 := by
  unfold iOf
  rw [h]
  exact hw
/-! ### loops -/
theorem for_ok {body : Env' → Sto → R Out'} {bnd : Bnd} {chk : Sto → Bool} (I : List W → Env' → Sto → Prop) (hc : ∀ ws env S, I ws env S → chk S = true)
    (h1 : ∀ w ws env S, I (w :: ws) env S → ∃ e1 e2 S2, bnd w env = some e1 ∧ body e1 S = .ok (.next e2) S2 ∧ I ws e2 S2) : ∀ items env S, I items env S → ∃ env' S', forR body bnd chk items env S = .ok (.next env') S' ∧ I [] env' S'
  | [], env, S, i => ⟨env, S, by rw [forR, hc _ _ _ i]; rfl, i⟩
  | w :: ws, env, S, i => by
    obtain ⟨e1, e2, S2, h2, h3, h4⟩ := h1 w ws env S i
    obtain ⟨env', S', h5, h6⟩ := for_ok I hc h1 ws e2 S2 h4
    refine ⟨env', S', ?_, h6⟩
    rw [forR, hc _ _ _ i, h2]
    show (body e1 S).bind _ = _
    rw [h3]
    exact h5
theorem sForD_ok {k : Nat} {p : CP} {bnd : Bnd} {iter : CI} {body : List CS} {items : Itm} {r : R Out'} (hd : dWalkC k p env S = none) (h : iter env S = .ok items S1) (h2 : forR (fun env S => seqC body env S) bnd items.2 items.1 env S1 = r) : sForD k p bnd iter body env S = r := by
  unfold sForD
  rw [hd]
  dsimp only
  rw [h]
  exact h2
end
theorem len_app (a b : Str) : (appS a b).length = a.length + b.length := by
  show (appS a b).cps.size = a.cps.size + b.cps.size
  unfold appS
  simp
theorem add_ok {S : Sto} {a b : Str} (h : a.length + b.length ≤ 100000) : binop S .Add (.str a) (.str b) = some (.str (appS a b)) := if_pos (decide_eq_true h)
theorem cat_ok {S : Sto} {a b : List W} (h : a.length + b.length ≤ 100000) : binop S .Add (.lst a) (.lst b) = some (.lst (a ++ b)) := if_pos (decide_eq_true h)
theorem app_nil (a : Str) : appS a "" = a := by
  unfold appS
  rw [show ("" : Str).cps.toList = [] from rfl, List.append_nil]
theorem nil_app (a : Str) : appS "" a = a := by
  unfold appS
  rw [show ("" : Str).cps.toList = [] from rfl, List.nil_append]
theorem app_assoc (a b c : Str) : appS (appS a b) c = appS a (appS b c) := by
  unfold appS
  simp
/-! ### an empty list, or not -/
theorem toDs_strs : ∀ xs : List Str, toDs (xs.map W.str) = some (xs.map PyData.str)
  | [] => rfl
  | n :: r => by
    rw [List.map_cons, toDs, toDs_strs r]
    rfl
/-- a text of signs that there are -/
def okSt (x : Str) : Bool := x.cps.toList.all fun c => decide (c < 0x110000)
theorem okSt_strOk (x : Str) : PyData.strOk x = okSt x := by
  unfold PyData.strOk okSt
  obtain ⟨⟨l⟩⟩ := x
  simp
theorem okSt_app (a b : Str) : okSt (appS a b) = (okSt a && okSt b) := by
  unfold okSt appS
  simp
theorem lay_strs : ∀ xs : List Str, (∀ x ∈ xs, okSt x = true) → PyData.canLayAll0 (xs.map PyData.str) = true
  | [], _ => rfl
  | n :: r, h => by
    rw [List.map_cons, PyData.canLayAll0, lay_strs r fun x hx => h x (List.mem_cons_of_mem _ hx), PyData.canLay0, okSt_strOk, h n (List.mem_cons_self ..)]
    rfl
theorem depth_strs : ∀ ns : List Str, PyData.depthAll (ns.map PyData.str) ≤ 1
  | [] => by simp [PyData.depthAll]
  | n :: r => by
    have := depth_strs r
    simp [PyData.depthAll, PyData.depth] at *
    omega
theorem shaped_strs {ns : List Str} (h : ∀ x ∈ ns, okSt x = true) : SeqAt.shaped (.list (ns.map PyData.str)) = true := by
  unfold SeqAt.shaped
  have h1 : PyData.canLay0 (.list (ns.map PyData.str)) = true := by rw [PyData.canLay0]; exact lay_strs ns h
  have h2 : PyData.depth (.list (ns.map PyData.str)) ≤ 64 := by
    have := depth_strs ns
    rw [PyData.depth]
    omega
  rw [h1, decide_eq_true h2]
  rfl
theorem eq_nilS (S : Sto) {w : W} {xs : List Str} (hw : scalW w (.lst []) = false) (hq : seqD S w = none) (hd : datS S w = some (.list (xs.map PyData.str))) (hx : ∀ x ∈ xs, okSt x = true) : eqS S w (.lst []) = some xs.isEmpty := by
  have h2 : datS S (.lst []) = some (.list []) := rfl
  unfold eqS
  rw [hq]
  dsimp only
  unfold eqS0
  rw [hw, hd, h2]
  dsimp only
  rw [if_neg (by simp), if_pos ⟨shaped_strs hx, shaped_strs (ns := []) fun _ h => nomatch h⟩]
  cases xs with
  | nil => rfl
  | cons n r => rfl
theorem eq_nil_v (S : Sto) {xs : List Str} (hx : ∀ x ∈ xs, okSt x = true) : eqS S (.lst (xs.map W.str)) (.lst []) = some xs.isEmpty := eq_nilS S rfl rfl (by
  show toD (.lst (xs.map W.str)) = _
  rw [toD, toDs_strs]
  rfl) hx
theorem eq_nil_c {S : Sto} {n : Nat} {xs : List Str} (h : S[n]? = some (.lst (xs.map W.str))) (hx : ∀ x ∈ xs, okSt x = true) : eqS S (.ref n) (.lst []) = some xs.isEmpty := eq_nilS S rfl (seqD_cell h) (by
  unfold datS
  dsimp only
  rw [h]
  dsimp only
  rw [toDs_strs]
  rfl) hx
end Mi

set_option Elab.async false
set_option linter.all false
set_option maxRecDepth 100000
set_option maxHeartbeats 4000000
/-! Ma22: what == answers over data and objects (for the laws' own parts). -/
noncomputable section
namespace Mi
open PySem PySem.Spec PyProof.Rows L2
/-- o answers whether P -/
def Ans (o : Option Bool) (P : Prop) : Prop := ∃ b, o = some b ∧ (b = true ↔ P)
section
variable {o : Option Bool} {P Q : Prop} {f : W → W → Option Bool} {x y : W} {xs ys : List W} {q : Str → Str → Bool} {cl : Str → List W → Sto → R W} {n : Nat}
theorem Ans.iff (h : Ans o P) (e : P ↔ Q) : Ans o Q := let ⟨b, h1, h2⟩ := h; ⟨b, h1, h2.trans e⟩
theorem Ans.yes (h : Ans o P) (p : P) : o = some true := by
  obtain ⟨b, h1, h2⟩ := h
  rw [h1, h2.mpr p]
theorem Ans.no (h : Ans o P) (p : ¬ P) : o = some false := by
  obtain ⟨b, h1, h2⟩ := h
  cases b with
  | false => exact h1
  | true => exact absurd (h2.mp rfl) p
theorem Ans.tt (p : P) : Ans (some true) P := ⟨true, rfl, fun _ => p, fun _ => rfl⟩
theorem Ans.ff (p : ¬ P) : Ans (some false) P := ⟨false, rfl, fun h => Bool.noConfusion h, fun h => absurd h p⟩
/-- None, whole numbers, texts -/
def lfW : W → Bool
  | .non => true
  | .int _ => true
  | .str _ => true
  | _ => false
theorem lf_eq (hx : lfW x = true) (hy : lfW y = true) : scalW x y = true ∧ (eqW x y = true ↔ x = y) := by
  cases x <;> first | (cases hx; done) | skip
  all_goals cases y <;> first | (cases hy; done) | skip
  all_goals refine ⟨rfl, ?_⟩
  all_goals first
    | exact ⟨fun _ => rfl, fun _ => rfl⟩
    | exact ⟨fun h => Bool.noConfusion h, fun h => W.noConfusion h⟩
    | (show (_ == _) = true ↔ _; simp)
    | (rename_i a b; show eqStr a b = true ↔ _; rw [show eqStr a b = (a == b) from (eqStr_beq a b).symm]; simp)
theorem itm_lf (hx : lfW x = true) (hy : lfW y = true) : Ans (itmX f x y) (x = y) := by
  obtain ⟨h1, h2⟩ := lf_eq hx hy
  unfold itmX
  rw [if_pos h1]
  exact ⟨_, rfl, h2⟩
theorem eqL_nil : Ans (eqL f [] []) (([] : List W) = []) := .tt rfl
theorem eqL_n : Ans (eqL f [] (y :: ys)) ([] = y :: ys) := .ff fun h => nomatch h
theorem eqL_c : Ans (eqL f (x :: xs) []) (x :: xs = []) := .ff fun h => nomatch h
theorem eqL_cons (h : Ans (f x y) (x = y)) (r : x = y → Ans (eqL f xs ys) (xs = ys)) : Ans (eqL f (x :: xs) (y :: ys)) (x :: xs = y :: ys) := by
  rw [eqL]
  by_cases e : x = y
  · rw [h.yes e]
    exact (r e).iff ⟨fun z => by rw [e, z], fun z => by injection z⟩
  · rw [h.no e]
    exact .ff fun z => e (by injection z)
theorem eqL_map {α : Type} {e : α → W} : ∀ {as bs : List α}, (∀ a ∈ as, ∀ b ∈ bs, Ans (f (e a) (e b)) (e a = e b)) → Ans (eqL f (as.map e) (bs.map e)) (as.map e = bs.map e)
  | [], [], _ => eqL_nil
  | [], _ :: _, _ => eqL_n
  | _ :: _, [], _ => eqL_c
  | a :: as, b :: bs, h => eqL_cons (h a (List.mem_cons_self ..) b (List.mem_cons_self ..)) fun _ => eqL_map fun a' ha b' hb => h a' (List.mem_cons_of_mem _ ha) b' (List.mem_cons_of_mem _ hb)
/-! ### surely two -/
/-- where the two are not equal it shows -/
def Df (n : Nat) (x y : W) : Prop := x ≠ y → difW n x y = true
def DfL (f : W → W → Bool) (xs ys : List W) : Prop := xs ≠ ys → difL f xs ys = true
theorem df_lf (hx : lfW x = true) (hy : lfW y = true) : Df (n + 1) x y := by
  intro h
  cases x <;> first | (cases hx; done) | skip
  all_goals cases y <;> first | (cases hy; done) | skip
  all_goals first
    | exact absurd rfl h
    | rfl
    | (rename_i a b; show (a != b) = true; simpa using h)
    | (rename_i a b; show (!eqStr a b) = true; rw [show eqStr a b = (a == b) from (eqStr_beq a b).symm]; simpa using h)
theorem dfL_nil {g : W → W → Bool} : DfL g [] [] := fun h => absurd rfl h
theorem dfL_n {g : W → W → Bool} : DfL g [] (y :: ys) := fun _ => rfl
theorem dfL_c {g : W → W → Bool} : DfL g (x :: xs) [] := fun _ => rfl
theorem dfL_cons {g : W → W → Bool} (h : x ≠ y → g x y = true) (r : DfL g xs ys) : DfL g (x :: xs) (y :: ys) := fun e => by
  rw [difL]
  by_cases z : x = y
  · rw [r fun z2 => e (by rw [z, z2]), Bool.or_true]
  · rw [h z, Bool.true_or]
theorem dfL_map {α : Type} {e : α → W} {g : W → W → Bool} : ∀ {as bs : List α}, (∀ a ∈ as, ∀ b ∈ bs, e a ≠ e b → g (e a) (e b) = true) → DfL g (as.map e) (bs.map e)
  | [], [], _ => dfL_nil
  | [], _ :: _, _ => dfL_n
  | _ :: _, [], _ => dfL_c
  | a :: as, b :: bs, h => dfL_cons (h a (List.mem_cons_self ..) b (List.mem_cons_self ..)) (dfL_map fun a' ha b' hb => h a' (List.mem_cons_of_mem _ ha) b' (List.mem_cons_of_mem _ hb))
theorem df_tup (h : DfL (difW n) xs ys) : Df (n + 1) (.tup xs) (.tup ys) := fun e => h fun z => e (by rw [z])
theorem df_lst (h : DfL (difW n) xs ys) : Df (n + 1) (.lst xs) (.lst ys) := fun e => h fun z => e (by rw [z])
theorem pairs_ext {κ β : Type} : ∀ {fs gs : List (κ × β)}, fs.map Prod.fst = gs.map Prod.fst → fs.map Prod.snd = gs.map Prod.snd → fs = gs
  | [], [], _, _ => rfl
  | [], _ :: _, h, _ => by cases h
  | _ :: _, [], h, _ => by cases h
  | (a, b) :: fs, (c, d) :: gs, h, h' => by
    injection h with h1 h2
    injection h' with h3 h4
    have h1 : a = c := h1
    have h3 : b = d := h3
    rw [h1, h3, pairs_ext h2 h4]
theorem df_obj {c : Str} {fs gs : List (Str × W)} (hn : fs.map Prod.fst = gs.map Prod.fst) (h : DfL (difW n) (fs.map Prod.snd) (gs.map Prod.snd)) : Df (n + 1) (.obj c fs) (.obj c gs) := fun e => h fun z => e (by rw [pairs_ext hn z])
theorem df_dct {ks ls : List (Key × W)} (h : ks.map Prod.fst = ls.map Prod.fst → DfL (difW n) (ks.map Prod.snd) (ls.map Prod.snd)) : Df (n + 1) (.dct ks) (.dct ls) := fun e => by
  show (!decide (ks.map Prod.fst = ls.map Prod.fst) || difL (difW n) _ _) = true
  by_cases k : ks.map Prod.fst = ls.map Prod.fst
  · rw [h k fun z => e (by rw [pairs_ext k z]), Bool.or_true]
  · rw [decide_eq_false k]
    rfl
/-! ### items -/
theorem ref_scal (hx : refW x = true) : scalW x y = false := by
  cases x <;> first | (cases hx; done) | (cases y <;> rfl)
theorem itm_ref (hx : refW x = true) (hy : refW y = true) (h : Ans (f x y) P) (d : ¬ P → difW 50 x y = true) : Ans (itmX f x y) P := by
  obtain ⟨b, h1, h2⟩ := h
  unfold itmX
  rw [if_neg (by rw [ref_scal hx]; exact Bool.false_ne_true), h1]
  refine ⟨b, ?_, h2⟩
  have z : (b || difW 50 x y) = true := by
    cases b with
    | true => rfl
    | false =>
      rw [d fun p => Bool.noConfusion (h2.mpr p)]
      rfl
  show (if (refW x && refW y && (b || difW 50 x y)) = true then some b else none) = some b
  rw [hx, hy, z]
  rfl
theorem itm_tup (h : Ans (eqL (itmX (eqX q cl n)) xs ys) (xs = ys)) (d : Df 50 (.tup xs) (.tup ys)) : Ans (itmX (eqX q cl (n + 1)) (.tup xs) (.tup ys)) (W.tup xs = .tup ys) :=
  itm_ref rfl rfl (by rw [eqX]; exact h.iff ⟨fun z => by rw [z], fun z => by injection z⟩) d
theorem ans_lst (h : xs.length = ys.length → Ans (eqL (itmX (eqX q cl n)) xs ys) (xs = ys)) : Ans (eqX q cl (n + 1) (.lst xs) (.lst ys)) (W.lst xs = .lst ys) := by
  rw [eqX]
  by_cases e : xs.length = ys.length
  · rw [if_pos e]
    exact (h e).iff ⟨fun z => by rw [z], fun z => by injection z⟩
  · rw [if_neg e]
    exact .ff fun z => e (by injection z with z; rw [z])
theorem itm_lst (h : xs.length = ys.length → Ans (eqL (itmX (eqX q cl n)) xs ys) (xs = ys)) (d : Df 50 (.lst xs) (.lst ys)) : Ans (itmX (eqX q cl (n + 1)) (.lst xs) (.lst ys)) (W.lst xs = .lst ys) := itm_ref rfl rfl (ans_lst h) d
/-- dicts: each of the one is in the other -/
theorem eqD_ans {ls : List (Key × W)} : ∀ {ks : List (Key × W)}, (∀ k x y, (k, x) ∈ ks → findK ls k = some y → Ans (f x y) (x = y)) → Ans (eqD f ks ls) (∀ k x, (k, x) ∈ ks → findK ls k = some x)
  | [], _ => .tt fun _ _ h => nomatch h
  | (k, x) :: ks, h => by
    rw [eqD]
    cases e : findK ls k with
    | none =>
      refine .ff fun z => ?_
      have := z k x (List.mem_cons_self ..)
      rw [e] at this
      cases this
    | some y =>
      have a := h k x y (List.mem_cons_self ..) e
      show Ans (match f x y with
        | some true => eqD f ks ls
        | some false => some false
        | none => none) _
      by_cases z : x = y
      · rw [a.yes z]
        refine (eqD_ans (ks := ks) fun k x y hm => h k x y (List.mem_cons_of_mem _ hm)).iff ⟨fun w k' x' hm => ?_, fun w k' x' hm => w k' x' (List.mem_cons_of_mem _ hm)⟩
        rcases List.mem_cons.mp hm with hm | hm
        · cases hm
          rw [e, z]
        · exact w k' x' hm
      · rw [a.no z]
        refine .ff fun w => z ?_
        have := w k x (List.mem_cons_self ..)
        rw [e] at this
        cases this
        rfl
end
/-! ### data, as cmpop sees it -/
/-- data without bools, at most n deep -/
def dt : Nat → W → Bool
  | _, .non => true
  | _, .int _ => true
  | _, .str s => PyData.strOk s
  | n + 1, .tup xs => xs.all (dt n)
  | n + 1, .lst xs => xs.all (dt n)
  | _, _ => false
theorem dts_ok {n : Nat} (h : ∀ x, dt n x = true → ∃ d, toD x = some d ∧ d.canLay0 = true ∧ d.depth ≤ n) : ∀ {xs : List W}, xs.all (dt n) = true → ∃ ds, toDs xs = some ds ∧ PyData.canLayAll0 ds = true ∧ PyData.depthAll ds ≤ n
  | [], _ => ⟨[], rfl, rfl, Nat.zero_le _⟩
  | x :: xs, e => by
    rw [List.all_cons, Bool.and_eq_true] at e
    obtain ⟨d, h1, h2, h3⟩ := h x e.1
    obtain ⟨ds, h4, h5, h6⟩ := dts_ok h e.2
    refine ⟨d :: ds, by rw [toDs, h1, h4], by rw [PyData.canLayAll0, h2, h5]; rfl, ?_⟩
    rw [PyData.depthAll]
    exact Nat.max_le.mpr ⟨h3, h6⟩
theorem dt_ok : ∀ (n : Nat) (x : W), dt n x = true → ∃ d, toD x = some d ∧ d.canLay0 = true ∧ d.depth ≤ n := by
  intro n
  induction n with
  | zero =>
    intro x h
    cases x with
    | non => exact ⟨.none, rfl, rfl, Nat.le_refl _⟩
    | int i => exact ⟨.int i, rfl, rfl, Nat.le_refl _⟩
    | str s => exact ⟨.str s, rfl, h, Nat.le_refl _⟩
    | _ => cases h
  | succ n ih =>
    intro x h
    cases x with
    | non => exact ⟨.none, rfl, rfl, Nat.zero_le _⟩
    | int i => exact ⟨.int i, rfl, rfl, Nat.zero_le _⟩
    | str s => exact ⟨.str s, rfl, h, Nat.zero_le _⟩
    | tup xs =>
      obtain ⟨ds, h1, h2, h3⟩ := dts_ok ih (show xs.all (dt n) = true from h)
      exact ⟨.tuple ds, by rw [toD, h1]; rfl, h2, by rw [PyData.depth]; omega⟩
    | lst xs =>
      obtain ⟨ds, h1, h2, h3⟩ := dts_ok ih (show xs.all (dt n) = true from h)
      exact ⟨.list ds, by rw [toD, h1]; rfl, h2, by rw [PyData.depth]; omega⟩
    | _ => cases h
theorem dts_eqv {n : Nat} (h : ∀ x y d e, dt n x = true → dt n y = true → toD x = some d → toD y = some e → (PyData.eqv d e = true ↔ x = y)) : ∀ {xs ys : List W} {ds es : List PyData}, xs.all (dt n) = true → ys.all (dt n) = true → toDs xs = some ds → toDs ys = some es → (PyData.eqvAll ds es = true ↔ xs = ys)
  | [], [], _, _, _, _, h1, h2 => by
    cases h1; cases h2
    exact ⟨fun _ => rfl, fun _ => rfl⟩
  | [], y :: ys, _, _, _, e2, h1, h2 => by
    rw [List.all_cons, Bool.and_eq_true] at e2
    cases h1
    rw [toDs] at h2
    split at h2
    · cases h2
      exact ⟨fun h => Bool.noConfusion h, fun h => nomatch h⟩
    · cases h2
  | x :: xs, [], _, _, e1, _, h1, h2 => by
    cases h2
    rw [toDs] at h1
    split at h1
    · cases h1
      exact ⟨fun h => Bool.noConfusion h, fun h => nomatch h⟩
    · cases h1
  | x :: xs, y :: ys, _, _, e1, e2, h1, h2 => by
    rw [List.all_cons, Bool.and_eq_true] at e1 e2
    rw [toDs] at h1 h2
    split at h1
    · rename_i d ds q1 q2
      cases h1
      split at h2
      · rename_i e es q3 q4
        cases h2
        have a := h x y d e e1.1 e2.1 q1 q3
        have b := dts_eqv h e1.2 e2.2 q2 q4
        rw [PyData.eqvAll, Bool.and_eq_true, a, b]
        exact ⟨fun z => by rw [z.1, z.2], fun z => by injection z with z1 z2; exact ⟨z1, z2⟩⟩
      · cases h2
    · cases h1
theorem dt_eqv : ∀ (n : Nat) (x y : W) (d e : PyData), dt n x = true → dt n y = true → toD x = some d → toD y = some e → (PyData.eqv d e = true ↔ x = y) := by
  have flat : ∀ {n m : Nat} {x y : W} {d e : PyData}, lfW x = true → dt n y = true → toD x = some d → toD y = some e → (PyData.eqv d e = true ↔ x = y) ∧ (PyData.eqv e d = true ↔ y = x) := by
    intro n m x y d e hx hy h1 h2
    have sp : ∀ {xs : List W} {c : List PyData → PyData} {e : PyData}, (toDs xs).map c = some e → ∃ ds, toDs xs = some ds ∧ e = c ds := fun {xs c e} h => by
      cases q : toDs xs with
      | none => rw [q] at h; cases h
      | some ds => rw [q] at h; cases h; exact ⟨ds, rfl, rfl⟩
    cases x <;> first | (cases hx; done) | skip
    all_goals cases h1
    all_goals cases y <;> first | (cases n <;> cases hy; done) | skip
    all_goals first
      | (rw [toD] at h2
         obtain ⟨ds, _, rfl⟩ := sp h2
         exact ⟨⟨fun h => Bool.noConfusion h, fun h => W.noConfusion h⟩, ⟨fun h => Bool.noConfusion h, fun h => W.noConfusion h⟩⟩)
      | (cases h2
         first
           | exact ⟨⟨fun _ => rfl, fun _ => rfl⟩, ⟨fun _ => rfl, fun _ => rfl⟩⟩
           | exact ⟨⟨fun h => Bool.noConfusion h, fun h => W.noConfusion h⟩, ⟨fun h => Bool.noConfusion h, fun h => W.noConfusion h⟩⟩
           | (refine ⟨?_, ?_⟩ <;> (show (_ == _) = true ↔ _; simp)))
  intro n
  induction n with
  | zero =>
    intro x y d e hx hy h1 h2
    have lx : lfW x = true := by cases x <;> first | rfl | cases hx
    exact (flat (m := 0) lx hy h1 h2).1
  | succ n ih =>
    intro x y d e hx hy h1 h2
    by_cases lx : lfW x = true
    · exact (flat (m := 0) lx hy h1 h2).1
    by_cases ly : lfW y = true
    · exact (flat (m := 0) ly hx h2 h1).2
    have sp : ∀ {xs : List W} {c : List PyData → PyData} {e : PyData}, (toDs xs).map c = some e → ∃ ds, toDs xs = some ds ∧ e = c ds := fun {xs c e} h => by
      cases q : toDs xs with
      | none => rw [q] at h; cases h
      | some ds => rw [q] at h; cases h; exact ⟨ds, rfl, rfl⟩
    have tt : ∀ {xs : List W}, toD (.tup xs) = (toDs xs).map PyData.tuple := by intro xs; simp only [toD]
    have tl : ∀ {xs : List W}, toD (.lst xs) = (toDs xs).map PyData.list := by intro xs; simp only [toD]
    cases x with
    | tup xs =>
      rw [tt] at h1
      obtain ⟨ds, g1, rfl⟩ := sp h1
      cases y with
      | tup ys =>
        rw [tt] at h2
        obtain ⟨es, g2, rfl⟩ := sp h2
        exact (dts_eqv ih hx hy g1 g2).trans ⟨fun z => by rw [z], fun z => by injection z⟩
      | lst ys =>
        rw [tl] at h2
        obtain ⟨es, g2, rfl⟩ := sp h2
        exact ⟨fun h => Bool.noConfusion h, fun h => W.noConfusion h⟩
      | _ => first | exact absurd rfl ly | cases hy
    | lst xs =>
      rw [tl] at h1
      obtain ⟨ds, g1, rfl⟩ := sp h1
      cases y with
      | tup ys =>
        rw [tt] at h2
        obtain ⟨es, g2, rfl⟩ := sp h2
        exact ⟨fun h => Bool.noConfusion h, fun h => W.noConfusion h⟩
      | lst ys =>
        rw [tl] at h2
        obtain ⟨es, g2, rfl⟩ := sp h2
        exact (dts_eqv ih hx hy g1 g2).trans ⟨fun z => by rw [z], fun z => by injection z⟩
      | _ => first | exact absurd rfl ly | cases hy
    | _ => first | exact absurd rfl lx | cases hx
/-- == of data that are no leaves -/
theorem eqS_dt {n : Nat} {S : Sto} {x y : W} (hn : n ≤ 64) (hx : dt n x = true) (hy : dt n y = true) : Ans (eqS S x y) (x = y) := by
  obtain ⟨d, a1, a2, a3⟩ := dt_ok n x hx
  obtain ⟨e, b1, b2, b3⟩ := dt_ok n y hy
  have nr : ∀ {z : W} {d : PyData}, toD z = some d → datS S z = some d ∧ seqD S z = none := fun {z d} h => by
    cases z <;> first | exact ⟨h, rfl⟩ | cases h
  unfold eqS
  rw [(nr a1).2]
  suffices key : Ans (eqS0 S x y) (x = y) by
    obtain ⟨c, h1, h2⟩ := key
    refine ⟨c, ?_, h2⟩
    show (match eqS0 S x y with
      | some c => some c
      | none => eqLen S x y) = _
    rw [h1]
  unfold eqS0
  by_cases hs : scalW x y = true
  · rw [if_pos hs]
    have lx : lfW x = true := by
      cases x <;> first | rfl | (cases n <;> cases hx; done) | (cases y <;> cases hs)
    have ly : lfW y = true := by
      cases y <;> first | rfl | (cases n <;> cases hy; done) | (cases x <;> cases hs)
    exact ⟨_, rfl, (lf_eq lx ly).2⟩
  · rw [if_neg hs, (nr a1).1, (nr b1).1]
    have sh : ∀ {d : PyData}, d.canLay0 = true → d.depth ≤ n → SeqAt.shaped d = true := fun h1 h2 => by
      unfold SeqAt.shaped
      rw [h1, decide_eq_true (by omega)]
      rfl
    show Ans (if _ then _ else _) _
    rw [if_pos ⟨sh a2 a3, sh b2 b3⟩]
    exact ⟨_, rfl, dt_eqv n x y d e hx hy a1 b1⟩
/-! ### tuples of leaves, nested -/
def tt : Nat → W → Bool
  | _, .non => true
  | _, .int _ => true
  | _, .str _ => true
  | n + 1, .tup xs => xs.all (tt n)
  | _, _ => false
theorem tt_lf {n : Nat} {x : W} (h : lfW x = true) : tt n x = true := by
  cases x <;> first | (cases h; done) | (cases n <;> rfl)
theorem tt_0 {x : W} (h : tt 0 x = true) : lfW x = true := by
  cases x <;> first | rfl | cases h
theorem dfL_all {g : W → W → Bool} {p : W → Bool} (h : ∀ x y, p x = true → p y = true → x ≠ y → g x y = true) : ∀ {xs ys : List W}, xs.all p = true → ys.all p = true → DfL g xs ys
  | [], [], _, _ => dfL_nil
  | [], _ :: _, _, _ => dfL_n
  | _ :: _, [], _, _ => dfL_c
  | x :: xs, y :: ys, h1, h2 => by
    rw [List.all_cons, Bool.and_eq_true] at h1 h2
    exact dfL_cons (h x y h1.1 h2.1) (dfL_all h h1.2 h2.2)
theorem lf_tup {n : Nat} {x : W} {ys : List W} (h : lfW x = true) : difW (n + 1) x (.tup ys) = true ∧ difW (n + 1) (.tup ys) x = true := by
  cases x <;> first | (cases h; done) | exact ⟨rfl, rfl⟩
theorem tt_df : ∀ (n : Nat) (x y : W), tt n x = true → tt n y = true → Df (n + 1) x y := by
  intro n
  induction n with
  | zero => exact fun x y hx hy => df_lf (tt_0 hx) (tt_0 hy)
  | succ n ih =>
    intro x y hx hy
    by_cases lx : lfW x = true
    · by_cases ly : lfW y = true
      · exact df_lf lx ly
      · cases y with
        | tup ys => exact fun _ => (lf_tup lx).1
        | _ => first | exact absurd rfl ly | cases hy
    · cases x with
      | tup xs =>
        by_cases ly : lfW y = true
        · exact fun _ => (lf_tup ly).2
        · cases y with
          | tup ys => exact df_tup (dfL_all (p := tt n) (fun x y h1 h2 => ih x y h1 h2) hx hy)
          | _ => first | exact absurd rfl ly | cases hy
      | _ => first | exact absurd rfl lx | cases hx
theorem difW_up : ∀ {n : Nat} {x y : W}, difW n x y = true → difW (n + 1) x y = true := by
  intro n
  induction n with
  | zero => intro x y h; cases h
  | succ n ih =>
    have l : ∀ {xs ys : List W}, difL (difW n) xs ys = true → difL (difW (n + 1)) xs ys = true := by
      intro xs
      induction xs with
      | nil => intro ys h; cases ys <;> first | exact h | rfl
      | cons x xs ih2 =>
        intro ys h
        cases ys with
        | nil => rfl
        | cons y ys =>
          rw [difL, Bool.or_eq_true] at h ⊢
          exact h.imp ih ih2
    intro x y h
    cases x <;> cases y <;> first
      | exact h
      | exact l h
      | (rename_i ks ls
         show (!decide (ks.map Prod.fst = ls.map Prod.fst) || difL (difW (n + 1)) _ _) = true
         have h' : (!decide (ks.map Prod.fst = ls.map Prod.fst) || difL (difW n) (ks.map Prod.snd) (ls.map Prod.snd)) = true := h
         rw [Bool.or_eq_true] at h' ⊢
         exact h'.imp id l)
theorem Df.up {n m : Nat} {x y : W} (h : Df n x y) (l : n ≤ m) : Df m x y := fun e => by
  have z := h e
  induction m with
  | zero => rw [show n = 0 by omega] at z; exact z
  | succ m ih =>
    by_cases k : n = m + 1
    · rw [← k]; exact z
    · exact difW_up (ih (by omega))
theorem eqL_lf {f : W → W → Option Bool} : ∀ {xs ys : List W}, xs.all lfW = true → ys.all lfW = true → Ans (eqL (itmX f) xs ys) (xs = ys)
  | [], [], _, _ => eqL_nil
  | [], _ :: _, _, _ => eqL_n
  | _ :: _, [], _, _ => eqL_c
  | x :: xs, y :: ys, h1, h2 => by
    rw [List.all_cons, Bool.and_eq_true] at h1 h2
    exact eqL_cons (itm_lf h1.1 h2.1) fun _ => eqL_lf h1.2 h2.2
end Mi

set_option Elab.async false
set_option linter.all false
set_option maxRecDepth 100000
set_option maxHeartbeats 0
noncomputable section
namespace K12
open PySem PySem.Spec PyProof.Rows L2 Mi
def top (i : Nat) : Stmt := PySem.Challenge.pw_switchyard_k12_known_lists.main.body.getD i (.Pass ⟨0, 0, 0, 0⟩)
abbrev s_is_whole : Stmt := top 10
def F_is_whole : Fn := ⟨["value", "low", "high"], 3, defBody s_is_whole, defScope s_is_whole, [], false, [], false, false⟩
abbrev s_is_name : Stmt := top 11
def F_is_name : Fn := ⟨["value", "sign"], 1, defBody s_is_name, defScope s_is_name, [], false, [], false, false⟩
abbrev s_are_names : Stmt := top 12
def F_are_names : Fn := ⟨["value", "least", "most", "one"], 3, defBody s_are_names, defScope s_are_names, [], false, [], false, false⟩
abbrev s_is_type : Stmt := top 13
def F_is_type : Fn := ⟨["value"], 1, defBody s_is_type, defScope s_is_type, [], false, [], false, false⟩
abbrev s_is_number_word : Stmt := top 14
def F_is_number_word : Fn := ⟨["word", "low", "high", "figures", "sign", "number"], 3, defBody s_is_number_word, defScope s_is_number_word, [], false, [], false, false⟩
abbrev s_is_of : Stmt := top 15
def F_is_of : Fn := ⟨["told", "word"], 2, defBody s_is_of, defScope s_is_of, [], false, [], false, false⟩
abbrev s_is_dash_word : Stmt := top 16
def F_is_dash_word : Fn := ⟨["word"], 1, defBody s_is_dash_word, defScope s_is_dash_word, [], false, [], false, false⟩
abbrev s_is_let : Stmt := top 17
def F_is_let : Fn := ⟨["told", "word", "traits", "is_over"], 4, defBody s_is_let, defScope s_is_let, [], false, [], false, false⟩
abbrev s_Reading___init__ : Stmt := inClass (top 28) 0
def F_Reading___init__ : Fn := ⟨["self", "options", "operands", "command", "name"], 4, defBody s_Reading___init__, defScope s_Reading___init__, [], false, [], false, false⟩
abbrev s_Reading_key : Stmt := inClass (top 28) 2
def F_Reading_key : Fn := ⟨["self"], 1, defBody s_Reading_key, defScope s_Reading_key, [], false, [], false, false⟩
abbrev s_Spot___init__ : Stmt := inClass (top 29) 0
def F_Spot___init__ : Fn := ⟨["self", "path", "group", "many", "over", "pending", "comings", "words"], 8, defBody s_Spot___init__, defScope s_Spot___init__, [], false, [], false, false⟩
abbrev s_Spot_key : Stmt := inClass (top 29) 1
def F_Spot_key : Fn := ⟨["self", "comings", "name", "words"], 1, defBody s_Spot_key, defScope s_Spot_key, [], false, [], false, false⟩
abbrev s_Spot_free : Stmt := inClass (top 29) 2
def F_Spot_free : Fn := ⟨["self"], 1, defBody s_Spot_free, defScope s_Spot_free, [], false, [], false, false⟩
abbrev s_Spot_came : Stmt := inClass (top 29) 3
def F_Spot_came : Fn := ⟨["self", "option", "row", "comings"], 2, defBody s_Spot_came, defScope s_Spot_came, [], false, [], false, false⟩
abbrev s_Spot_waits : Stmt := inClass (top 29) 4
def F_Spot_waits : Fn := ⟨["self", "option"], 2, defBody s_Spot_waits, defScope s_Spot_waits, [], false, [], false, false⟩
abbrev s_Spot_valued : Stmt := inClass (top 29) 5
def F_Spot_valued : Fn := ⟨["self", "name", "value", "pending", "row", "comings"], 4, defBody s_Spot_valued, defScope s_Spot_valued, [], false, [], false, false⟩
abbrev s_Way___init__ : Stmt := inClass (top 30) 0
def F_Way___init__ : Fn := ⟨["self", "kind", "names", "value", "spot"], 5, defBody s_Way___init__, defScope s_Way___init__, [], false, [], false, false⟩
abbrev s_must_have : Stmt := top 31
def F_must_have : Fn := ⟨["table", "spot", "takes"], 2, defBody s_must_have, defScope s_must_have, [], false, [], false, false⟩
abbrev s_value_ways : Stmt := top 32
def F_value_ways : Fn := ⟨["table", "spot", "word", "name", "many", "takes", "kind", "is_done"], 3, defBody s_value_ways, defScope s_value_ways, ["return"], true, [], false, false⟩
abbrev s_operand_ways : Stmt := top 33
def F_operand_ways : Fn := ⟨["table", "spot", "word", "inner", "found", "over", "at", "one", "many", "words", "late"], 3, defBody s_operand_ways, defScope s_operand_ways, ["found"], false, [], false, false⟩
abbrev s_has_few : Stmt := top 34
def F_has_few : Fn := ⟨["inner", "spot", "at"], 2, defBody s_has_few, defScope s_has_few, [], false, [], false, false⟩
abbrev s_command_ways : Stmt := top 35
def F_command_ways : Fn := ⟨["table", "spot", "word", "over"], 3, defBody s_command_ways, defScope s_command_ways, [], false, [], false, false⟩
abbrev s_meant : Stmt := top 36
def F_meant : Fn := ⟨["table", "path", "text", "known", "traits", "whole", "one", "some"], 3, defBody s_meant, defScope s_meant, [], false, [], false, false⟩
abbrev s_behind_coming : Stmt := top 37
def F_behind_coming : Fn := ⟨["option", "spot"], 2, defBody s_behind_coming, defScope s_behind_coming, [], false, [], false, false⟩
abbrev s_long_ways : Stmt := top 38
def F_long_ways : Fn := ⟨["table", "spot", "word", "text", "found", "at", "options", "kind", "option", "late", "value"], 3, defBody s_long_ways, defScope s_long_ways, ["found"], false, [], false, false⟩
abbrev s_letter_ways : Stmt := top 39
def F_letter_ways : Fn := ⟨["table", "spot", "signs", "found", "told", "at", "sign", "options", "one", "late", "option", "rest"], 3, defBody s_letter_ways, defScope s_letter_ways, ["found"], false, [], false, false⟩
abbrev s_option_ways : Stmt := top 40
def F_option_ways : Fn := ⟨["table", "spot", "word", "late"], 3, defBody s_option_ways, defScope s_option_ways, [], false, [], false, false⟩
abbrev s_ways : Stmt := top 41
def F_ways : Fn := ⟨["table", "spot", "word", "found"], 3, defBody s_ways, defScope s_ways, ["found"], false, [], false, false⟩
abbrev s_start : Stmt := top 42
def F_start : Fn := ⟨[], 0, defBody s_start, defScope s_start, [], false, [], false, false⟩
abbrev s_holds : Stmt := top 43
def F_holds : Fn := ⟨["condition", "came", "name"], 2, defBody s_holds, defScope s_holds, [], false, [], false, false⟩
abbrev s_can_end : Stmt := top 44
def F_can_end : Fn := ⟨["table", "spot", "inner", "came", "one", "condition"], 2, defBody s_can_end, defScope s_can_end, [], false, [], false, false⟩
abbrev s_told : Stmt := top 45
def F_told : Fn := ⟨["table", "spot", "tables", "options", "operands", "inner", "one"], 2, defBody s_told, defScope s_told, ["operands", "options"], false, [], false, false⟩
abbrev s_checked_words : Stmt := top 46
def F_checked_words : Fn := ⟨["words", "number", "word"], 1, defBody s_checked_words, defScope s_checked_words, [], false, [], false, false⟩
abbrev s_readings : Stmt := top 47
def F_readings : Fn := ⟨["table", "words", "rest", "spots", "word", "late", "spot", "way", "key", "found", "reading"], 2, defBody s_readings, defScope s_readings, ["late:k", "found:k"], false, [], true, false⟩
abbrev s_Refused___init__ : Stmt := inClass (top 49) 0
def F_Refused___init__ : Fn := ⟨["self", "number"], 2, defBody s_Refused___init__, defScope s_Refused___init__, [], false, [], false, false⟩
abbrev s_rank : Stmt := top 50
def F_rank : Fn := ⟨["way"], 1, defBody s_rank, defScope s_rank, [], false, [], false, false⟩
abbrev s_first_way : Stmt := top 51
def F_first_way : Fn := ⟨["table", "spot", "word", "found"], 3, defBody s_first_way, defScope s_first_way, [], false, [], false, false⟩
abbrev s_read : Stmt := top 52
def F_read : Fn := ⟨["table", "words", "spot", "rest", "number", "word", "way"], 2, defBody s_read, defScope s_read, [], false, [], false, false⟩
abbrev s_is_bound : Stmt := top 62
def F_is_bound : Fn := ⟨["high", "low"], 2, defBody s_is_bound, defScope s_is_bound, [], false, [], false, false⟩
abbrev s_is_takes : Stmt := top 63
def F_is_takes : Fn := ⟨["value"], 1, defBody s_is_takes, defScope s_is_takes, [], false, [], false, false⟩
abbrev s_Option___init__ : Stmt := inClass (top 64) 0
def F_Option___init__ : Fn := ⟨["self", "name", "letter", "takes", "low", "high", "is_letter", "rights", "part", "is_right"], 6, defBody s_Option___init__, defScope s_Option___init__, [], false, [.int (0), .non], false, false⟩
abbrev s_Operand___init__ : Stmt := inClass (top 65) 0
def F_Operand___init__ : Fn := ⟨["self", "name", "kind", "few", "many"], 5, defBody s_Operand___init__, defScope s_Operand___init__, [], false, [.int (1), .int (1)], false, false⟩
abbrev s_are_options : Stmt := top 66
def F_are_options : Fn := ⟨["value", "one"], 1, defBody s_are_options, defScope s_are_options, [], false, [], false, false⟩
abbrev s_are_operands : Stmt := top 67
def F_are_operands : Fn := ⟨["value", "one"], 1, defBody s_are_operands, defScope s_are_operands, [], false, [], false, false⟩
abbrev s_are_commands : Stmt := top 68
def F_are_commands : Fn := ⟨["value", "name", "one"], 1, defBody s_are_commands, defScope s_are_commands, [], false, [], false, false⟩
abbrev s_are_traits : Stmt := top 69
def F_are_traits : Fn := ⟨["value", "commands", "one"], 2, defBody s_are_traits, defScope s_are_traits, [], false, [], false, false⟩
abbrev s_is_condition : Stmt := top 70
def F_is_condition : Fn := ⟨["value", "names", "one"], 2, defBody s_is_condition, defScope s_is_condition, [], false, [], false, false⟩
abbrev s_Table___init__ : Stmt := inClass (top 71) 0
def F_Table___init__ : Fn := ⟨["self", "options", "operands", "commands", "traits", "conditions", "rights", "part", "is_right", "names", "one", "name", "letters"], 6, defBody s_Table___init__, defScope s_Table___init__, [], false, [.tup [], .non, .tup [], .tup []], false, false⟩
abbrev s_Table_is_inner : Stmt := inClass (top 71) 2
def F_Table_is_inner : Fn := ⟨["self"], 1, defBody s_Table_is_inner, defScope s_Table_is_inner, [], false, [], false, false⟩
abbrev s_Table_names : Stmt := inClass (top 71) 3
def F_Table_names : Fn := ⟨["self", "found", "one", "table"], 1, defBody s_Table_names, defScope s_Table_names, ["found"], false, [], false, false⟩
abbrev s_Table_letter_rows : Stmt := inClass (top 71) 4
def F_Table_letter_rows : Fn := ⟨["self", "outer", "one", "rows", "table", "mine"], 1, defBody s_Table_letter_rows, defScope s_Table_letter_rows, ["rows"], false, [], false, false⟩
abbrev s_Table_table_at : Stmt := inClass (top 71) 5
def F_Table_table_at : Fn := ⟨["self", "path"], 2, defBody s_Table_table_at, defScope s_Table_table_at, [], false, [], false, false⟩
abbrev s_Table_known : Stmt := inClass (top 71) 6
def F_Table_known : Fn := ⟨["self", "path"], 2, defBody s_Table_known, defScope s_Table_known, [], false, [], false, false⟩
abbrev s_Table_option : Stmt := inClass (top 71) 7
def F_Table_option : Fn := ⟨["self", "name", "table", "one"], 2, defBody s_Table_option, defScope s_Table_option, [], false, [], false, false⟩
abbrev s_has_twins : Stmt := top 72
def F_has_twins : Fn := ⟨["row"], 1, defBody s_has_twins, defScope s_has_twins, [], false, [], false, false⟩
abbrev s__law_number : Stmt := top 74
def F__law_number : Fn := ⟨["script", "index", "cell", "turn", "rest", "step", "blend"], 2, defBody s__law_number, defScope s__law_number, [], false, [], false, false⟩
abbrev s__law_take : Stmt := top 75
def F__law_take : Fn := ⟨["draw", "many"], 2, defBody s__law_take, defScope s__law_take, ["draw"], false, [], false, false⟩
abbrev s__law_pick : Stmt := top 76
def F__law_pick : Fn := ⟨["draw", "items"], 2, defBody s__law_pick, defScope s__law_pick, [], false, [], false, false⟩
abbrev s__law_asked : Stmt := top 77
def F__law_asked : Fn := ⟨["table", "words", "due", "stop", "found", "one", "row", "told_v"], 4, defBody s__law_asked, defScope s__law_asked, [], false, [], true, false⟩
abbrev s_law : Stmt := top 78
def F_law : Fn := ⟨["script", "draw", "nothing", "kind", "value", "level", "many", "word", "one", "name", "rest", "found", "rows", "both", "empty", "low", "two", "three", "four", "five", "six", "table", "words", "due", "stop"], 1, defBody s_law, defScope s_law, ["iso:_law_asked", "both", "draw", "empty", "found", "low", "rows"], false, [], true, false⟩
def fnl : List (Str × Fn) := ([("is_whole", F_is_whole), ("is_name", F_is_name), ("are_names", F_are_names), ("is_type", F_is_type), ("is_number_word", F_is_number_word), ("is_of", F_is_of), ("is_dash_word", F_is_dash_word), ("is_let", F_is_let), ("Reading.__init__", F_Reading___init__), ("Reading.key", F_Reading_key), ("Spot.__init__", F_Spot___init__), ("Spot.key", F_Spot_key), ("Spot.free", F_Spot_free), ("Spot.came", F_Spot_came), ("Spot.waits", F_Spot_waits), ("Spot.valued", F_Spot_valued), ("Way.__init__", F_Way___init__), ("must_have", F_must_have), ("value_ways", F_value_ways), ("operand_ways", F_operand_ways)] : List (Str × Fn)) ++ ([("has_few", F_has_few), ("command_ways", F_command_ways), ("meant", F_meant), ("behind_coming", F_behind_coming), ("long_ways", F_long_ways), ("letter_ways", F_letter_ways), ("option_ways", F_option_ways), ("ways", F_ways), ("start", F_start), ("holds", F_holds), ("can_end", F_can_end), ("told", F_told), ("checked_words", F_checked_words), ("readings", F_readings), ("Refused.__init__", F_Refused___init__), ("rank", F_rank), ("first_way", F_first_way), ("read", F_read), ("is_bound", F_is_bound), ("is_takes", F_is_takes)] : List (Str × Fn)) ++ ([("Option.__init__", F_Option___init__), ("Operand.__init__", F_Operand___init__), ("are_options", F_are_options), ("are_operands", F_are_operands), ("are_commands", F_are_commands), ("are_traits", F_are_traits), ("is_condition", F_is_condition), ("Table.__init__", F_Table___init__), ("Table.is_inner", F_Table_is_inner), ("Table.names", F_Table_names), ("Table.letter_rows", F_Table_letter_rows), ("Table.table_at", F_Table_table_at), ("Table.known", F_Table_known), ("Table.option", F_Table_option), ("has_twins", F_has_twins), ("_law_number", F__law_number), ("_law_take", F__law_take), ("_law_pick", F__law_pick), ("_law_asked", F__law_asked), ("law", F_law)] : List (Str × Fn))
def fns (f : Str) : Option Fn := fnl.lookup f
def csts : List (Str × W) := [("SMALL", .str "abcdefghijklmnopqrstuvwxyz"), ("FIGURES", .str "0123456789"), ("MOST_CHOSEN", .int (8)), ("FAR", .int (99)), ("MOST_WORDS", .int (12)), ("VALUE", .int (1)), ("ENDS", .int (2)), ("LONG", .int (3)), ("SHORT", .int (4)), ("LETTERS", .int (5)), ("MORE", .int (6)), ("GROUP", .int (7)), ("COMMAND", .int (20)), ("MOST_OPTIONS", .int (8)), ("MOST_INNER", .int (4)), ("MOST_OPERANDS", .int (3)), ("MOST_COMMANDS", .int (3)), ("MOST_TIMES", .int (9)), ("MOST_CONDITIONS", .int (3)), ("TRAITS", .tup [.str "abbreviated", .str "alone", .str "dashed", .str "ends", .str "far", .str "guessed", .str "mixed"]), ("OUTER_TRAITS", .tup [.str "alone", .str "far"])]
def arl : List (Str × Nat) := ([("is_whole", 3), ("is_name", 1), ("are_names", 3), ("is_type", 1), ("is_number_word", 3), ("is_of", 2), ("is_dash_word", 1), ("is_let", 4), ("must_have", 2), ("value_ways", 3), ("operand_ways", 3), ("has_few", 2), ("command_ways", 3), ("meant", 3), ("behind_coming", 2), ("long_ways", 3), ("letter_ways", 3), ("option_ways", 3), ("ways", 3), ("start", 0)] : List (Str × Nat)) ++ ([("holds", 2), ("can_end", 2), ("told", 2), ("checked_words", 1), ("readings", 2), ("rank", 1), ("first_way", 3), ("read", 2), ("is_bound", 2), ("is_takes", 1), ("are_options", 1), ("are_operands", 1), ("are_commands", 1), ("are_traits", 2), ("is_condition", 2), ("has_twins", 1), ("_law_number", 2), ("_law_take", 2), ("_law_pick", 2), ("_law_asked", 4)] : List (Str × Nat)) ++ ([("law", 1)] : List (Str × Nat))
def fldl : List ((Str × Str) × Unit) := ([(("Reading", "options"), ()), (("Reading", "operands"), ()), (("Reading", "command"), ()), (("Spot", "path"), ()), (("Spot", "group"), ()), (("Spot", "many"), ()), (("Spot", "over"), ()), (("Spot", "pending"), ()), (("Spot", "comings"), ()), (("Spot", "words"), ()), (("Way", "kind"), ()), (("Way", "names"), ()), (("Way", "value"), ()), (("Way", "spot"), ()), (("Refused", "number"), ()), (("Option", "name"), ()), (("Option", "letter"), ()), (("Option", "takes"), ()), (("Option", "low"), ()), (("Option", "high"), ())] : List ((Str × Str) × Unit)) ++ ([(("Operand", "name"), ()), (("Operand", "kind"), ()), (("Operand", "few"), ()), (("Operand", "many"), ()), (("Table", "options"), ()), (("Table", "operands"), ()), (("Table", "commands"), ()), (("Table", "traits"), ()), (("Table", "conditions"), ())] : List ((Str × Str) × Unit))
def mtl : List ((Str × Str) × Nat) := ([(("Reading", "key"), 0), (("Spot", "key"), 0), (("Spot", "free"), 0), (("Spot", "came"), 1), (("Spot", "waits"), 1), (("Spot", "valued"), 3), (("Table", "is_inner"), 0), (("Table", "names"), 0), (("Table", "letter_rows"), 0), (("Table", "table_at"), 1), (("Table", "known"), 1), (("Table", "option"), 1)] : List ((Str × Str) × Nat))
def newl : List (Str × (Nat × Bool)) := ([("Reading", (3, true)), ("Spot", (7, true)), ("Way", (4, true)), ("Refused", (1, true)), ("Option", (5, true)), ("Operand", (4, true)), ("Table", (5, true))] : List (Str × (Nat × Bool)))
def xcl : List (Str × List Str) := ([("BadPart", ["part"]), ("BadWords", ["number"]), ("TooLarge", ["number"])] : List (Str × List Str))
def exkl : List (Str × Unit) := []
def exml : List ((Str × Str) × Bool) := []
def exfl : List ((Str × Str) × Unit) := ([(("BadPart", "part"), ()), (("BadWords", "number"), ()), (("TooLarge", "number"), ())] : List ((Str × Str) × Unit))
def exil : List ((Str × Str) × Bool) := ([(("BadPart", "int"), false), (("BadPart", "bool"), false), (("BadPart", "str"), false), (("BadPart", "list"), false), (("BadPart", "tuple"), false), (("BadPart", "Option"), false), (("BadPart", "Operand"), false), (("BadPart", "dict"), false), (("BadPart", "Table"), false), (("BadPart", "Refused"), false), (("BadWords", "int"), false), (("BadWords", "bool"), false), (("BadWords", "str"), false), (("BadWords", "list"), false), (("BadWords", "tuple"), false), (("BadWords", "Option"), false), (("BadWords", "Operand"), false), (("BadWords", "dict"), false), (("BadWords", "Table"), false), (("BadWords", "Refused"), false)] : List ((Str × Str) × Bool)) ++ ([(("TooLarge", "int"), false), (("TooLarge", "bool"), false), (("TooLarge", "str"), false), (("TooLarge", "list"), false), (("TooLarge", "tuple"), false), (("TooLarge", "Option"), false), (("TooLarge", "Operand"), false), (("TooLarge", "dict"), false), (("TooLarge", "Table"), false), (("TooLarge", "Refused"), false)] : List ((Str × Str) × Bool))
def isil : List ((Str × Str) × Bool) := ([(("NoneType", "int"), false), (("NoneType", "bool"), false), (("NoneType", "str"), false), (("NoneType", "list"), false), (("NoneType", "tuple"), false), (("NoneType", "Option"), false), (("NoneType", "Operand"), false), (("NoneType", "dict"), false), (("NoneType", "Table"), false), (("NoneType", "Refused"), false), (("bool", "int"), true), (("bool", "bool"), true), (("bool", "str"), false), (("bool", "list"), false), (("bool", "tuple"), false), (("bool", "Option"), false), (("bool", "Operand"), false), (("bool", "dict"), false), (("bool", "Table"), false), (("bool", "Refused"), false)] : List ((Str × Str) × Bool)) ++ ([(("int", "int"), true), (("int", "bool"), false), (("int", "str"), false), (("int", "list"), false), (("int", "tuple"), false), (("int", "Option"), false), (("int", "Operand"), false), (("int", "dict"), false), (("int", "Table"), false), (("int", "Refused"), false), (("str", "int"), false), (("str", "bool"), false), (("str", "str"), true), (("str", "list"), false), (("str", "tuple"), false), (("str", "Option"), false), (("str", "Operand"), false), (("str", "dict"), false), (("str", "Table"), false), (("str", "Refused"), false)] : List ((Str × Str) × Bool)) ++ ([(("tuple", "int"), false), (("tuple", "bool"), false), (("tuple", "str"), false), (("tuple", "list"), false), (("tuple", "tuple"), true), (("tuple", "Option"), false), (("tuple", "Operand"), false), (("tuple", "dict"), false), (("tuple", "Table"), false), (("tuple", "Refused"), false), (("list", "int"), false), (("list", "bool"), false), (("list", "str"), false), (("list", "list"), true), (("list", "tuple"), false), (("list", "Option"), false), (("list", "Operand"), false), (("list", "dict"), false), (("list", "Table"), false), (("list", "Refused"), false)] : List ((Str × Str) × Bool)) ++ ([(("dict", "int"), false), (("dict", "bool"), false), (("dict", "str"), false), (("dict", "list"), false), (("dict", "tuple"), false), (("dict", "Option"), false), (("dict", "Operand"), false), (("dict", "dict"), true), (("dict", "Table"), false), (("dict", "Refused"), false), (("Reading", "int"), false), (("Reading", "bool"), false), (("Reading", "str"), false), (("Reading", "list"), false), (("Reading", "tuple"), false), (("Reading", "Option"), false), (("Reading", "Operand"), false), (("Reading", "dict"), false), (("Reading", "Table"), false), (("Reading", "Refused"), false)] : List ((Str × Str) × Bool)) ++ ([(("Spot", "int"), false), (("Spot", "bool"), false), (("Spot", "str"), false), (("Spot", "list"), false), (("Spot", "tuple"), false), (("Spot", "Option"), false), (("Spot", "Operand"), false), (("Spot", "dict"), false), (("Spot", "Table"), false), (("Spot", "Refused"), false), (("Way", "int"), false), (("Way", "bool"), false), (("Way", "str"), false), (("Way", "list"), false), (("Way", "tuple"), false), (("Way", "Option"), false), (("Way", "Operand"), false), (("Way", "dict"), false), (("Way", "Table"), false), (("Way", "Refused"), false)] : List ((Str × Str) × Bool)) ++ ([(("Refused", "int"), false), (("Refused", "bool"), false), (("Refused", "str"), false), (("Refused", "list"), false), (("Refused", "tuple"), false), (("Refused", "Option"), false), (("Refused", "Operand"), false), (("Refused", "dict"), false), (("Refused", "Table"), false), (("Refused", "Refused"), true), (("Option", "int"), false), (("Option", "bool"), false), (("Option", "str"), false), (("Option", "list"), false), (("Option", "tuple"), false), (("Option", "Option"), true), (("Option", "Operand"), false), (("Option", "dict"), false), (("Option", "Table"), false), (("Option", "Refused"), false)] : List ((Str × Str) × Bool)) ++ ([(("Operand", "int"), false), (("Operand", "bool"), false), (("Operand", "str"), false), (("Operand", "list"), false), (("Operand", "tuple"), false), (("Operand", "Option"), false), (("Operand", "Operand"), true), (("Operand", "dict"), false), (("Operand", "Table"), false), (("Operand", "Refused"), false), (("Table", "int"), false), (("Table", "bool"), false), (("Table", "str"), false), (("Table", "list"), false), (("Table", "tuple"), false), (("Table", "Option"), false), (("Table", "Operand"), false), (("Table", "dict"), false), (("Table", "Table"), true), (("Table", "Refused"), false)] : List ((Str × Str) × Bool))
def pthl : List (Str × Pth) := ([("is_whole", ("is_whole", none)), ("is_name", ("is_name", none)), ("are_names", ("are_names", none)), ("is_type", ("is_type", none)), ("is_number_word", ("is_number_word", none)), ("is_of", ("is_of", none)), ("is_dash_word", ("is_dash_word", none)), ("is_let", ("is_let", none)), ("Reading.__init__", ("Reading", some "__init__")), ("Reading.key", ("Reading", some "key")), ("Spot.__init__", ("Spot", some "__init__")), ("Spot.key", ("Spot", some "key")), ("Spot.free", ("Spot", some "free")), ("Spot.came", ("Spot", some "came")), ("Spot.waits", ("Spot", some "waits")), ("Spot.valued", ("Spot", some "valued")), ("Way.__init__", ("Way", some "__init__")), ("must_have", ("must_have", none)), ("value_ways", ("value_ways", none)), ("operand_ways", ("operand_ways", none))] : List (Str × Pth)) ++ ([("has_few", ("has_few", none)), ("command_ways", ("command_ways", none)), ("meant", ("meant", none)), ("behind_coming", ("behind_coming", none)), ("long_ways", ("long_ways", none)), ("letter_ways", ("letter_ways", none)), ("option_ways", ("option_ways", none)), ("ways", ("ways", none)), ("start", ("start", none)), ("holds", ("holds", none)), ("can_end", ("can_end", none)), ("told", ("told", none)), ("checked_words", ("checked_words", none)), ("readings", ("readings", none)), ("Refused.__init__", ("Refused", some "__init__")), ("rank", ("rank", none)), ("first_way", ("first_way", none)), ("read", ("read", none)), ("is_bound", ("is_bound", none)), ("is_takes", ("is_takes", none))] : List (Str × Pth)) ++ ([("Option.__init__", ("Option", some "__init__")), ("Operand.__init__", ("Operand", some "__init__")), ("are_options", ("are_options", none)), ("are_operands", ("are_operands", none)), ("are_commands", ("are_commands", none)), ("are_traits", ("are_traits", none)), ("is_condition", ("is_condition", none)), ("Table.__init__", ("Table", some "__init__")), ("Table.is_inner", ("Table", some "is_inner")), ("Table.names", ("Table", some "names")), ("Table.letter_rows", ("Table", some "letter_rows")), ("Table.table_at", ("Table", some "table_at")), ("Table.known", ("Table", some "known")), ("Table.option", ("Table", some "option")), ("has_twins", ("has_twins", none)), ("_law_number", ("_law_number", none)), ("_law_take", ("_law_take", none)), ("_law_pick", ("_law_pick", none)), ("_law_asked", ("_law_asked", none)), ("law", ("law", none))] : List (Str × Pth))
def tx : Tx := ⟨fnl, csts, arl, ["all", "any", "bool", "dict", "enumerate", "int", "isinstance", "len", "list", "max", "min", "range", "set", "sorted", "str", "tuple"], fldl, mtl, newl, xcl, exkl, exml, exfl, exil, isil, ["Reading", "Spot", "Way", "Refused", "Option", "Operand", "Table"], pthl, [He.dflAt ("Table", some "__init__") 0, He.dflAt ("Table", some "__init__") 2, He.dflAt ("Table", some "__init__") 3], [], [], []⟩
def pg : Pg := tx.pg
def c_is_whole (cl : Cl) : List CS := [sRet (xBool .And [(xIsi pg (xV 0) "int"), (xNot (xIsi pg (xV 0) "bool")), (xChain .LtE .LtE (xV 1) (xV 0) (xV 2))])]
theorem b_is_whole (cl : Cl) (ws : List W) (S : Sto) : bodyR pg cl F_is_whole ws S = seqC (c_is_whole cl) (startE F_is_whole.N ws) S := by
  kernel_rfl
def c_is_name (cl : Cl) : List CS := [sIf (cBool .Or [(cNot (cTru (xIsi pg (xV 0) "str"))), (cNot (cChain .LtE .LtE (xC (.int 1)) (xBlt "len" [(xV 0)]) (xC (.int 8)))), (cCmp .NotIn (xIx (xV 0) (xC (.int 0))) (xC (.str "abcdefghijklmnopqrstuvwxyz")))]) [sRet (xC (.bl false))] [],
    sRet (xBlt "all" [(xLcD 0 (pV 0) (bN 1) [1] (iOf (xV 0)) none (xBool .Or [(xCmp .In (xV 1) (xC (.str "abcdefghijklmnopqrstuvwxyz"))), (xCmp .In (xV 1) (xC (.str "0123456789")))]))])]
theorem b_is_name (cl : Cl) (ws : List W) (S : Sto) : bodyR pg cl F_is_name ws S = seqC (c_is_name cl) (startE F_is_name.N ws) S := by
  kernel_rfl
def c_are_names (cl : Cl) : List CS := [sIf (cBool .Or [(cNot (cTru (xIsiT pg (xV 0) ["list", "tuple"]))), (cNot (cChain .LtE .LtE (xV 1) (xBlt "len" [(xV 0)]) (xV 2)))]) [sRet (xC (.bl false))] [],
    sRet (xBool .And [(xBlt "all" [(xLcD 0 (pV 0) (bN 3) [3] (iOf (xV 0)) none (xCall cl "is_name" 1 [(xV 3)]))]), (xCmp .Eq (xLenSet (xV 0)) (xBlt "len" [(xV 0)]))])]
theorem b_are_names (cl : Cl) (ws : List W) (S : Sto) : bodyR pg cl F_are_names ws S = seqC (c_are_names cl) (startE F_are_names.N ws) S := by
  kernel_rfl
def c_is_type (cl : Cl) : List CS := [sIf (cBool .Or [(cNot (cTru (xIsi pg (xV 0) "tuple"))), (cCmp .Eq (xV 0) (xTup []))]) [sRet (xC (.bl false))] [],
    sIf (cCmp .Eq (xIx (xV 0) (xC (.int 0))) (xC (.str "any"))) [sRet (xCmp .Eq (xBlt "len" [(xV 0)]) (xC (.int 1)))] [],
    sIf (cCmp .Eq (xIx (xV 0) (xC (.int 0))) (xC (.str "chosen"))) [sRet (xCall cl "are_names" 3 [(xSl (xV 0) (some (xC (.int 1))) none), (xC (.int 1)), (xC (.int 8))])] [],
    sIf (cBool .Or [(cCmp .NotEq (xIx (xV 0) (xC (.int 0))) (xC (.str "number"))), (cCmp .NotEq (xBlt "len" [(xV 0)]) (xC (.int 3))), (cNot (cTru (xCall cl "is_whole" 3 [(xIx (xV 0) (xC (.int 1))), (xNeg (xC (.int 99))), (xC (.int 99))])))]) [sRet (xC (.bl false))] [],
    sRet (xCall cl "is_whole" 3 [(xIx (xV 0) (xC (.int 2))), (xIx (xV 0) (xC (.int 1))), (xC (.int 99))])]
theorem b_is_type (cl : Cl) (ws : List W) (S : Sto) : bodyR pg cl F_is_type ws S = seqC (c_is_type cl) (startE F_is_type.N ws) S := by
  kernel_rfl
def c_is_number_word (cl : Cl) : List CS := [sSet 3 (xIf (cCmp .Eq (xSl (xV 0) none (some (xC (.int 1)))) (xC (.str "-"))) (xSl (xV 0) (some (xC (.int 1))) none) (xV 0)),
    sIf (cBool .Or [(cCmp .Eq (xV 3) (xC (.str ""))), (cCmp .Gt (xBlt "len" [(xV 3)]) (xC (.int 2))), (cNot (cTru (xBlt "all" [(xLcD 0 (pV 3) (bN 4) [4] (iOf (xV 3)) none (xCmp .In (xV 4) (xC (.str "0123456789"))))])))]) [sRet (xC (.bl false))] [],
    sIf (cBool .And [(cCmp .Eq (xIx (xV 3) (xC (.int 0))) (xC (.str "0"))), (cCmp .NotEq (xV 0) (xC (.str "0")))]) [sRet (xC (.bl false))] [],
    sSet 5 (xIf (cCmp .Eq (xV 3) (xV 0)) (xBlt "int" [(xV 3)]) (xBin .Sub (xC (.int 0)) (xBlt "int" [(xV 3)]))),
    sRet (xChain .LtE .LtE (xV 1) (xV 5) (xV 2))]
theorem b_is_number_word (cl : Cl) (ws : List W) (S : Sto) : bodyR pg cl F_is_number_word ws S = seqC (c_is_number_word cl) (startE F_is_number_word.N ws) S := by
  kernel_rfl
def c_is_of (cl : Cl) : List CS := [sIf (cCmp .Eq (xIx (xV 0) (xC (.int 0))) (xC (.str "any"))) [sRet (xC (.bl true))] [],
    sRet (xIf (cCmp .Eq (xIx (xV 0) (xC (.int 0))) (xC (.str "chosen"))) (xCmp .In (xV 1) (xSl (xV 0) (some (xC (.int 1))) none)) (xCall cl "is_number_word" 3 [(xV 1), (xIx (xV 0) (xC (.int 1))), (xIx (xV 0) (xC (.int 2)))]))]
theorem b_is_of (cl : Cl) (ws : List W) (S : Sto) : bodyR pg cl F_is_of ws S = seqC (c_is_of cl) (startE F_is_of.N ws) S := by
  kernel_rfl
def c_is_dash_word (cl : Cl) : List CS := [sRet (xBool .And [(xCmp .Gt (xBlt "len" [(xV 0)]) (xC (.int 1))), (xCmp .Eq (xIx (xV 0) (xC (.int 0))) (xC (.str "-")))])]
theorem b_is_dash_word (cl : Cl) (ws : List W) (S : Sto) : bodyR pg cl F_is_dash_word ws S = seqC (c_is_dash_word cl) (startE F_is_dash_word.N ws) S := by
  kernel_rfl
def c_is_let (cl : Cl) : List CS := [sIf (cNot (cTru (xCall cl "is_of" 2 [(xV 0), (xV 1)]))) [sRet (xC (.bl false))] [],
    sIf (cBool .Or [(cTru (xV 3)), (cCmp .Eq (xIx (xV 0) (xC (.int 0))) (xC (.str "number"))), (cNot (cTru (xCall cl "is_dash_word" 1 [(xV 1)])))]) [sRet (xC (.bl true))] [],
    sRet (xBool .And [(xCmp .In (xC (.str "dashed")) (xV 2)), (xNot (xBool .And [(xCmp .In (xC (.str "ends")) (xV 2)), (xCmp .Eq (xV 1) (xC (.str "--")))]))])]
theorem b_is_let (cl : Cl) (ws : List W) (S : Sto) : bodyR pg cl F_is_let ws S = seqC (c_is_let cl) (startE F_is_let.N ws) S := by
  kernel_rfl
def c_Reading___init__ (cl : Cl) : List CS := [sAtt pg (xV 0) "options" (xDc (bN 4) [4] (iOf (xBlt "sorted" [(xV 1)])) none (xV 4) (xBlt "tuple" [(xIx (xV 1) (xV 4))])),
    sAtt pg (xV 0) "operands" (xDc (bN 4) [4] (iOf (xBlt "sorted" [(xV 2)])) none (xV 4) (xBlt "tuple" [(xIx (xV 2) (xV 4))])),
    sAtt pg (xV 0) "command" (xV 3)]
theorem b_Reading___init__ (cl : Cl) (ws : List W) (S : Sto) : bodyR pg cl F_Reading___init__ ws S = seqC (c_Reading___init__ cl) (startE F_Reading___init__.N ws) S := by
  kernel_rfl
def c_Reading_key (cl : Cl) : List CS := [sRet (xTup [(xAt pg (xV 0) "command"), (xTupI (xAt pg (xV 0) "options")), (xTupI (xAt pg (xV 0) "operands"))])]
theorem b_Reading_key (cl : Cl) (ws : List W) (S : Sto) : bodyR pg cl F_Reading_key ws S = seqC (c_Reading_key cl) (startE F_Reading_key.N ws) S := by
  kernel_rfl
def c_Spot___init__ (cl : Cl) : List CS := [sAtt pg (xV 0) "path" (xV 1),
    sAtt pg (xV 0) "group" (xV 2),
    sAtt pg (xV 0) "many" (xV 3),
    sAtt pg (xV 0) "over" (xV 4),
    sAtt pg (xV 0) "pending" (xV 5),
    sAtt pg (xV 0) "comings" (xV 6),
    sAtt pg (xV 0) "words" (xV 7)]
theorem b_Spot___init__ (cl : Cl) (ws : List W) (S : Sto) : bodyR pg cl F_Spot___init__ ws S = seqC (c_Spot___init__ cl) (startE F_Spot___init__.N ws) S := by
  kernel_rfl
def c_Spot_key (cl : Cl) : List CS := [sSet 1 (xBlt "tuple" [(xLcF false (bN 2) [2] (iOf (xBlt "sorted" [(xAt pg (xV 0) "comings")])) none (xTup [(xV 2), (xIx (xAt pg (xV 0) "comings") (xV 2))]))]),
    sSet 3 (xBlt "tuple" [(xLcF false (bN 2) [2] (iOf (xBlt "sorted" [(xAt pg (xV 0) "words")])) none (xTup [(xV 2), (xIx (xAt pg (xV 0) "words") (xV 2))]))]),
    sRet (xTup [(xAt pg (xV 0) "path"), (xAt pg (xV 0) "group"), (xAt pg (xV 0) "many"), (xAt pg (xV 0) "over"), (xAt pg (xV 0) "pending"), (xV 1), (xV 3)])]
theorem b_Spot_key (cl : Cl) (ws : List W) (S : Sto) : bodyR pg cl F_Spot_key ws S = seqC (c_Spot_key cl) (startE F_Spot_key.N ws) S := by
  kernel_rfl
def c_Spot_free (cl : Cl) : List CS := [sRet (xMk cl "Spot" "Spot.__init__" 7 true [] [(xAt pg (xV 0) "path"), (xAt pg (xV 0) "group"), (xAt pg (xV 0) "many"), (xAt pg (xV 0) "over"), (xTup []), (xAt pg (xV 0) "comings"), (xAt pg (xV 0) "words")])]
theorem b_Spot_free (cl : Cl) (ws : List W) (S : Sto) : bodyR pg cl F_Spot_free ws S = seqC (c_Spot_free cl) (startE F_Spot_free.N ws) S := by
  kernel_rfl
def c_Spot_came (cl : Cl) : List CS := [sSet 2 (xMeth2 pg cl (xAt pg (xV 0) "comings") "get" (xAt pg (xV 1) "name") (xTup [])),
    sIf (cBool .And [(cCmp .IsNot (xAt pg (xV 1) "high") (xC (.non))), (cCmp .Eq (xBlt "len" [(xV 2)]) (xAt pg (xV 1) "high"))]) [sRet (xC (.non))] [],
    sSet 3 (xDispS (xAt pg (xV 0) "comings") (xAt pg (xV 1) "name") (xTupS [(true, (xV 2)), (false, (xTup []))])),
    sRet (xMk cl "Spot" "Spot.__init__" 7 true [] [(xAt pg (xV 0) "path"), (xAt pg (xV 0) "group"), (xAt pg (xV 0) "many"), (xAt pg (xV 0) "over"), (xTup []), (xV 3), (xAt pg (xV 0) "words")])]
theorem b_Spot_came (cl : Cl) (ws : List W) (S : Sto) : bodyR pg cl F_Spot_came ws S = seqC (c_Spot_came cl) (startE F_Spot_came.N ws) S := by
  kernel_rfl
def c_Spot_waits (cl : Cl) : List CS := [sRet (xMk cl "Spot" "Spot.__init__" 7 true [] [(xAt pg (xV 0) "path"), (xAt pg (xV 0) "group"), (xAt pg (xV 0) "many"), (xAt pg (xV 0) "over"), (xTup [(xAt pg (xV 1) "name"), (xC (.int 0))]), (xAt pg (xV 0) "comings"), (xAt pg (xV 0) "words")])]
theorem b_Spot_waits (cl : Cl) (ws : List W) (S : Sto) : bodyR pg cl F_Spot_waits ws S = seqC (c_Spot_waits cl) (startE F_Spot_waits.N ws) S := by
  kernel_rfl
def c_Spot_valued (cl : Cl) : List CS := [sSet 4 (xIx (xAt pg (xV 0) "comings") (xV 1)),
    sSet 5 (xDispS (xAt pg (xV 0) "comings") (xV 1) (xTupS [(true, (xSl (xV 4) none (some (xNeg (xC (.int 1)))))), (false, (xTupS [(true, (xIx (xV 4) (xNeg (xC (.int 1))))), (false, (xV 2))]))])),
    sRet (xMk cl "Spot" "Spot.__init__" 7 true [] [(xAt pg (xV 0) "path"), (xAt pg (xV 0) "group"), (xAt pg (xV 0) "many"), (xAt pg (xV 0) "over"), (xV 3), (xV 5), (xAt pg (xV 0) "words")])]
theorem b_Spot_valued (cl : Cl) (ws : List W) (S : Sto) : bodyR pg cl F_Spot_valued ws S = seqC (c_Spot_valued cl) (startE F_Spot_valued.N ws) S := by
  kernel_rfl
def c_Way___init__ (cl : Cl) : List CS := [sAtt pg (xV 0) "kind" (xV 1),
    sAtt pg (xV 0) "names" (xV 2),
    sAtt pg (xV 0) "value" (xV 3),
    sAtt pg (xV 0) "spot" (xV 4)]
theorem b_Way___init__ (cl : Cl) (ws : List W) (S : Sto) : bodyR pg cl F_Way___init__ ws S = seqC (c_Way___init__ cl) (startE F_Way___init__.N ws) S := by
  kernel_rfl
def c_must_have (cl : Cl) : List CS := [sIf (cCmp .Eq (xAt pg (xV 1) "pending") (xTup [])) [sRet (xC (.bl false))] [],
    sSet 2 (xAt pg (xMeth1 pg cl (xV 0) "option" (xIx (xAt pg (xV 1) "pending") (xC (.int 0)))) "takes"),
    sRet (xBool .Or [(xCmp .Eq (xIx (xV 2) (xC (.int 0))) (xC (.str "one"))), (xCmp .Lt (xIx (xAt pg (xV 1) "pending") (xC (.int 1))) (xIx (xV 2) (xC (.int 2))))])]
theorem b_must_have (cl : Cl) (ws : List W) (S : Sto) : bodyR pg cl F_must_have ws S = seqC (c_must_have cl) (startE F_must_have.N ws) S := by
  kernel_rfl
def c_value_ways (cl : Cl) : List CS := [sIf (cCmp .Eq (xAt pg (xV 1) "pending") (xTup [])) [sRet (xCell [])] [],
    sSetT [3, 4] (xAt pg (xV 1) "pending"),
    sSet 5 (xAt pg (xMeth1 pg cl (xV 0) "option" (xV 3)) "takes"),
    sIf (cNot (cTru (xCall cl "is_let" 4 [(xIx (xV 5) (xC (.int 1))), (xV 2), (xAt pg (xMeth1 pg cl (xV 0) "table_at" (xAt pg (xV 1) "path")) "traits"), (xCmp .Gt (xAt pg (xV 1) "over") (xC (.int 0)))]))) [sRet (xCell [])] [],
    sSet 6 (xIf (cTru (xCall cl "must_have" 2 [(xV 0), (xV 1)])) (xC (.int 1)) (xC (.int 6))),
    sSet 7 (xBool .Or [(xCmp .Eq (xIx (xV 5) (xC (.int 0))) (xC (.str "one"))), (xBool .And [(xCmp .IsNot (xIx (xV 5) (xC (.int 3))) (xC (.non))), (xCmp .Eq (xBin .Add (xV 4) (xC (.int 1))) (xIx (xV 5) (xC (.int 3))))])]),
    sRet (xCell [(xMk cl "Way" "Way.__init__" 4 true [] [(xV 6), (xTup []), (xV 2), (xMeth pg cl (xV 1) "valued" [(xV 3), (xV 2), (xIf (cTru (xV 7)) (xTup []) (xTup [(xV 3), (xBin .Add (xV 4) (xC (.int 1)))]))] mNo)])])]
theorem b_value_ways (cl : Cl) (ws : List W) (S : Sto) : bodyR pg cl F_value_ways ws S = seqC (c_value_ways cl) (startE F_value_ways.N ws) S := by
  kernel_rfl
def c_operand_ways (cl : Cl) : List CS := [sSw2 3 4 (xMeth1 pg cl (xV 0) "table_at" (xAt pg (xV 1) "path")) (xCell []),
    sSet 5 (xIf (cBool .And [(cCmp .Eq (xAt pg (xV 1) "over") (xC (.int 0))), (cCmp .NotIn (xC (.str "mixed")) (xAt pg (xV 3) "traits"))]) (xC (.int 1)) (xAt pg (xV 1) "over")),
    sFor (bN 6) (iRng2 (xAt pg (xV 1) "group") (xBlt "len" [(xAt pg (xV 3) "operands")])) [sSw2 7 8 (xIx (xAt pg (xV 3) "operands") (xV 6)) (xIf (cCmp .Eq (xV 6) (xAt pg (xV 1) "group")) (xAt pg (xV 1) "many") (xC (.int 0))),
    sIf (cBool .Or [(cCmp .Is (xAt pg (xV 7) "many") (xC (.non))), (cCmp .Lt (xV 8) (xAt pg (xV 7) "many"))]) [sIf (cTru (xCall cl "is_let" 4 [(xAt pg (xV 7) "kind"), (xV 2), (xAt pg (xV 3) "traits"), (xCmp .Gt (xAt pg (xV 1) "over") (xC (.int 0)))])) [sSet 9 (xDispS (xAt pg (xV 1) "words") (xAt pg (xV 7) "name") (xTupS [(true, (xMeth2 pg cl (xAt pg (xV 1) "words") "get" (xAt pg (xV 7) "name") (xTup []))), (false, (xV 2))])),
    sSet 10 (xMk cl "Spot" "Spot.__init__" 7 true [] [(xAt pg (xV 1) "path"), (xV 6), (xBin .Add (xV 8) (xC (.int 1))), (xV 5), (xTup []), (xAt pg (xV 1) "comings"), (xV 9)]),
    sExpr (xMeth1 pg cl (xV 4) "append" (xMk cl "Way" "Way.__init__" 4 true [] [(xBin .Sub (xBin .Add (xC (.int 7)) (xV 6)) (xAt pg (xV 1) "group")), (xTup []), (xC (.str "")), (xV 10)]))] []] [],
    sIf (cCmp .Lt (xV 8) (xAt pg (xV 7) "few")) [sRet (xV 4)] []],
    sRet (xV 4)]
theorem b_operand_ways (cl : Cl) (ws : List W) (S : Sto) : bodyR pg cl F_operand_ways ws S = seqC (c_operand_ways cl) (startE F_operand_ways.N ws) S := by
  kernel_rfl
def c_has_few (cl : Cl) : List CS := [sFor (bN 2) (iRng2 (xAt pg (xV 1) "group") (xBlt "len" [(xAt pg (xV 0) "operands")])) [sIf (cCmp .Lt (xIf (cCmp .Eq (xV 2) (xAt pg (xV 1) "group")) (xAt pg (xV 1) "many") (xC (.int 0))) (xAt pg (xIx (xAt pg (xV 0) "operands") (xV 2)) "few")) [sRet (xC (.bl false))] []],
    sRet (xC (.bl true))]
theorem b_has_few (cl : Cl) (ws : List W) (S : Sto) : bodyR pg cl F_has_few ws S = seqC (c_has_few cl) (startE F_has_few.N ws) S := by
  kernel_rfl
def c_command_ways (cl : Cl) : List CS := [sIf (cBool .Or [(cCmp .NotEq (xAt pg (xV 1) "path") (xC (.str ""))), (cCmp .NotIn (xV 2) (xAt pg (xV 0) "commands")), (cNot (cTru (xCall cl "has_few" 2 [(xV 0), (xV 1)])))]) [sRet (xLst [])] [],
    sSet 3 (xIf (cCmp .Eq (xAt pg (xV 1) "over") (xC (.int 2))) (xC (.int 2)) (xC (.int 0))),
    sRet (xLst [(xMk cl "Way" "Way.__init__" 4 true [] [(xC (.int 20)), (xTup []), (xC (.str "")), (xMk cl "Spot" "Spot.__init__" 7 true [] [(xV 2), (xC (.int 0)), (xC (.int 0)), (xV 3), (xTup []), (xAt pg (xV 1) "comings"), (xAt pg (xV 1) "words")])])])]
theorem b_command_ways (cl : Cl) (ws : List W) (S : Sto) : bodyR pg cl F_command_ways ws S = seqC (c_command_ways cl) (startE F_command_ways.N ws) S := by
  kernel_rfl
def c_meant (cl : Cl) : List CS := [sSw2 3 4 (xMeth1 pg cl (xV 0) "known" (xV 1)) (xAt pg (xMeth1 pg cl (xV 0) "table_at" (xV 1)) "traits"),
    sSet 5 (xLcF false (bN 6) [6] (iOf (xV 3)) (some (cCmp .Eq (xAt pg (xV 6) "name") (xV 2))) (xV 6)),
    sIf (cBool .Or [(cCmp .NotEq (xV 5) (xLst [])), (cCmp .Eq (xV 2) (xC (.str "")))]) [sRet (xTup [(xV 5), (xC (.int 3))])] [],
    sSet 7 (xLcF false (bN 6) [6] (iOf (xV 3)) (some (cTru (xMeth1 pg cl (xAt pg (xV 6) "name") "startswith" (xV 2)))) (xV 6)),
    sIf (cBool .Or [(cCmp .In (xC (.str "guessed")) (xV 4)), (cBool .And [(cCmp .In (xC (.str "abbreviated")) (xV 4)), (cCmp .Eq (xBlt "len" [(xV 7)]) (xC (.int 1)))])]) [sRet (xTup [(xV 7), (xC (.int 4))])] [],
    sRet (xTup [(xLst []), (xC (.int 4))])]
theorem b_meant (cl : Cl) (ws : List W) (S : Sto) : bodyR pg cl F_meant ws S = seqC (c_meant cl) (startE F_meant.N ws) S := by
  kernel_rfl
def c_behind_coming (cl : Cl) : List CS := [sRet (xIf (cCmp .In (xIx (xAt pg (xV 0) "takes") (xC (.int 0))) (xTup [(xC (.str "one")), (xC (.str "some"))])) (xMeth1 pg cl (xV 1) "waits" (xV 0)) (xV 1))]
theorem b_behind_coming (cl : Cl) (ws : List W) (S : Sto) : bodyR pg cl F_behind_coming ws S = seqC (c_behind_coming cl) (startE F_behind_coming.N ws) S := by
  kernel_rfl
def c_long_ways (cl : Cl) : List CS := [sSw2 3 4 (xSl (xV 2) (some (xC (.int 2))) none) (xCell []),
    sSet 5 (xMeth1 pg cl (xV 3) "find" (xC (.str "="))),
    sSetT [6, 7] (xCall cl "meant" 3 [(xV 0), (xAt pg (xV 1) "path"), (xIf (cCmp .Lt (xV 5) (xC (.int 0))) (xV 3) (xSl (xV 3) none (some (xV 5))))]),
    sForD 0 (pV 6) (bN 8) (iOf (xV 6)) [sSet 9 (xMeth1 pg cl (xV 1) "came" (xV 8)),
    sIf (cCmp .Is (xV 9) (xC (.non))) [sCont] [],
    sIf (cCmp .Lt (xV 5) (xC (.int 0))) [sExpr (xMeth1 pg cl (xV 4) "append" (xMk cl "Way" "Way.__init__" 4 true [] [(xV 7), (xTup [(xAt pg (xV 8) "name")]), (xC (.str "")), (xCall cl "behind_coming" 2 [(xV 8), (xV 9)])]))] [sIf (cBool .And [(cCmp .In (xIx (xAt pg (xV 8) "takes") (xC (.int 0))) (xTup [(xC (.str "one")), (xC (.str "maybe"))])), (cTru (xCall cl "is_of" 2 [(xIx (xAt pg (xV 8) "takes") (xC (.int 1))), (xSl (xV 3) (some (xBin .Add (xV 5) (xC (.int 1)))) none)]))]) [sSet 10 (xSl (xV 3) (some (xBin .Add (xV 5) (xC (.int 1)))) none),
    sExpr (xMeth1 pg cl (xV 4) "append" (xMk cl "Way" "Way.__init__" 4 true [] [(xV 7), (xTup [(xAt pg (xV 8) "name")]), (xV 10), (xMeth pg cl (xV 9) "valued" [(xAt pg (xV 8) "name"), (xV 10), (xTup [])] mNo)]))] []]],
    sRet (xV 4)]
theorem b_long_ways (cl : Cl) (ws : List W) (S : Sto) : bodyR pg cl F_long_ways ws S = seqC (c_long_ways cl) (startE F_long_ways.N ws) S := by
  kernel_rfl
def c_letter_ways (cl : Cl) : List CS := [sSw2 3 4 (xCell []) (xTup []),
    sFor (bindTs [5, 6]) (iEnum (xV 2)) [sSet 7 (xLcF false (bN 8) [8] (iOf (xMeth1 pg cl (xV 0) "known" (xAt pg (xV 1) "path"))) (some (cCmp .Eq (xAt pg (xV 8) "letter") (xV 6))) (xV 8)),
    sSet 9 (xIf (cCmp .NotEq (xV 7) (xLst [])) (xMeth1 pg cl (xV 1) "came" (xIx (xV 7) (xC (.int 0)))) (xC (.non))),
    sIf (cCmp .Is (xV 9) (xC (.non))) [sRet (xV 3)] [],
    sSw3 10 11 4 (xIx (xV 7) (xC (.int 0))) (xSl (xV 2) (some (xBin .Add (xV 5) (xC (.int 1)))) none) (xTupS [(true, (xV 4)), (false, (xAt pg (xIx (xV 7) (xC (.int 0))) "name"))]),
    sIf (cCmp .Eq (xV 11) (xC (.str ""))) [sRet (xLstS [(true, (xV 3)), (false, (xMk cl "Way" "Way.__init__" 4 true [] [(xC (.int 5)), (xV 4), (xC (.str "")), (xCall cl "behind_coming" 2 [(xV 10), (xV 9)])]))])] [],
    sIf (cBool .And [(cCmp .In (xIx (xAt pg (xV 10) "takes") (xC (.int 0))) (xTup [(xC (.str "one")), (xC (.str "maybe"))])), (cTru (xCall cl "is_of" 2 [(xIx (xAt pg (xV 10) "takes") (xC (.int 1))), (xV 11)]))]) [sExpr (xMeth1 pg cl (xV 3) "append" (xMk cl "Way" "Way.__init__" 4 true [] [(xC (.int 5)), (xV 4), (xV 11), (xMeth pg cl (xV 9) "valued" [(xAt pg (xV 10) "name"), (xV 11), (xTup [])] mNo)]))] [],
    sIf (cCmp .In (xIx (xAt pg (xV 10) "takes") (xC (.int 0))) (xTup [(xC (.str "one")), (xC (.str "some"))])) [sRet (xV 3)] [],
    sSet 1 (xV 9)],
    sRet (xV 3)]
theorem b_letter_ways (cl : Cl) (ws : List W) (S : Sto) : bodyR pg cl F_letter_ways ws S = seqC (c_letter_ways cl) (startE F_letter_ways.N ws) S := by
  kernel_rfl
def c_option_ways (cl : Cl) : List CS := [sIf (cBool .Or [(cCmp .Gt (xAt pg (xV 1) "over") (xC (.int 0))), (cCmp .Lt (xBlt "len" [(xV 2)]) (xC (.int 2))), (cCmp .NotEq (xIx (xV 2) (xC (.int 0))) (xC (.str "-")))]) [sRet (xLst [])] [],
    sSet 3 (xMeth pg cl (xV 1) "free" [] mNo),
    sIf (cCmp .Eq (xV 2) (xC (.str "--"))) [sIf (cCmp .NotIn (xC (.str "ends")) (xAt pg (xMeth1 pg cl (xV 0) "table_at" (xAt pg (xV 1) "path")) "traits")) [sRet (xLst [])] [],
    sRet (xLst [(xMk cl "Way" "Way.__init__" 4 true [] [(xC (.int 2)), (xTup []), (xC (.str "")), (xMk cl "Spot" "Spot.__init__" 7 true [] [(xAt pg (xV 1) "path"), (xAt pg (xV 1) "group"), (xAt pg (xV 1) "many"), (xC (.int 2)), (xTup []), (xAt pg (xV 1) "comings"), (xAt pg (xV 1) "words")])])])] [],
    sRet (xIf (cTru (xMeth1 pg cl (xV 2) "startswith" (xC (.str "--")))) (xCall cl "long_ways" 3 [(xV 0), (xV 3), (xV 2)]) (xCall cl "letter_ways" 3 [(xV 0), (xV 3), (xSl (xV 2) (some (xC (.int 1))) none)]))]
theorem b_option_ways (cl : Cl) (ws : List W) (S : Sto) : bodyR pg cl F_option_ways ws S = seqC (c_option_ways cl) (startE F_option_ways.N ws) S := by
  kernel_rfl
def c_ways (cl : Cl) : List CS := [sSet 3 (xCall cl "value_ways" 3 [(xV 0), (xV 1), (xV 2)]),
    sIf (cTru (xCall cl "must_have" 2 [(xV 0), (xV 1)])) [sRet (xV 3)] [],
    sAug 3 (xBin .Add (xCall cl "option_ways" 3 [(xV 0), (xV 1), (xV 2)]) (xCall cl "operand_ways" 3 [(xV 0), (xV 1), (xV 2)])),
    sRet (xBin .Add (xV 3) (xCall cl "command_ways" 3 [(xV 0), (xV 1), (xV 2)]))]
theorem b_ways (cl : Cl) (ws : List W) (S : Sto) : bodyR pg cl F_ways ws S = seqC (c_ways cl) (startE F_ways.N ws) S := by
  kernel_rfl
def c_start (cl : Cl) : List CS := [sRet (xMk cl "Spot" "Spot.__init__" 7 true [] [(xC (.str "")), (xC (.int 0)), (xC (.int 0)), (xC (.int 0)), (xTup []), xDct0, xDct0])]
theorem b_start (cl : Cl) (ws : List W) (S : Sto) : bodyR pg cl F_start ws S = seqC (c_start cl) (startE F_start.N ws) S := by
  kernel_rfl
def c_holds (cl : Cl) : List CS := [sIf (cCmp .Eq (xIx (xV 0) (xC (.int 0))) (xC (.str "some"))) [sRet (xBlt "any" [(xLcF false (bN 2) [2] (iOf (xIx (xV 0) (xC (.int 1)))) none (xIx (xV 1) (xV 2)))])] [],
    sIf (cCmp .Eq (xIx (xV 0) (xC (.int 0))) (xC (.str "needs"))) [sRet (xBool .Or [(xNot (xIx (xV 1) (xIx (xV 0) (xC (.int 1))))), (xIx (xV 1) (xIx (xV 0) (xC (.int 2))))])] [],
    sRet (xNot (xBool .And [(xIx (xV 1) (xIx (xV 0) (xC (.int 1)))), (xIx (xV 1) (xIx (xV 0) (xC (.int 2))))]))]
theorem b_holds (cl : Cl) (ws : List W) (S : Sto) : bodyR pg cl F_holds ws S = seqC (c_holds cl) (startE F_holds.N ws) S := by
  kernel_rfl
def c_can_end (cl : Cl) : List CS := [sIf (cBool .Or [(cBool .And [(cCmp .NotEq (xAt pg (xV 1) "pending") (xTup [])), (cTru (xCall cl "must_have" 2 [(xV 0), (xV 1)]))]), (cNot (cTru (xCall cl "has_few" 2 [(xMeth1 pg cl (xV 0) "table_at" (xAt pg (xV 1) "path")), (xV 1)])))]) [sRet (xC (.bl false))] [],
    sIf (cBool .And [(cCmp .Eq (xAt pg (xV 1) "path") (xC (.str ""))), (cCmp .NotEq (xAt pg (xV 0) "commands") xDct0), (cCmp .NotIn (xC (.str "alone")) (xAt pg (xV 0) "traits"))]) [sRet (xC (.bl false))] [],
    sFor (bN 2) (iOf (xIf (cCmp .Eq (xAt pg (xV 1) "path") (xC (.str ""))) (xLst [(xV 0)]) (xLst [(xV 0), (xMeth1 pg cl (xV 0) "table_at" (xAt pg (xV 1) "path"))]))) [sSet 3 (xDc (bN 4) [4] (iOf (xAt pg (xV 2) "options")) none (xAt pg (xV 4) "name") (xCmp .NotEq (xMeth2 pg cl (xAt pg (xV 1) "comings") "get" (xAt pg (xV 4) "name") (xTup [])) (xTup []))),
    sIf (cNot (cTru (xBlt "all" [(xLcD 0 (pA pg 2 "options") (bN 4) [4] (iOf (xAt pg (xV 2) "options")) none (xCmp .GtE (xBlt "len" [(xMeth2 pg cl (xAt pg (xV 1) "comings") "get" (xAt pg (xV 4) "name") (xTup []))]) (xAt pg (xV 4) "low")))]))) [sRet (xC (.bl false))] [],
    sIf (cNot (cTru (xBlt "all" [(xLcD 0 (pA pg 2 "conditions") (bN 5) [5] (iOf (xAt pg (xV 2) "conditions")) none (xCall cl "holds" 2 [(xV 5), (xV 3)]))]))) [sRet (xC (.bl false))] []],
    sRet (xC (.bl true))]
theorem b_can_end (cl : Cl) (ws : List W) (S : Sto) : bodyR pg cl F_can_end ws S = seqC (c_can_end cl) (startE F_can_end.N ws) S := by
  kernel_rfl
def c_told (cl : Cl) : List CS := [sSet 2 (xIf (cCmp .Eq (xAt pg (xV 1) "path") (xC (.str ""))) (xLst [(xV 0)]) (xLst [(xV 0), (xMeth1 pg cl (xV 0) "table_at" (xAt pg (xV 1) "path"))])),
    sSw2 3 4 xCellD xCellD,
    sForD 0 (pV 2) (bN 5) (iOf (xV 2)) [sForD 0 (pA pg 5 "options") (bN 6) (iOf (xAt pg (xV 5) "options")) [sSub (xV 3) (xAt pg (xV 6) "name") (xMeth2 pg cl (xAt pg (xV 1) "comings") "get" (xAt pg (xV 6) "name") (xTup []))],
    sForD 0 (pA pg 5 "operands") (bN 6) (iOf (xAt pg (xV 5) "operands")) [sSub (xV 4) (xAt pg (xV 6) "name") (xMeth2 pg cl (xAt pg (xV 1) "words") "get" (xAt pg (xV 6) "name") (xTup []))]],
    sRet (xMk cl "Reading" "Reading.__init__" 3 true [] [(xV 3), (xV 4), (xAt pg (xV 1) "path")])]
theorem b_told (cl : Cl) (ws : List W) (S : Sto) : bodyR pg cl F_told ws S = seqC (c_told cl) (startE F_told.N ws) S := by
  kernel_rfl
def c_checked_words (cl : Cl) : List CS := [sIf (cNot (cTru (xIsiT pg (xV 0) ["list", "tuple"]))) [sRaise "BadWords" ["number"] [(xC (.non))]] [],
    sFor (bindTs [1, 2]) (iEnum (xV 0)) [sIf (cNot (cTru (xIsi pg (xV 2) "str"))) [sRaise "BadWords" ["number"] [(xV 1)]] []],
    sRet (xBlt "list" [(xV 0)])]
theorem b_checked_words (cl : Cl) (ws : List W) (S : Sto) : bodyR pg cl F_checked_words ws S = seqC (c_checked_words cl) (startE F_checked_words.N ws) S := by
  kernel_rfl
def c_readings (cl : Cl) : List CS := [sSet 2 (xCall cl "checked_words" 1 [(xV 1)]),
    sIf (cCmpX pg cl .Gt (xBlt "len" [(xV 2)]) (xC (.int 12))) [sRaise "TooLarge" ["number"] [(xBlt "len" [(xV 2)])]] [],
    sSet 3 (xLst [(xCall0 cl "start" 0)]),
    sForD 0 (pV 2) (bN 4) (iOf (xV 2)) [sSet 5 xNewK,
    sForD 0 (pV 3) (bN 6) (iOf (xV 3)) [sFor (bN 7) (iOf (xCall cl "ways" 3 [(xV 0), (xV 6), (xV 4)])) [sSubK (xV 5) (xMeth pg cl (xAt pg (xV 7) "spot") "key" [] mNo) (xAt pg (xV 7) "spot")]],
    sSet 3 (xLk false 5 (bN 8) [8] 8 (xLcF false (bN 8) [8] (iOf (xV 5)) none (xIx (xV 5) (xV 8))))],
    sSet 9 xNewK,
    sForD 0 (pV 3) (bN 6) (iOf (xV 3)) [sIf (cTru (xCall cl "can_end" 2 [(xV 0), (xV 6)])) [sSet 10 (xCall cl "told" 2 [(xV 0), (xV 6)]),
    sSubK (xV 9) (xMeth pg cl (xV 10) "key" [] mNo) (xV 10)] []],
    sRet (xLcF false (bN 8) [8] (iOf (xBlt "sorted" [(xV 9)])) none (xIx (xV 9) (xV 8)))]
theorem b_readings (cl : Cl) (ws : List W) (S : Sto) : bodyR pg cl F_readings ws S = seqC (c_readings cl) (startE F_readings.N ws) S := by
  kernel_rfl
def c_Refused___init__ (cl : Cl) : List CS := [sAtt pg (xV 0) "number" (xV 1)]
theorem b_Refused___init__ (cl : Cl) (ws : List W) (S : Sto) : bodyR pg cl F_Refused___init__ ws S = seqC (c_Refused___init__ cl) (startE F_Refused___init__.N ws) S := by
  kernel_rfl
def c_rank (cl : Cl) : List CS := [sRet (xTup [(xAt pg (xV 0) "kind"), (xAt pg (xV 0) "names"), (xNeg (xBlt "len" [(xAt pg (xV 0) "value")]))])]
theorem b_rank (cl : Cl) (ws : List W) (S : Sto) : bodyR pg cl F_rank ws S = seqC (c_rank cl) (startE F_rank.N ws) S := by
  kernel_rfl
def c_first_way (cl : Cl) : List CS := [sSet 3 (xCall cl "ways" 3 [(xV 0), (xV 1), (xV 2)]),
    sRet (xIf (cCmp .NotEq (xV 3) (xLst [])) (xMin cl "rank" (xV 3)) (xC (.non)))]
theorem b_first_way (cl : Cl) (ws : List W) (S : Sto) : bodyR pg cl F_first_way ws S = seqC (c_first_way cl) (startE F_first_way.N ws) S := by
  kernel_rfl
def c_read (cl : Cl) : List CS := [sSet 2 (xCall0 cl "start" 0),
    sSet 3 (xCall cl "checked_words" 1 [(xV 1)]),
    sFor (bindTs [4, 5]) (iEnum (xV 3)) [sSet 6 (xCall cl "first_way" 3 [(xV 0), (xV 2), (xV 5)]),
    sIf (cCmp .Is (xV 6) (xC (.non))) [sRet (xMk cl "Refused" "Refused.__init__" 1 true [] [(xV 4)])] [],
    sSet 2 (xAt pg (xV 6) "spot")],
    sRet (xIf (cTru (xCall cl "can_end" 2 [(xV 0), (xV 2)])) (xCall cl "told" 2 [(xV 0), (xV 2)]) (xMk cl "Refused" "Refused.__init__" 1 true [] [(xBlt "len" [(xV 3)])]))]
theorem b_read (cl : Cl) (ws : List W) (S : Sto) : bodyR pg cl F_read ws S = seqC (c_read cl) (startE F_read.N ws) S := by
  kernel_rfl
def c_is_bound (cl : Cl) : List CS := [sRet (xBool .Or [(xCmp .Is (xV 0) (xC (.non))), (xCall cl "is_whole" 3 [(xV 0), (xBlt "max" [(xC (.int 1)), (xV 1)]), (xC (.int 9))])])]
theorem b_is_bound (cl : Cl) (ws : List W) (S : Sto) : bodyR pg cl F_is_bound ws S = seqC (c_is_bound cl) (startE F_is_bound.N ws) S := by
  kernel_rfl
def c_is_takes (cl : Cl) : List CS := [sIf (cCmp .Eq (xV 0) (xTup [(xC (.str "nothing"))])) [sRet (xC (.bl true))] [],
    sIf (cBool .Or [(cNot (cTru (xIsi pg (xV 0) "tuple"))), (cCmp .Lt (xBlt "len" [(xV 0)]) (xC (.int 2))), (cNot (cTru (xCall cl "is_type" 1 [(xIx (xV 0) (xC (.int 1)))])))]) [sRet (xC (.bl false))] [],
    sIf (cCmp .In (xIx (xV 0) (xC (.int 0))) (xTup [(xC (.str "one")), (xC (.str "maybe"))])) [sRet (xCmp .Eq (xBlt "len" [(xV 0)]) (xC (.int 2)))] [],
    sRet (xBool .And [(xCmp .Eq (xIx (xV 0) (xC (.int 0))) (xC (.str "some"))), (xCmp .Eq (xBlt "len" [(xV 0)]) (xC (.int 4))), (xCall cl "is_whole" 3 [(xIx (xV 0) (xC (.int 2))), (xC (.int 0)), (xC (.int 9))]), (xCall cl "is_bound" 2 [(xIx (xV 0) (xC (.int 3))), (xIx (xV 0) (xC (.int 2)))])])]
theorem b_is_takes (cl : Cl) (ws : List W) (S : Sto) : bodyR pg cl F_is_takes ws S = seqC (c_is_takes cl) (startE F_is_takes.N ws) S := by
  kernel_rfl
def c_Option___init__ (cl : Cl) : List CS := [sSet 6 (xBool .And [(xIsi pg (xV 2) "str"), (xBool .Or [(xCmp .Eq (xV 2) (xC (.str ""))), (xBool .And [(xCmp .Eq (xBlt "len" [(xV 2)]) (xC (.int 1))), (xCmp .In (xV 2) (xC (.str "abcdefghijklmnopqrstuvwxyz")))])])]),
    sSet 7 (xTup [(xTup [(xC (.str "name")), (xCall cl "is_name" 1 [(xV 1)])]), (xTup [(xC (.str "letter")), (xV 6)]), (xTup [(xC (.str "takes")), (xCall cl "is_takes" 1 [(xV 3)])]), (xTup [(xC (.str "low")), (xCall cl "is_whole" 3 [(xV 4), (xC (.int 0)), (xC (.int 9))])])]),
    sForD 0 (pV 7) (bindTs [8, 9]) (iOf (xV 7)) [sIf (cNot (cTru (xV 9))) [sRaise "BadPart" ["part"] [(xV 8)]] []],
    sIf (cNot (cTru (xCall cl "is_bound" 2 [(xV 5), (xV 4)]))) [sRaise "BadPart" ["part"] [(xC (.str "high"))]] [],
    sAtt pg (xV 0) "name" (xV 1),
    sAtt pg (xV 0) "letter" (xV 2),
    sAtt pg (xV 0) "takes" (xV 3),
    sAtt pg (xV 0) "low" (xV 4),
    sAtt pg (xV 0) "high" (xV 5)]
theorem b_Option___init__ (cl : Cl) (ws : List W) (S : Sto) : bodyR pg cl F_Option___init__ ws S = seqC (c_Option___init__ cl) (startE F_Option___init__.N ws) S := by
  kernel_rfl
def c_Operand___init__ (cl : Cl) : List CS := [sIf (cNot (cTru (xCall cl "is_name" 1 [(xV 1)]))) [sRaise "BadPart" ["part"] [(xC (.str "name"))]] [],
    sIf (cNot (cTru (xCall cl "is_type" 1 [(xV 2)]))) [sRaise "BadPart" ["part"] [(xC (.str "kind"))]] [],
    sIf (cNot (cTru (xCall cl "is_whole" 3 [(xV 3), (xC (.int 0)), (xC (.int 9))]))) [sRaise "BadPart" ["part"] [(xC (.str "few"))]] [],
    sIf (cNot (cTru (xCall cl "is_bound" 2 [(xV 4), (xV 3)]))) [sRaise "BadPart" ["part"] [(xC (.str "many"))]] [],
    sAtt pg (xV 0) "name" (xV 1),
    sAtt pg (xV 0) "kind" (xV 2),
    sAtt pg (xV 0) "few" (xV 3),
    sAtt pg (xV 0) "many" (xV 4)]
theorem b_Operand___init__ (cl : Cl) (ws : List W) (S : Sto) : bodyR pg cl F_Operand___init__ ws S = seqC (c_Operand___init__ cl) (startE F_Operand___init__.N ws) S := by
  kernel_rfl
def c_are_options (cl : Cl) : List CS := [sIf (cBool .Or [(cNot (cTru (xIsiT pg (xV 0) ["list", "tuple"]))), (cCmp .Gt (xBlt "len" [(xV 0)]) (xC (.int 8)))]) [sRet (xC (.bl false))] [],
    sRet (xBlt "all" [(xLcD 0 (pV 0) (bN 1) [1] (iOf (xV 0)) none (xIsi pg (xV 1) "Option"))])]
theorem b_are_options (cl : Cl) (ws : List W) (S : Sto) : bodyR pg cl F_are_options ws S = seqC (c_are_options cl) (startE F_are_options.N ws) S := by
  kernel_rfl
def c_are_operands (cl : Cl) : List CS := [sIf (cBool .Or [(cNot (cTru (xIsiT pg (xV 0) ["list", "tuple"]))), (cCmp .Gt (xBlt "len" [(xV 0)]) (xC (.int 3)))]) [sRet (xC (.bl false))] [],
    sRet (xBlt "all" [(xLcD 0 (pV 0) (bN 1) [1] (iOf (xV 0)) none (xIsi pg (xV 1) "Operand"))])]
theorem b_are_operands (cl : Cl) (ws : List W) (S : Sto) : bodyR pg cl F_are_operands ws S = seqC (c_are_operands cl) (startE F_are_operands.N ws) S := by
  kernel_rfl
def c_are_commands (cl : Cl) : List CS := [sIf (cBool .Or [(cNot (cTru (xIsi pg (xV 0) "dict"))), (cCmp .Gt (xBlt "len" [(xV 0)]) (xC (.int 3))), (cNot (cTru (xBlt "all" [(xLcD 0 (pV 0) (bN 1) [1] (iOf (xV 0)) none (xCall cl "is_name" 1 [(xV 1)]))])))]) [sRet (xC (.bl false))] [],
    sRet (xBlt "all" [(xLcD 1 (pV 0) (bN 2) [2] (iOf (xMeth pg cl (xV 0) "values" [] mNo)) none (xBool .And [(xIsi pg (xV 2) "Table"), (xMeth pg cl (xV 2) "is_inner" [] mNo)]))])]
theorem b_are_commands (cl : Cl) (ws : List W) (S : Sto) : bodyR pg cl F_are_commands ws S = seqC (c_are_commands cl) (startE F_are_commands.N ws) S := by
  kernel_rfl
def c_are_traits (cl : Cl) : List CS := [sIf (cBool .Or [(cNot (cTru (xIsiT pg (xV 0) ["list", "tuple"]))), (cNot (cTru (xBlt "all" [(xLcD 0 (pV 0) (bN 2) [2] (iOf (xV 0)) none (xBool .And [(xIsi pg (xV 2) "str"), (xCmp .In (xV 2) (xC (.tup [.str "abbreviated", .str "alone", .str "dashed", .str "ends", .str "far", .str "guessed", .str "mixed"])))]))])))]) [sRet (xC (.bl false))] [],
    sIf (cBool .Or [(cCmp .Lt (xLenSet (xV 0)) (xBlt "len" [(xV 0)])), (cBool .And [(cCmp .In (xC (.str "abbreviated")) (xV 0)), (cCmp .In (xC (.str "guessed")) (xV 0))])]) [sRet (xC (.bl false))] [],
    sRet (xBool .Or [(xCmp .NotEq (xV 1) xDct0), (xNot (xBlt "any" [(xLcD 0 (pV 0) (bN 2) [2] (iOf (xV 0)) none (xCmp .In (xV 2) (xC (.tup [.str "alone", .str "far"]))))]))])]
theorem b_are_traits (cl : Cl) (ws : List W) (S : Sto) : bodyR pg cl F_are_traits ws S = seqC (c_are_traits cl) (startE F_are_traits.N ws) S := by
  kernel_rfl
def c_is_condition (cl : Cl) : List CS := [sIf (cBool .Or [(cNot (cTru (xIsi pg (xV 0) "tuple"))), (cCmp .Lt (xBlt "len" [(xV 0)]) (xC (.int 2)))]) [sRet (xC (.bl false))] [],
    sIf (cCmp .In (xIx (xV 0) (xC (.int 0))) (xTup [(xC (.str "needs")), (xC (.str "without"))])) [sRet (xBool .And [(xCmp .Eq (xBlt "len" [(xV 0)]) (xC (.int 3))), (xCall cl "are_names" 3 [(xSl (xV 0) (some (xC (.int 1))) none), (xC (.int 2)), (xC (.int 2))]), (xCmp .In (xIx (xV 0) (xC (.int 1))) (xV 1)), (xCmp .In (xIx (xV 0) (xC (.int 2))) (xV 1))])] [],
    sIf (cBool .Or [(cCmp .NotEq (xIx (xV 0) (xC (.int 0))) (xC (.str "some"))), (cCmp .NotEq (xBlt "len" [(xV 0)]) (xC (.int 2))), (cNot (cTru (xIsi pg (xIx (xV 0) (xC (.int 1))) "tuple")))]) [sRet (xC (.bl false))] [],
    sRet (xBool .And [(xCall cl "are_names" 3 [(xIx (xV 0) (xC (.int 1))), (xC (.int 1)), (xC (.int 8))]), (xBlt "all" [(xLcF false (bN 2) [2] (iOf (xIx (xV 0) (xC (.int 1)))) none (xCmp .In (xV 2) (xV 1)))])])]
theorem b_is_condition (cl : Cl) (ws : List W) (S : Sto) : bodyR pg cl F_is_condition ws S = seqC (c_is_condition cl) (startE F_is_condition.N ws) S := by
  kernel_rfl
def c_Table___init__ (cl : Cl) : List CS := [sSet 3 (xIf (cCmp .Is (xV 3) (xC (.non))) xDct0 (xV 3)),
    sSet 6 (xTup [(xTup [(xC (.str "options")), (xCall cl "are_options" 1 [(xV 1)])]), (xTup [(xC (.str "operands")), (xCall cl "are_operands" 1 [(xV 2)])]), (xTup [(xC (.str "commands")), (xCall cl "are_commands" 1 [(xV 3)])])]),
    sForD 0 (pV 6) (bindTs [7, 8]) (iOf (xV 6)) [sIf (cNot (cTru (xV 8))) [sRaise "BadPart" ["part"] [(xV 7)]] []],
    sIf (cNot (cTru (xCall cl "are_traits" 2 [(xV 4), (xV 3)]))) [sRaise "BadPart" ["part"] [(xC (.str "traits"))]] [],
    sSet 9 (xLcF false (bN 10) [10] (iOf (xV 1)) none (xAt pg (xV 10) "name")),
    sIf (cBool .Or [(cNot (cTru (xIsiT pg (xV 5) ["list", "tuple"]))), (cCmp .Gt (xBlt "len" [(xV 5)]) (xC (.int 3)))]) [sRaise "BadPart" ["part"] [(xC (.str "conditions"))]] [],
    sIf (cNot (cTru (xBlt "all" [(xLcD 0 (pV 5) (bN 10) [10] (iOf (xV 5)) none (xCall cl "is_condition" 2 [(xV 10), (xV 9)]))]))) [sRaise "BadPart" ["part"] [(xC (.str "conditions"))]] [],
    sAtt pg (xV 0) "options" (xBlt "tuple" [(xV 1)]),
    sAtt pg (xV 0) "operands" (xBlt "tuple" [(xV 2)]),
    sAtt pg (xV 0) "commands" (xDc (bN 11) [11] (iOf (xBlt "sorted" [(xV 3)])) none (xV 11) (xIx (xV 3) (xV 11))),
    sAtt pg (xV 0) "traits" (xBlt "tuple" [(xBlt "sorted" [(xV 4)])]),
    sAtt pg (xV 0) "conditions" (xBlt "tuple" [(xV 5)]),
    sIf (cTru (xCall cl "has_twins" 1 [(xMeth pg cl (xV 0) "names" [] mNo)])) [sRaise "BadPart" ["part"] [(xC (.str "names"))]] [],
    sIf (cTru (xBlt "any" [(xLcF false (bN 12) [12] (iOf (xMeth pg cl (xV 0) "letter_rows" [] mNo)) none (xCall cl "has_twins" 1 [(xV 12)]))])) [sRaise "BadPart" ["part"] [(xC (.str "letters"))]] []]
theorem b_Table___init__ (cl : Cl) (ws : List W) (S : Sto) : bodyR pg cl F_Table___init__ ws S = seqC (c_Table___init__ cl) (startE F_Table___init__.N ws) S := by
  kernel_rfl
def c_Table_is_inner (cl : Cl) : List CS := [sRet (xBool .And [(xCmp .Eq (xAt pg (xV 0) "commands") xDct0), (xCmp .LtE (xBlt "len" [(xAt pg (xV 0) "options")]) (xC (.int 4)))])]
theorem b_Table_is_inner (cl : Cl) (ws : List W) (S : Sto) : bodyR pg cl F_Table_is_inner ws S = seqC (c_Table_is_inner cl) (startE F_Table_is_inner.N ws) S := by
  kernel_rfl
def c_Table_names (cl : Cl) : List CS := [sSet 1 (xLcF true (bN 2) [2] (iOf (xLstS [(true, (xAt pg (xV 0) "options")), (true, (xAt pg (xV 0) "operands"))])) none (xAt pg (xV 2) "name")),
    sForD 1 (pA pg 0 "commands") (bN 3) (iOf (xMeth pg cl (xAt pg (xV 0) "commands") "values" [] mNo)) [sAug 1 (xMeth pg cl (xV 3) "names" [] mNo)],
    sRet (xV 1)]
theorem b_Table_names (cl : Cl) (ws : List W) (S : Sto) : bodyR pg cl F_Table_names ws S = seqC (c_Table_names cl) (startE F_Table_names.N ws) S := by
  kernel_rfl
def c_Table_letter_rows (cl : Cl) : List CS := [sSet 1 (xLcF false (bN 2) [2] (iOf (xAt pg (xV 0) "options")) (some (cCmp .NotEq (xAt pg (xV 2) "letter") (xC (.str "")))) (xAt pg (xV 2) "letter")),
    sSet 3 (xCell [(xV 1)]),
    sForD 1 (pA pg 0 "commands") (bN 4) (iOf (xMeth pg cl (xAt pg (xV 0) "commands") "values" [] mNo)) [sSet 5 (xLcF false (bN 2) [2] (iOf (xAt pg (xV 4) "options")) (some (cCmp .NotEq (xAt pg (xV 2) "letter") (xC (.str "")))) (xAt pg (xV 2) "letter")),
    sExpr (xMeth1 pg cl (xV 3) "append" (xIf (cCmp .In (xC (.str "far")) (xAt pg (xV 0) "traits")) (xBin .Add (xV 5) (xV 1)) (xV 5)))],
    sRet (xV 3)]
theorem b_Table_letter_rows (cl : Cl) (ws : List W) (S : Sto) : bodyR pg cl F_Table_letter_rows ws S = seqC (c_Table_letter_rows cl) (startE F_Table_letter_rows.N ws) S := by
  kernel_rfl
def c_Table_table_at (cl : Cl) : List CS := [sRet (xIf (cCmp .NotEq (xV 1) (xC (.str ""))) (xIx (xAt pg (xV 0) "commands") (xV 1)) (xV 0))]
theorem b_Table_table_at (cl : Cl) (ws : List W) (S : Sto) : bodyR pg cl F_Table_table_at ws S = seqC (c_Table_table_at cl) (startE F_Table_table_at.N ws) S := by
  kernel_rfl
def c_Table_known (cl : Cl) : List CS := [sIf (cCmp .Eq (xV 1) (xC (.str ""))) [sRet (xBlt "list" [(xAt pg (xV 0) "options")])] [],
    sRet (xLstS [(true, (xAt pg (xIx (xAt pg (xV 0) "commands") (xV 1)) "options")), (true, (xIf (cCmp .In (xC (.str "far")) (xAt pg (xV 0) "traits")) (xAt pg (xV 0) "options") (xTup [])))])]
theorem b_Table_known (cl : Cl) (ws : List W) (S : Sto) : bodyR pg cl F_Table_known ws S = seqC (c_Table_known cl) (startE F_Table_known.N ws) S := by
  kernel_rfl
def c_Table_option (cl : Cl) : List CS := [sFor (bN 2) (iOf (xLstS [(false, (xV 0)), (true, (xVals (xAt pg (xV 0) "commands")))])) [sForD 0 (pA pg 2 "options") (bN 3) (iOf (xAt pg (xV 2) "options")) [sIf (cCmp .Eq (xAt pg (xV 3) "name") (xV 1)) [sRet (xV 3)] []]],
    sRet (xC (.non))]
theorem b_Table_option (cl : Cl) (ws : List W) (S : Sto) : bodyR pg cl F_Table_option ws S = seqC (c_Table_option cl) (startE F_Table_option.N ws) S := by
  kernel_rfl
def c_has_twins (cl : Cl) : List CS := [sRet (xCmp .Lt (xLenSet (xV 0)) (xBlt "len" [(xV 0)]))]
theorem b_has_twins (cl : Cl) (ws : List W) (S : Sto) : bodyR pg cl F_has_twins ws S = seqC (c_has_twins cl) (startE F_has_twins.N ws) S := by
  kernel_rfl
def c__law_number (cl : Cl) : List CS := [sSetT [2, 3] (xIf (cCmp .NotEq (xV 0) (xLst [])) (xTup [(xIx (xV 0) (xBin .Mod (xV 1) (xBlt "len" [(xV 0)]))), (xBin .FloorDiv (xV 1) (xBlt "len" [(xV 0)]))]) (xTup [(xC (.int 12345)), (xC (.int 0))])),
    sSet 4 (xIf (cCmp .Lt (xV 3) (xC (.int 60))) (xBin .Sub (xV 2) (xBin .Pow (xC (.int 10)) (xC (.int 18)))) (xC (.int 0))),
    sFor (bN 5) (iRng1 (xBin .Mod (xBlt "int" [(xV 3)]) (xC (.int 60)))) [sSet 4 (xBin .FloorDiv (xV 4) (xC (.int 1009)))],
    sIf (cCmp .Gt (xV 4) (xC (.int 0))) [sRet (xBin .Mod (xBlt "int" [(xV 4)]) (xC (.int 1009)))] [],
    sSet 6 (xBin .Mod (xBin .Add (xBin .Mult (xBlt "int" [(xBin .Add (xV 2) (xBin .Mult (xC (.int 977)) (xV 1)))]) (xC (.int 48271))) (xBin .Mult (xC (.int 31)) (xBlt "len" [(xV 0)]))) (xC (.int 2147483647))),
    sSet 6 (xBin .Mod (xBin .Add (xBin .Mult (xV 6) (xV 6)) (xBin .Mult (xC (.int 40503)) (xV 1))) (xC (.int 2147483629))),
    sRet (xBlt "int" [(xBin .Mod (xBin .Add (xBin .Mult (xV 6) (xC (.int 69621))) (xBin .FloorDiv (xV 6) (xC (.int 977)))) (xC (.int 2147483587)))])]
theorem b__law_number (cl : Cl) (ws : List W) (S : Sto) : bodyR pg cl F__law_number ws S = seqC (c__law_number cl) (startE F__law_number.N ws) S := by
  kernel_rfl
def c__law_take (cl : Cl) : List CS := [sAugIx (xV 0) (xC (.int 1)) (xC (.int 1)),
    sRet (xBin .Mod (xBlt "int" [(xCall cl "_law_number" 2 [(xIx (xV 0) (xC (.int 0))), (xBlt "int" [(xIx (xV 0) (xC (.int 1)))])])]) (xV 1))]
theorem b__law_take (cl : Cl) (ws : List W) (S : Sto) : bodyR pg cl F__law_take ws S = seqC (c__law_take cl) (startE F__law_take.N ws) S := by
  kernel_rfl
def c__law_pick (cl : Cl) : List CS := [sRet (xIx (xV 1) (xCall cl "_law_take" 2 [(xV 0), (xBlt "len" [(xV 1)])]))]
theorem b__law_pick (cl : Cl) (ws : List W) (S : Sto) : bodyR pg cl F__law_pick ws S = seqC (c__law_pick cl) (startE F__law_pick.N ws) S := by
  kernel_rfl
def c__law_asked (cl : Cl) : List CS := [sSet 4 (xLcF false (bN 5) [5] (iOf (xCall cl "readings" 2 [(xV 0), (xV 1)])) none (xTup [(xAt pg (xV 5) "options"), (xAt pg (xV 5) "operands")])),
    sIf (cBool .Or [(cCmpX pg cl .NotEq (xBlt "len" [(xV 4)]) (xBlt "len" [(xV 2)])), (cNot (cTru (xBlt "all" [(xLcD 0 (pV 2) (bN 6) [6] (iOf (xV 2)) none (xCmpX pg cl .In (xV 6) (xV 4)))])))]) [sRet (xC (.bl false))] [],
    sSet 7 (xCall cl "read" 2 [(xV 0), (xV 1)]),
    sIf (cCmpX pg cl .Is (xV 3) (xC (.non))) [sRet (xCmpX pg cl .Eq (xTup [(xAt pg (xV 7) "options"), (xAt pg (xV 7) "operands")]) (xIx (xV 2) (xC (.int 0))))] [],
    sRet (xBool .And [(xIsi pg (xV 7) "Refused"), (xCmpX pg cl .Eq (xAt pg (xV 7) "number") (xV 3))])]
theorem b__law_asked (cl : Cl) (ws : List W) (S : Sto) : bodyR pg cl F__law_asked ws S = seqC (c__law_asked cl) (startE F__law_asked.N ws) S := by
  kernel_rfl
def c_law (cl : Cl) : List CS := [sSet 1 (xCell [(xV 0), (xC (.int 0))]),
    sSw2 2 3 (xMk cl "Option" "Option.__init__" 5 true [.int (0), .non] [(xC (.str "quiet")), (xC (.str "q")), (xTup [(xC (.str "nothing"))])]) (xTup [(xC (.str "any"))]),
    sSw2 4 5 (xMk cl "Option" "Option.__init__" 5 true [.int (0), .non] [(xC (.str "file")), (xC (.str "f")), (xTup [(xC (.str "one")), (xV 3)])]) (xMk cl "Option" "Option.__init__" 5 true [.int (0), .non] [(xC (.str "level")), (xC (.str "l")), (xTup [(xC (.str "maybe")), (xTup [(xC (.str "number")), (xNeg (xC (.int 9))), (xC (.int 9))])])]),
    sSw2 6 7 (xMk cl "Option" "Option.__init__" 5 true [.int (0), .non] [(xC (.str "add")), (xC (.str "a")), (xTup [(xC (.str "some")), (xV 3), (xC (.int 0)), (xC (.non))])]) (xMk cl "Operand" "Operand.__init__" 4 true [] [(xC (.str "to")), (xV 3), (xC (.int 0)), (xC (.non))]),
    sSet 8 (xMk cl "Table" "Table.__init__" 5 true [.tup []] [(xLst [(xV 2), (xV 4), (xV 5)]), (xLst [(xV 7)]), (xC (.non)), (xTup [(xC (.str "mixed")), (xC (.str "ends"))])]),
    sSet 9 (xCall cl "_law_pick" 2 [(xV 1), (xLst [(xC (.str "x")), (xC (.str "a9")), (xC (.str "zz top")), (xC (.str "="))])]),
    sSet 10 (xDisp [((xC (.str "quiet")), (xTup [])), ((xC (.str "file")), (xTup [])), ((xC (.str "level")), (xTup []))]),
    sSet 11 (xCellDict (xV 10)),
    sSubK (xV 11) (xC (.str "file")) (xTup [(xTup [(xV 9)])]),
    sSet 12 (xCell [(xTup [(xV 8), (xLst [(xC (.str "-f")), (xV 9)]), (xLst [(xTup [(xV 11), (xDisp [((xC (.str "to")), (xTup []))])])]), (xC (.non))]), (xTup [(xV 8), (xLst [(xBin .Add (xC (.str "-f")) (xV 9))]), (xLst [(xTup [(xV 11), (xDisp [((xC (.str "to")), (xTup []))])])]), (xC (.non))])]),
    sExpr (xMeth1 pg cl (xV 12) "append" (xTup [(xV 8), (xLst [(xBin .Add (xC (.str "--file=")) (xV 9))]), (xLst [(xTup [(xV 11), (xDisp [((xC (.str "to")), (xTup []))])])]), (xC (.non))])),
    sSet 12 (xCellA (xV 12) (xLst [(xTup [(xV 8), (xLst [(xC (.str "--file")), (xV 9)]), (xLst [(xTup [(xV 11), (xDisp [((xC (.str "to")), (xTup []))])])]), (xC (.non))]), (xTup [(xV 8), (xLst [(xC (.str "--file"))]), (xLst []), (xC (.int 1))]), (xTup [(xV 8), (xLst [(xC (.str "--fil")), (xV 9)]), (xLst []), (xC (.int 0))]), (xTup [(xV 8), (xLst [(xC (.str "-f")), (xC (.str "--")), (xV 9)]), (xLst []), (xC (.int 1))])])),
    sSet 13 (xCellDict (xV 11)),
    sSubK (xV 13) (xC (.str "quiet")) (xTup [(xTup [])]),
    sSet 12 (xCellA (xV 12) (xLst [(xTup [(xV 8), (xLst [(xBin .Add (xC (.str "-qf")) (xV 9)), (xC (.str "y"))]), (xLst [(xTup [(xV 13), (xDisp [((xC (.str "to")), (xTup [(xC (.str "y"))]))])])]), (xC (.non))]), (xTup [(xV 8), (xLst [(xC (.str "y")), (xC (.str "-q")), (xC (.str "-f")), (xV 9)]), (xLst [(xTup [(xV 13), (xDisp [((xC (.str "to")), (xTup [(xC (.str "y"))]))])])]), (xC (.non))])])),
    sSet 12 (xCellA (xV 12) (xLst [(xTup [(xV 8), (xLst [(xC (.str "--")), (xC (.str "-q")), (xC (.str "--file"))]), (xLst [(xTup [(xV 10), (xDisp [((xC (.str "to")), (xTup [(xC (.str "-q")), (xC (.str "--file"))]))])])]), (xC (.non))]), (xTup [(xV 8), (xLst [(xC (.str "--")), (xC (.str "--"))]), (xLst [(xTup [(xV 10), (xDisp [((xC (.str "to")), (xTup [(xC (.str "--"))]))])])]), (xC (.non))])])),
    sSet 14 (xCellDict (xV 10)),
    sSubK (xV 14) (xC (.str "file")) (xTup [(xTup [(xC (.str ""))])]),
    sSet 12 (xCellA (xV 12) (xLst [(xTup [(xV 8), (xLst [(xC (.str "--file="))]), (xLst [(xTup [(xV 14), (xDisp [((xC (.str "to")), (xTup []))])])]), (xC (.non))]), (xTup [(xV 8), (xLst [(xC (.str "-"))]), (xLst [(xTup [(xV 10), (xDisp [((xC (.str "to")), (xTup [(xC (.str "-"))]))])])]), (xC (.non))]), (xTup [(xV 8), (xLst [(xC (.str ""))]), (xLst [(xTup [(xV 10), (xDisp [((xC (.str "to")), (xTup [(xC (.str ""))]))])])]), (xC (.non))])])),
    sSet 15 (xCellDict (xV 10)),
    sSubK (xV 15) (xC (.str "level")) (xTup [(xTup [(xC (.str "-9"))]), (xTup [])]),
    sSet 12 (xCellA (xV 12) (xLst [(xTup [(xV 8), (xLst [(xC (.str "-l-9")), (xC (.str "--level"))]), (xLst [(xTup [(xV 15), (xDisp [((xC (.str "to")), (xTup []))])])]), (xC (.non))]), (xTup [(xV 8), (xLst [(xC (.str "--level=10"))]), (xLst []), (xC (.int 0))]), (xTup [(xV 8), (xLst [(xC (.str "-l")), (xC (.str "-9"))]), (xLst []), (xC (.int 1))])])),
    sSet 16 (xMk cl "Table" "Table.__init__" 5 true [.tup []] [(xLst [(xV 6)]), (xLst [(xV 7)]), (xC (.non)), (xTup [(xC (.str "mixed"))])]),
    sExpr (xMeth1 pg cl (xV 12) "append" (xTup [(xV 16), (xLst [(xC (.str "-a")), (xV 9)]), (xLst [(xTup [(xDisp [((xC (.str "add")), (xTup [(xTup [(xV 9)])]))]), (xDisp [((xC (.str "to")), (xTup []))])]), (xTup [(xDisp [((xC (.str "add")), (xTup [(xTup [])]))]), (xDisp [((xC (.str "to")), (xTup [(xV 9)]))])])]), (xC (.non))])),
    sExpr (xMeth1 pg cl (xV 12) "append" (xTup [(xV 16), (xLst [(xC (.str "--add"))]), (xLst [(xTup [(xDisp [((xC (.str "add")), (xTup [(xTup [])]))]), (xDisp [((xC (.str "to")), (xTup []))])])]), (xC (.non))])),
    sSet 17 (xMk cl "Table" "Table.__init__" 5 true [.non, .tup [], .tup []] [(xLst []), (xLst [(xMk cl "Operand" "Operand.__init__" 4 true [] [(xC (.str "few")), (xV 3), (xC (.int 0)), (xC (.int 1))]), (xMk cl "Operand" "Operand.__init__" 4 true [] [(xC (.str "last")), (xV 3), (xC (.int 1)), (xC (.int 1))])])]),
    sExpr (xMeth1 pg cl (xV 12) "append" (xTup [(xV 17), (xLst [(xC (.str "x"))]), (xLst [(xTup [xDct0, (xDisp [((xC (.str "few")), (xTup [])), ((xC (.str "last")), (xTup [(xC (.str "x"))]))])])]), (xC (.int 1))])),
    sExpr (xMeth1 pg cl (xV 12) "append" (xTup [(xV 17), (xLst [(xC (.str "x")), (xC (.str "y"))]), (xLst [(xTup [xDct0, (xDisp [((xC (.str "few")), (xTup [(xC (.str "x"))])), ((xC (.str "last")), (xTup [(xC (.str "y"))]))])])]), (xC (.non))])),
    sExpr (xMeth1 pg cl (xV 12) "append" (xTup [(xV 17), (xLst [(xC (.str "-x"))]), (xLst []), (xC (.int 0))])),
    sSet 18 (xMk cl "Table" "Table.__init__" 5 true [.tup []] [(xLst [(xV 2)]), (xLst [(xV 7)]), (xC (.non)), (xTup [(xC (.str "dashed")), (xC (.str "ends"))])]),
    sExpr (xMeth1 pg cl (xV 12) "append" (xTup [(xV 18), (xLst [(xC (.str "-q")), (xC (.str "-x"))]), (xLst [(xTup [(xDisp [((xC (.str "quiet")), (xTup [(xTup [])]))]), (xDisp [((xC (.str "to")), (xTup [(xC (.str "-x"))]))])]), (xTup [(xDisp [((xC (.str "quiet")), (xTup []))]), (xDisp [((xC (.str "to")), (xTup [(xC (.str "-q")), (xC (.str "-x"))]))])])]), (xC (.non))])),
    sExpr (xMeth1 pg cl (xV 12) "append" (xTup [(xV 18), (xLst [(xC (.str "-q"))]), (xLst [(xTup [(xDisp [((xC (.str "quiet")), (xTup [(xTup [])]))]), (xDisp [((xC (.str "to")), (xTup []))])]), (xTup [(xDisp [((xC (.str "quiet")), (xTup []))]), (xDisp [((xC (.str "to")), (xTup [(xC (.str "-q"))]))])])]), (xC (.non))])),
    sSet 19 (xMk cl "Table" "Table.__init__" 5 true [.tup []] [(xLst [(xV 2), (xMk cl "Option" "Option.__init__" 5 true [.int (0), .non] [(xC (.str "mode")), (xC (.str "m")), (xTup [(xC (.str "maybe")), (xV 3)])])]), (xLst []), (xC (.non)), (xTup [(xC (.str "guessed"))])]),
    sExpr (xMeth1 pg cl (xV 12) "append" (xTup [(xV 19), (xLst [(xC (.str "-mq"))]), (xLst [(xTup [(xDisp [((xC (.str "quiet")), (xTup [])), ((xC (.str "mode")), (xTup [(xTup [(xC (.str "q"))])]))]), xDct0]), (xTup [(xDisp [((xC (.str "quiet")), (xTup [(xTup [])])), ((xC (.str "mode")), (xTup [(xTup [])]))]), xDct0])]), (xC (.non))])),
    sExpr (xMeth1 pg cl (xV 12) "append" (xTup [(xV 19), (xLst [(xC (.str "--m=q")), (xC (.str "--qui"))]), (xLst [(xTup [(xDisp [((xC (.str "quiet")), (xTup [(xTup [])])), ((xC (.str "mode")), (xTup [(xTup [(xC (.str "q"))])]))]), xDct0])]), (xC (.non))])),
    sSet 20 (xMk cl "Table" "Table.__init__" 5 true [.tup []] [(xLst [(xV 2), (xMk cl "Option" "Option.__init__" 5 true [.int (0), .non] [(xC (.str "quick")), (xC (.str "")), (xTup [(xC (.str "nothing"))])])]), (xLst []), (xC (.non)), (xTup [(xC (.str "guessed"))])]),
    sExpr (xMeth1 pg cl (xV 12) "append" (xTup [(xV 20), (xLst [(xC (.str "--qui"))]), (xLst [(xTup [(xDisp [((xC (.str "quick")), (xTup [(xTup [])])), ((xC (.str "quiet")), (xTup []))]), xDct0]), (xTup [(xDisp [((xC (.str "quick")), (xTup [])), ((xC (.str "quiet")), (xTup [(xTup [])]))]), xDct0])]), (xC (.non))])),
    sSetT [21, 22, 23, 24] (xCall cl "_law_pick" 2 [(xV 1), (xV 12)]),
    sRet (xIso cl "_law_asked" 4 [(xV 21), (xV 22), (xV 23), (xV 24)])]
theorem b_law (cl : Cl) (ws : List W) (S : Sto) : bodyR pg cl F_law ws S = seqC (c_law cl) (startE F_law.N ws) S := by
  kernel_rfl
def m_is_whole : Mir := ⟨F_is_whole.N, 3, F_is_whole.keep, c_is_whole⟩
def m_is_name : Mir := ⟨F_is_name.N, 1, F_is_name.keep, c_is_name⟩
def m_are_names : Mir := ⟨F_are_names.N, 3, F_are_names.keep, c_are_names⟩
def m_is_type : Mir := ⟨F_is_type.N, 1, F_is_type.keep, c_is_type⟩
def m_is_number_word : Mir := ⟨F_is_number_word.N, 3, F_is_number_word.keep, c_is_number_word⟩
def m_is_of : Mir := ⟨F_is_of.N, 2, F_is_of.keep, c_is_of⟩
def m_is_dash_word : Mir := ⟨F_is_dash_word.N, 1, F_is_dash_word.keep, c_is_dash_word⟩
def m_is_let : Mir := ⟨F_is_let.N, 4, F_is_let.keep, c_is_let⟩
def m_Reading___init__ : Mir := ⟨F_Reading___init__.N, 4, F_Reading___init__.keep, c_Reading___init__⟩
def m_Reading_key : Mir := ⟨F_Reading_key.N, 1, F_Reading_key.keep, c_Reading_key⟩
def m_Spot___init__ : Mir := ⟨F_Spot___init__.N, 8, F_Spot___init__.keep, c_Spot___init__⟩
def m_Spot_key : Mir := ⟨F_Spot_key.N, 1, F_Spot_key.keep, c_Spot_key⟩
def m_Spot_free : Mir := ⟨F_Spot_free.N, 1, F_Spot_free.keep, c_Spot_free⟩
def m_Spot_came : Mir := ⟨F_Spot_came.N, 2, F_Spot_came.keep, c_Spot_came⟩
def m_Spot_waits : Mir := ⟨F_Spot_waits.N, 2, F_Spot_waits.keep, c_Spot_waits⟩
def m_Spot_valued : Mir := ⟨F_Spot_valued.N, 4, F_Spot_valued.keep, c_Spot_valued⟩
def m_Way___init__ : Mir := ⟨F_Way___init__.N, 5, F_Way___init__.keep, c_Way___init__⟩
def m_must_have : Mir := ⟨F_must_have.N, 2, F_must_have.keep, c_must_have⟩
def m_value_ways : Mir := ⟨F_value_ways.N, 3, F_value_ways.keep, c_value_ways⟩
def m_operand_ways : Mir := ⟨F_operand_ways.N, 3, F_operand_ways.keep, c_operand_ways⟩
def m_has_few : Mir := ⟨F_has_few.N, 2, F_has_few.keep, c_has_few⟩
def m_command_ways : Mir := ⟨F_command_ways.N, 3, F_command_ways.keep, c_command_ways⟩
def m_meant : Mir := ⟨F_meant.N, 3, F_meant.keep, c_meant⟩
def m_behind_coming : Mir := ⟨F_behind_coming.N, 2, F_behind_coming.keep, c_behind_coming⟩
def m_long_ways : Mir := ⟨F_long_ways.N, 3, F_long_ways.keep, c_long_ways⟩
def m_letter_ways : Mir := ⟨F_letter_ways.N, 3, F_letter_ways.keep, c_letter_ways⟩
def m_option_ways : Mir := ⟨F_option_ways.N, 3, F_option_ways.keep, c_option_ways⟩
def m_ways : Mir := ⟨F_ways.N, 3, F_ways.keep, c_ways⟩
def m_start : Mir := ⟨F_start.N, 0, F_start.keep, c_start⟩
def m_holds : Mir := ⟨F_holds.N, 2, F_holds.keep, c_holds⟩
def m_can_end : Mir := ⟨F_can_end.N, 2, F_can_end.keep, c_can_end⟩
def m_told : Mir := ⟨F_told.N, 2, F_told.keep, c_told⟩
def m_checked_words : Mir := ⟨F_checked_words.N, 1, F_checked_words.keep, c_checked_words⟩
def m_readings : Mir := ⟨F_readings.N, 2, F_readings.keep, c_readings⟩
def m_Refused___init__ : Mir := ⟨F_Refused___init__.N, 2, F_Refused___init__.keep, c_Refused___init__⟩
def m_rank : Mir := ⟨F_rank.N, 1, F_rank.keep, c_rank⟩
def m_first_way : Mir := ⟨F_first_way.N, 3, F_first_way.keep, c_first_way⟩
def m_read : Mir := ⟨F_read.N, 2, F_read.keep, c_read⟩
def m_is_bound : Mir := ⟨F_is_bound.N, 2, F_is_bound.keep, c_is_bound⟩
def m_is_takes : Mir := ⟨F_is_takes.N, 1, F_is_takes.keep, c_is_takes⟩
def m_Option___init__ : Mir := ⟨F_Option___init__.N, 6, F_Option___init__.keep, c_Option___init__⟩
def m_Operand___init__ : Mir := ⟨F_Operand___init__.N, 5, F_Operand___init__.keep, c_Operand___init__⟩
def m_are_options : Mir := ⟨F_are_options.N, 1, F_are_options.keep, c_are_options⟩
def m_are_operands : Mir := ⟨F_are_operands.N, 1, F_are_operands.keep, c_are_operands⟩
def m_are_commands : Mir := ⟨F_are_commands.N, 1, F_are_commands.keep, c_are_commands⟩
def m_are_traits : Mir := ⟨F_are_traits.N, 2, F_are_traits.keep, c_are_traits⟩
def m_is_condition : Mir := ⟨F_is_condition.N, 2, F_is_condition.keep, c_is_condition⟩
def m_Table___init__ : Mir := ⟨F_Table___init__.N, 6, F_Table___init__.keep, c_Table___init__⟩
def m_Table_is_inner : Mir := ⟨F_Table_is_inner.N, 1, F_Table_is_inner.keep, c_Table_is_inner⟩
def m_Table_names : Mir := ⟨F_Table_names.N, 1, F_Table_names.keep, c_Table_names⟩
def m_Table_letter_rows : Mir := ⟨F_Table_letter_rows.N, 1, F_Table_letter_rows.keep, c_Table_letter_rows⟩
def m_Table_table_at : Mir := ⟨F_Table_table_at.N, 2, F_Table_table_at.keep, c_Table_table_at⟩
def m_Table_known : Mir := ⟨F_Table_known.N, 2, F_Table_known.keep, c_Table_known⟩
def m_Table_option : Mir := ⟨F_Table_option.N, 2, F_Table_option.keep, c_Table_option⟩
def m_has_twins : Mir := ⟨F_has_twins.N, 1, F_has_twins.keep, c_has_twins⟩
def m__law_number : Mir := ⟨F__law_number.N, 2, F__law_number.keep, c__law_number⟩
def m__law_take : Mir := ⟨F__law_take.N, 2, F__law_take.keep, c__law_take⟩
def m__law_pick : Mir := ⟨F__law_pick.N, 2, F__law_pick.keep, c__law_pick⟩
def m__law_asked : Mir := ⟨F__law_asked.N, 4, F__law_asked.keep, c__law_asked⟩
def m_law : Mir := ⟨F_law.N, 1, F_law.keep, c_law⟩
def mirl : List (Str × Mir) := ([("is_whole", m_is_whole), ("is_name", m_is_name), ("are_names", m_are_names), ("is_type", m_is_type), ("is_number_word", m_is_number_word), ("is_of", m_is_of), ("is_dash_word", m_is_dash_word), ("is_let", m_is_let), ("Reading.__init__", m_Reading___init__), ("Reading.key", m_Reading_key), ("Spot.__init__", m_Spot___init__), ("Spot.key", m_Spot_key), ("Spot.free", m_Spot_free), ("Spot.came", m_Spot_came), ("Spot.waits", m_Spot_waits), ("Spot.valued", m_Spot_valued), ("Way.__init__", m_Way___init__), ("must_have", m_must_have), ("value_ways", m_value_ways), ("operand_ways", m_operand_ways)] : List (Str × Mir)) ++ ([("has_few", m_has_few), ("command_ways", m_command_ways), ("meant", m_meant), ("behind_coming", m_behind_coming), ("long_ways", m_long_ways), ("letter_ways", m_letter_ways), ("option_ways", m_option_ways), ("ways", m_ways), ("start", m_start), ("holds", m_holds), ("can_end", m_can_end), ("told", m_told), ("checked_words", m_checked_words), ("readings", m_readings), ("Refused.__init__", m_Refused___init__), ("rank", m_rank), ("first_way", m_first_way), ("read", m_read), ("is_bound", m_is_bound), ("is_takes", m_is_takes)] : List (Str × Mir)) ++ ([("Option.__init__", m_Option___init__), ("Operand.__init__", m_Operand___init__), ("are_options", m_are_options), ("are_operands", m_are_operands), ("are_commands", m_are_commands), ("are_traits", m_are_traits), ("is_condition", m_is_condition), ("Table.__init__", m_Table___init__), ("Table.is_inner", m_Table_is_inner), ("Table.names", m_Table_names), ("Table.letter_rows", m_Table_letter_rows), ("Table.table_at", m_Table_table_at), ("Table.known", m_Table_known), ("Table.option", m_Table_option), ("has_twins", m_has_twins), ("_law_number", m__law_number), ("_law_take", m__law_take), ("_law_pick", m__law_pick), ("_law_asked", m__law_asked), ("law", m_law)] : List (Str × Mir))
def mir (f : Str) : Option Mir := mirl.lookup f
theorem mirs : MirsOk pg fnl mirl := (.cons ⟨rfl, rfl, rfl, b_is_whole⟩ (.cons ⟨rfl, rfl, rfl, b_is_name⟩ (.cons ⟨rfl, rfl, rfl, b_are_names⟩ (.cons ⟨rfl, rfl, rfl, b_is_type⟩ (.cons ⟨rfl, rfl, rfl, b_is_number_word⟩ (.cons ⟨rfl, rfl, rfl, b_is_of⟩ (.cons ⟨rfl, rfl, rfl, b_is_dash_word⟩ (.cons ⟨rfl, rfl, rfl, b_is_let⟩ (.cons ⟨rfl, rfl, rfl, b_Reading___init__⟩ (.cons ⟨rfl, rfl, rfl, b_Reading_key⟩ (.cons ⟨rfl, rfl, rfl, b_Spot___init__⟩ (.cons ⟨rfl, rfl, rfl, b_Spot_key⟩ (.cons ⟨rfl, rfl, rfl, b_Spot_free⟩ (.cons ⟨rfl, rfl, rfl, b_Spot_came⟩ (.cons ⟨rfl, rfl, rfl, b_Spot_waits⟩ (.cons ⟨rfl, rfl, rfl, b_Spot_valued⟩ (.cons ⟨rfl, rfl, rfl, b_Way___init__⟩ (.cons ⟨rfl, rfl, rfl, b_must_have⟩ (.cons ⟨rfl, rfl, rfl, b_value_ways⟩ (.cons ⟨rfl, rfl, rfl, b_operand_ways⟩ (.cons ⟨rfl, rfl, rfl, b_has_few⟩ (.cons ⟨rfl, rfl, rfl, b_command_ways⟩ (.cons ⟨rfl, rfl, rfl, b_meant⟩ (.cons ⟨rfl, rfl, rfl, b_behind_coming⟩ (.cons ⟨rfl, rfl, rfl, b_long_ways⟩ (.cons ⟨rfl, rfl, rfl, b_letter_ways⟩ (.cons ⟨rfl, rfl, rfl, b_option_ways⟩ (.cons ⟨rfl, rfl, rfl, b_ways⟩ (.cons ⟨rfl, rfl, rfl, b_start⟩ (.cons ⟨rfl, rfl, rfl, b_holds⟩ (.cons ⟨rfl, rfl, rfl, b_can_end⟩ (.cons ⟨rfl, rfl, rfl, b_told⟩ (.cons ⟨rfl, rfl, rfl, b_checked_words⟩ (.cons ⟨rfl, rfl, rfl, b_readings⟩ (.cons ⟨rfl, rfl, rfl, b_Refused___init__⟩ (.cons ⟨rfl, rfl, rfl, b_rank⟩ (.cons ⟨rfl, rfl, rfl, b_first_way⟩ (.cons ⟨rfl, rfl, rfl, b_read⟩ (.cons ⟨rfl, rfl, rfl, b_is_bound⟩ (.cons ⟨rfl, rfl, rfl, b_is_takes⟩ (.cons ⟨rfl, rfl, rfl, b_Option___init__⟩ (.cons ⟨rfl, rfl, rfl, b_Operand___init__⟩ (.cons ⟨rfl, rfl, rfl, b_are_options⟩ (.cons ⟨rfl, rfl, rfl, b_are_operands⟩ (.cons ⟨rfl, rfl, rfl, b_are_commands⟩ (.cons ⟨rfl, rfl, rfl, b_are_traits⟩ (.cons ⟨rfl, rfl, rfl, b_is_condition⟩ (.cons ⟨rfl, rfl, rfl, b_Table___init__⟩ (.cons ⟨rfl, rfl, rfl, b_Table_is_inner⟩ (.cons ⟨rfl, rfl, rfl, b_Table_names⟩ (.cons ⟨rfl, rfl, rfl, b_Table_letter_rows⟩ (.cons ⟨rfl, rfl, rfl, b_Table_table_at⟩ (.cons ⟨rfl, rfl, rfl, b_Table_known⟩ (.cons ⟨rfl, rfl, rfl, b_Table_option⟩ (.cons ⟨rfl, rfl, rfl, b_has_twins⟩ (.cons ⟨rfl, rfl, rfl, b__law_number⟩ (.cons ⟨rfl, rfl, rfl, b__law_take⟩ (.cons ⟨rfl, rfl, rfl, b__law_pick⟩ (.cons ⟨rfl, rfl, rfl, b__law_asked⟩ (.cons ⟨rfl, rfl, rfl, b_law⟩ .nil))))))))))))))))))))))))))))))))))))))))))))))))))))))))))))
theorem q_is_whole : mir "is_whole" = some m_is_whole := by kernel_rfl
theorem q_is_name : mir "is_name" = some m_is_name := by kernel_rfl
theorem q_are_names : mir "are_names" = some m_are_names := by kernel_rfl
theorem q_is_type : mir "is_type" = some m_is_type := by kernel_rfl
theorem q_is_number_word : mir "is_number_word" = some m_is_number_word := by kernel_rfl
theorem q_is_of : mir "is_of" = some m_is_of := by kernel_rfl
theorem q_is_dash_word : mir "is_dash_word" = some m_is_dash_word := by kernel_rfl
theorem q_is_let : mir "is_let" = some m_is_let := by kernel_rfl
theorem q_Reading___init__ : mir "Reading.__init__" = some m_Reading___init__ := by kernel_rfl
theorem q_Reading_key : mir "Reading.key" = some m_Reading_key := by kernel_rfl
theorem q_Spot___init__ : mir "Spot.__init__" = some m_Spot___init__ := by kernel_rfl
theorem q_Spot_key : mir "Spot.key" = some m_Spot_key := by kernel_rfl
theorem q_Spot_free : mir "Spot.free" = some m_Spot_free := by kernel_rfl
theorem q_Spot_came : mir "Spot.came" = some m_Spot_came := by kernel_rfl
theorem q_Spot_waits : mir "Spot.waits" = some m_Spot_waits := by kernel_rfl
theorem q_Spot_valued : mir "Spot.valued" = some m_Spot_valued := by kernel_rfl
theorem q_Way___init__ : mir "Way.__init__" = some m_Way___init__ := by kernel_rfl
theorem q_must_have : mir "must_have" = some m_must_have := by kernel_rfl
theorem q_value_ways : mir "value_ways" = some m_value_ways := by kernel_rfl
theorem q_operand_ways : mir "operand_ways" = some m_operand_ways := by kernel_rfl
theorem q_has_few : mir "has_few" = some m_has_few := by kernel_rfl
theorem q_command_ways : mir "command_ways" = some m_command_ways := by kernel_rfl
theorem q_meant : mir "meant" = some m_meant := by kernel_rfl
theorem q_behind_coming : mir "behind_coming" = some m_behind_coming := by kernel_rfl
theorem q_long_ways : mir "long_ways" = some m_long_ways := by kernel_rfl
theorem q_letter_ways : mir "letter_ways" = some m_letter_ways := by kernel_rfl
theorem q_option_ways : mir "option_ways" = some m_option_ways := by kernel_rfl
theorem q_ways : mir "ways" = some m_ways := by kernel_rfl
theorem q_start : mir "start" = some m_start := by kernel_rfl
theorem q_holds : mir "holds" = some m_holds := by kernel_rfl
theorem q_can_end : mir "can_end" = some m_can_end := by kernel_rfl
theorem q_told : mir "told" = some m_told := by kernel_rfl
theorem q_checked_words : mir "checked_words" = some m_checked_words := by kernel_rfl
theorem q_readings : mir "readings" = some m_readings := by kernel_rfl
theorem q_Refused___init__ : mir "Refused.__init__" = some m_Refused___init__ := by kernel_rfl
theorem q_rank : mir "rank" = some m_rank := by kernel_rfl
theorem q_first_way : mir "first_way" = some m_first_way := by kernel_rfl
theorem q_read : mir "read" = some m_read := by kernel_rfl
theorem q_is_bound : mir "is_bound" = some m_is_bound := by kernel_rfl
theorem q_is_takes : mir "is_takes" = some m_is_takes := by kernel_rfl
theorem q_Option___init__ : mir "Option.__init__" = some m_Option___init__ := by kernel_rfl
theorem q_Operand___init__ : mir "Operand.__init__" = some m_Operand___init__ := by kernel_rfl
theorem q_are_options : mir "are_options" = some m_are_options := by kernel_rfl
theorem q_are_operands : mir "are_operands" = some m_are_operands := by kernel_rfl
theorem q_are_commands : mir "are_commands" = some m_are_commands := by kernel_rfl
theorem q_are_traits : mir "are_traits" = some m_are_traits := by kernel_rfl
theorem q_is_condition : mir "is_condition" = some m_is_condition := by kernel_rfl
theorem q_Table___init__ : mir "Table.__init__" = some m_Table___init__ := by kernel_rfl
theorem q_Table_is_inner : mir "Table.is_inner" = some m_Table_is_inner := by kernel_rfl
theorem q_Table_names : mir "Table.names" = some m_Table_names := by kernel_rfl
theorem q_Table_letter_rows : mir "Table.letter_rows" = some m_Table_letter_rows := by kernel_rfl
theorem q_Table_table_at : mir "Table.table_at" = some m_Table_table_at := by kernel_rfl
theorem q_Table_known : mir "Table.known" = some m_Table_known := by kernel_rfl
theorem q_Table_option : mir "Table.option" = some m_Table_option := by kernel_rfl
theorem q_has_twins : mir "has_twins" = some m_has_twins := by kernel_rfl
theorem q__law_number : mir "_law_number" = some m__law_number := by kernel_rfl
theorem q__law_take : mir "_law_take" = some m__law_take := by kernel_rfl
theorem q__law_pick : mir "_law_pick" = some m__law_pick := by kernel_rfl
theorem q__law_asked : mir "_law_asked" = some m__law_asked := by kernel_rfl
theorem q_law : mir "law" = some m_law := by kernel_rfl
theorem callD_eq (d : Nat) : callD pg fns d = cdC mir d := callD_mir mirs d
abbrev C11 : Cl := cdC mir 11
theorem draws : Draws mir := ⟨⟨_, rfl, rfl, rfl, rfl, fun cl => rfl⟩, ⟨_, rfl, rfl, rfl, rfl, fun cl => rfl⟩, ⟨_, rfl, rfl, rfl, rfl, fun cl => rfl⟩⟩
def outE (r : R Out') : List (Option W) := match r with
  | .ok (.next e) _ => e
  | _ => []
def outS (r : R Out') : List SO := match r with
  | .ok (.next _) S => S
  | _ => []
def slotR (e : List (Option W)) (S : List SO) (i : Nat) : List W := match e[i]? with
  | some (some (W.ref m)) => (match S[m]? with
    | some (SO.lst ws) => ws
    | _ => [])
  | _ => []
theorem seqC_app {A B : List CS} {env env' : Env'} {S S' : Sto} (h : seqC A env S = .ok (.next env') S') : seqC (A ++ B) env S = seqC B env' S' := by
  induction A generalizing env S with
  | nil =>
    cases h
    rfl
  | cons a A ih =>
    have h : (a env S).bind (fun o S1 => (match o with
      | .next env1 => seqC A env1 S1
      | .ret w => .ok (.ret w) S1
      | .brk e => .ok (.brk e) S1
      | .cont e => .ok (.cont e) S1)) = .ok (.next env') S' := h
    cases q : a env S with
    | bad => rw [q] at h; cases h
    | exc c fs e S1 => rw [q] at h; cases h
    | ok o S1 =>
      cases o with
      | next env1 =>
        rw [List.cons_append, seqC_next q]
        rw [q] at h
        exact ih h
      | ret w => rw [q] at h; cases h
      | brk e => rw [q] at h; cases h
      | cont e => rw [q] at h; cases h
/-- a pick out of a cell -/
theorem pick_ref (d : Nat) (S : Sto) (k m : Nat) (ns : List Int) (n : Int) (xs : List W) (hs : ns.length ≤ 63) (hn : 0 ≤ n) (hx : 0 < xs.length) (hk : S[k]? = some (drawO ns n)) (hm : S[m]? = some (.lst xs)) (hkm : k ≠ m) :
    ∃ (i : Nat) (h : i < xs.length), cdC mir (d + 3) "_law_pick" [.ref k, .ref m] S = .ok xs[i] (S.set k (drawO ns (n + 1))) := by
  obtain ⟨M, h1, h2, h4, h5, h3⟩ := draws.pick
  obtain ⟨r, hr, hr2, e⟩ := take_ok draws d S k ns n (xs.length : Int) hs hn (by omega) hk
  have hi : r.toNat < xs.length := by omega
  refine ⟨r.toNat, hi, ?_⟩
  rw [cdC_of h1 (by rw [h2]; rfl) h4, h3, h5]
  have e' : startE ["draw", "items"] [.ref k, .ref m] = [some (.ref k), some (.ref m)] := rfl
  rw [e', cLawPick, seqC]
  have hm2 : (S.set k (drawO ns (n + 1)))[m]? = some (.lst xs) := by rw [List.getElem?_set_ne hkm]; exact hm
  have ix : ixS (S.set k (drawO ns (n + 1))) (.ref m) (.int r) = some xs[r.toNat] := by
    rw [ixS_cell hm2]
    have z := atI_nat (xs := xs) (j := r.toNat) (v := xs[r.toNat]) (by simp [hi])
    rw [show ((r.toNat : Nat) : Int) = r by omega] at z
    exact z
  have ln : lenD S (.ref m) = some (xs.length : Int) := by
    unfold lenD
    rw [seqD_cell hm]
    show lenW S (.ref m) = _
    unfold lenW seqL
    dsimp only
    rw [hm]
  have s2 : sRet (xIx (xV 1) (xCall (cdC mir (d + 2)) "_law_take" 2 [(xV 0), (xBlt "len" [(xV 1)])])) [some (.ref k), some (.ref m)] S = .ok (.ret xs[r.toNat]) (S.set k (drawO ns (n + 1))) := by
    simp only [sRet, xBlt, xCall, xIx, mapC, xV, xC, List.getElem?_cons_zero, List.getElem?_cons_succ, bind_ok, lift_some, bcall_len, ln, Option.map_some]
    simp only [show decide (([W.ref k, W.int (xs.length : Int)] : List W).length = 2) = true from rfl, guard_true, e, bind_ok, ix, lift_some]
  rw [s2, bind_ok]
  show exitW S.length _ _ = _
  unfold exitW
  rw [if_pos (by simp)]
def r1 (ns : List Int) : R Out' := seqC ((c_law C11).take 5) (startE F_law.N [.frl (ns.map W.int)]) []
theorem pre1 (ns : List Int) : r1 ns = .ok (.next (outE (r1 ns))) [drawO ns 0] := by kernel_rfl
def midB : List CS := ((c_law C11).drop 6).take 31
def r2 (ns : List Int) (nm : Str) : R Out' := seqC midB ((outE (r1 ns)).set 9 (some (.str nm))) [drawO ns 1]
def rowsL (ns : List Int) (nm : Str) : List W := slotR (outE (r2 ns nm)) (outS (r2 ns nm)) 12
def S2 (ns : List Int) (nm : Str) : List SO := (outS (r2 ns nm)).set 0 (drawO ns 2)
abbrev askC : CE := xIso C11 "_law_asked" 4 [(xV 21), (xV 22), (xV 23), (xV 24)]
def finR (ns : List Int) (nm : Str) (i : Nat) : R W := match (rowsL ns nm)[i]? with
  | some w => (match bindTs [21, 22, 23, 24] w (outE (r2 ns nm)) with
    | some env1 => exitR 0 (seqC [sRet askC] env1 (S2 ns nm))
    | none => .bad)
  | none => .bad
theorem split_law : c_law C11 = (c_law C11).take 5 ++ (sSet 9 (xCall C11 "_law_pick" 2 [(xV 1), (xLst [(xC (.str "x")), (xC (.str "a9")), (xC (.str "zz top")), (xC (.str "="))])]) :: (midB ++ [sSetT [21, 22, 23, 24] (xCall C11 "_law_pick" 2 [(xV 1), (xV 12)]), sRet askC])) := by kernel_rfl
def rowsOk (ns : List Int) (nm : Str) : Bool := decide ((rowsL ns nm).length = 27)
structure MidOk (ns : List Int) (nm : Str) : Prop where
  mid : r2 ns nm = .ok (.next (outE (r2 ns nm))) (outS (r2 ns nm))
  dr : (outS (r2 ns nm))[0]? = some (drawO ns 1)
  ps : mapC [(xV 1), (xV 12)] (outE (r2 ns nm)) (outS (r2 ns nm)) = .ok [.ref 0, .ref 10] (outS (r2 ns nm))
  rows : (outS (r2 ns nm))[10]? = some (.lst (rowsL ns nm))
  len : (rowsL ns nm).length = 27
  all : (List.range 27).map (finR ns nm) = List.replicate 27 (.ok (.bl true) [])
theorem mid0 (ns : List Int) : MidOk ns "x" := ⟨by kernel_rfl, by kernel_rfl, by kernel_rfl, by kernel_rfl, by kernel_rfl, by kernel_rfl⟩
theorem mid1 (ns : List Int) : MidOk ns "a9" := ⟨by kernel_rfl, by kernel_rfl, by kernel_rfl, by kernel_rfl, by kernel_rfl, by kernel_rfl⟩
theorem mid2 (ns : List Int) : MidOk ns "zz top" := ⟨by kernel_rfl, by kernel_rfl, by kernel_rfl, by kernel_rfl, by kernel_rfl, by kernel_rfl⟩
theorem mid3 (ns : List Int) : MidOk ns "=" := ⟨by kernel_rfl, by kernel_rfl, by kernel_rfl, by kernel_rfl, by kernel_rfl, by kernel_rfl⟩
theorem fin_at {ns : List Int} {nm : Str} (M : MidOk ns nm) {i : Nat} (hi : i < 27) : finR ns nm i = .ok (.bl true) [] := by
  have h := congrArg (fun l : List (R W) => l[i]?) M.all
  simp only [List.getElem?_map, List.getElem?_range hi, Option.map_some, List.getElem?_replicate, if_pos hi] at h
  exact Option.some.inj h
theorem rest_ok {ns : List Int} (hs : ns.length ≤ 63) {nm : Str} (M : MidOk ns nm) : exitR 0 (seqC (midB ++ [sSetT [21, 22, 23, 24] (xCall C11 "_law_pick" 2 [(xV 1), (xV 12)]), sRet askC]) ((outE (r1 ns)).set 9 (some (.str nm))) [drawO ns 1]) = .ok (.bl true) [] := by
  rw [seqC_app (show seqC midB ((outE (r1 ns)).set 9 (some (.str nm))) [drawO ns 1] = _ from M.mid)]
  obtain ⟨i, hi, e⟩ := pick_ref 8 (outS (r2 ns nm)) 0 10 ns 1 (rowsL ns nm) hs (by decide) (by rw [M.len]; decide) M.dr M.rows (by decide)
  have hf := fin_at M (i := i) (by rw [M.len] at hi; exact hi)
  have c1 : xCall C11 "_law_pick" 2 [(xV 1), (xV 12)] (outE (r2 ns nm)) (outS (r2 ns nm)) = .ok ((rowsL ns nm)[i]) (S2 ns nm) := xCall_ok M.ps rfl e
  unfold finR at hf
  rw [List.getElem?_eq_getElem hi] at hf
  dsimp only at hf
  cases hb : bindTs [21, 22, 23, 24] (rowsL ns nm)[i] (outE (r2 ns nm)) with
  | none => rw [hb] at hf; cases hf
  | some env1 =>
    rw [hb] at hf
    have s1 : sSetT [21, 22, 23, 24] (xCall C11 "_law_pick" 2 [(xV 1), (xV 12)]) (outE (r2 ns nm)) (outS (r2 ns nm)) = .ok (.next env1) (S2 ns nm) := by
      unfold sSetT
      rw [c1, bind_ok, hb]
    rw [seqC_next s1]
    exact hf
theorem law_true (ns : List Int) (hs : ns.length ≤ 63) : callD pg fns 12 "law" [.frl (ns.map W.int)] [] = .ok (.bl true) [] := by
  rw [callD_eq]
  have e : cdC mir 12 "law" [.frl (ns.map W.int)] [] = exitR 0 (seqC (c_law C11) (startE F_law.N [.frl (ns.map W.int)]) []) := cdC_of (mir := mir) (d := 11) (f := "law") q_law rfl rfl
  rw [e, split_law, seqC_app (show seqC ((c_law C11).take 5) (startE F_law.N [.frl (ns.map W.int)]) [] = _ from pre1 ns)]
  obtain ⟨i, hi, ep⟩ := pick_ok draws 8 [drawO ns 0] 0 ns 0 [.str "x", .str "a9", .str "zz top", .str "="] hs (by decide) (by decide) rfl
  have mc : mapC [(xV 1), (xLst [(xC (.str "x")), (xC (.str "a9")), (xC (.str "zz top")), (xC (.str "="))])] (outE (r1 ns)) [drawO ns 0] = .ok [.ref 0, .lst [.str "x", .str "a9", .str "zz top", .str "="]] [drawO ns 0] := by kernel_rfl
  have go : ∀ {nm : Str}, MidOk ns nm → C11 "_law_pick" [.ref 0, .lst [.str "x", .str "a9", .str "zz top", .str "="]] [drawO ns 0] = .ok (.str nm) [drawO ns 1] → exitR 0 (seqC (sSet 9 (xCall C11 "_law_pick" 2 [(xV 1), (xLst [(xC (.str "x")), (xC (.str "a9")), (xC (.str "zz top")), (xC (.str "="))])]) :: (midB ++ [sSetT [21, 22, 23, 24] (xCall C11 "_law_pick" 2 [(xV 1), (xV 12)]), sRet askC])) (outE (r1 ns)) [drawO ns 0]) = .ok (.bl true) [] := fun {nm} M h => by
    have s1 : sSet 9 (xCall C11 "_law_pick" 2 [(xV 1), (xLst [(xC (.str "x")), (xC (.str "a9")), (xC (.str "zz top")), (xC (.str "="))])]) (outE (r1 ns)) [drawO ns 0] = .ok (.next ((outE (r1 ns)).set 9 (some (.str nm)))) [drawO ns 1] := sSet_ok (xCall_ok (ws := [.ref 0, .lst [.str "x", .str "a9", .str "zz top", .str "="]]) (S1 := [drawO ns 0]) mc rfl h)
    rw [seqC_next s1]
    exact rest_ok hs M
  match i, hi, ep with
  | 0, _, ep => exact go (mid0 ns) ep
  | 1, _, ep => exact go (mid1 ns) ep
  | 2, _, ep => exact go (mid2 ns) ep
  | 3, _, ep => exact go (mid3 ns) ep
  | i + 4, hi, _ => exact absurd hi (by simp)
/-! ### the head -/
abbrev s_BadPart___init__ : Stmt := inClass (top 2) 0
abbrev s_BadWords___init__ : Stmt := inClass (top 3) 0
abbrev s_TooLarge___init__ : Stmt := inClass (top 4) 0
def d_is_whole : He.DefD := ⟨("is_whole", none), "is_whole", "is_whole", defArgs s_is_whole, defBody s_is_whole, defScope s_is_whole, [], []⟩
def d_is_name : He.DefD := ⟨("is_name", none), "is_name", "is_name", defArgs s_is_name, defBody s_is_name, defScope s_is_name, [], []⟩
def d_are_names : He.DefD := ⟨("are_names", none), "are_names", "are_names", defArgs s_are_names, defBody s_are_names, defScope s_are_names, [], []⟩
def d_is_type : He.DefD := ⟨("is_type", none), "is_type", "is_type", defArgs s_is_type, defBody s_is_type, defScope s_is_type, [], []⟩
def d_is_number_word : He.DefD := ⟨("is_number_word", none), "is_number_word", "is_number_word", defArgs s_is_number_word, defBody s_is_number_word, defScope s_is_number_word, [], []⟩
def d_is_of : He.DefD := ⟨("is_of", none), "is_of", "is_of", defArgs s_is_of, defBody s_is_of, defScope s_is_of, [], []⟩
def d_is_dash_word : He.DefD := ⟨("is_dash_word", none), "is_dash_word", "is_dash_word", defArgs s_is_dash_word, defBody s_is_dash_word, defScope s_is_dash_word, [], []⟩
def d_is_let : He.DefD := ⟨("is_let", none), "is_let", "is_let", defArgs s_is_let, defBody s_is_let, defScope s_is_let, [], []⟩
def d_Reading___init__ : He.DefD := ⟨("Reading", some "__init__"), "__init__", "Reading.__init__", defArgs s_Reading___init__, defBody s_Reading___init__, defScope s_Reading___init__, [], []⟩
def d_Reading_key : He.DefD := ⟨("Reading", some "key"), "key", "Reading.key", defArgs s_Reading_key, defBody s_Reading_key, defScope s_Reading_key, [], []⟩
def d_Spot___init__ : He.DefD := ⟨("Spot", some "__init__"), "__init__", "Spot.__init__", defArgs s_Spot___init__, defBody s_Spot___init__, defScope s_Spot___init__, [], []⟩
def d_Spot_key : He.DefD := ⟨("Spot", some "key"), "key", "Spot.key", defArgs s_Spot_key, defBody s_Spot_key, defScope s_Spot_key, [], []⟩
def d_Spot_free : He.DefD := ⟨("Spot", some "free"), "free", "Spot.free", defArgs s_Spot_free, defBody s_Spot_free, defScope s_Spot_free, [], []⟩
def d_Spot_came : He.DefD := ⟨("Spot", some "came"), "came", "Spot.came", defArgs s_Spot_came, defBody s_Spot_came, defScope s_Spot_came, [], []⟩
def d_Spot_waits : He.DefD := ⟨("Spot", some "waits"), "waits", "Spot.waits", defArgs s_Spot_waits, defBody s_Spot_waits, defScope s_Spot_waits, [], []⟩
def d_Spot_valued : He.DefD := ⟨("Spot", some "valued"), "valued", "Spot.valued", defArgs s_Spot_valued, defBody s_Spot_valued, defScope s_Spot_valued, [], []⟩
def d_Way___init__ : He.DefD := ⟨("Way", some "__init__"), "__init__", "Way.__init__", defArgs s_Way___init__, defBody s_Way___init__, defScope s_Way___init__, [], []⟩
def d_must_have : He.DefD := ⟨("must_have", none), "must_have", "must_have", defArgs s_must_have, defBody s_must_have, defScope s_must_have, [], []⟩
def d_value_ways : He.DefD := ⟨("value_ways", none), "value_ways", "value_ways", defArgs s_value_ways, defBody s_value_ways, defScope s_value_ways, [], []⟩
def d_operand_ways : He.DefD := ⟨("operand_ways", none), "operand_ways", "operand_ways", defArgs s_operand_ways, defBody s_operand_ways, defScope s_operand_ways, [], []⟩
def d_has_few : He.DefD := ⟨("has_few", none), "has_few", "has_few", defArgs s_has_few, defBody s_has_few, defScope s_has_few, [], []⟩
def d_command_ways : He.DefD := ⟨("command_ways", none), "command_ways", "command_ways", defArgs s_command_ways, defBody s_command_ways, defScope s_command_ways, [], []⟩
def d_meant : He.DefD := ⟨("meant", none), "meant", "meant", defArgs s_meant, defBody s_meant, defScope s_meant, [], []⟩
def d_behind_coming : He.DefD := ⟨("behind_coming", none), "behind_coming", "behind_coming", defArgs s_behind_coming, defBody s_behind_coming, defScope s_behind_coming, [], []⟩
def d_long_ways : He.DefD := ⟨("long_ways", none), "long_ways", "long_ways", defArgs s_long_ways, defBody s_long_ways, defScope s_long_ways, [], []⟩
def d_letter_ways : He.DefD := ⟨("letter_ways", none), "letter_ways", "letter_ways", defArgs s_letter_ways, defBody s_letter_ways, defScope s_letter_ways, [], []⟩
def d_option_ways : He.DefD := ⟨("option_ways", none), "option_ways", "option_ways", defArgs s_option_ways, defBody s_option_ways, defScope s_option_ways, [], []⟩
def d_ways : He.DefD := ⟨("ways", none), "ways", "ways", defArgs s_ways, defBody s_ways, defScope s_ways, [], []⟩
def d_start : He.DefD := ⟨("start", none), "start", "start", defArgs s_start, defBody s_start, defScope s_start, [], []⟩
def d_holds : He.DefD := ⟨("holds", none), "holds", "holds", defArgs s_holds, defBody s_holds, defScope s_holds, [], []⟩
def d_can_end : He.DefD := ⟨("can_end", none), "can_end", "can_end", defArgs s_can_end, defBody s_can_end, defScope s_can_end, [], []⟩
def d_told : He.DefD := ⟨("told", none), "told", "told", defArgs s_told, defBody s_told, defScope s_told, [], []⟩
def d_checked_words : He.DefD := ⟨("checked_words", none), "checked_words", "checked_words", defArgs s_checked_words, defBody s_checked_words, defScope s_checked_words, [], []⟩
def d_readings : He.DefD := ⟨("readings", none), "readings", "readings", defArgs s_readings, defBody s_readings, defScope s_readings, [], []⟩
def d_Refused___init__ : He.DefD := ⟨("Refused", some "__init__"), "__init__", "Refused.__init__", defArgs s_Refused___init__, defBody s_Refused___init__, defScope s_Refused___init__, [], []⟩
def d_rank : He.DefD := ⟨("rank", none), "rank", "rank", defArgs s_rank, defBody s_rank, defScope s_rank, [], []⟩
def d_first_way : He.DefD := ⟨("first_way", none), "first_way", "first_way", defArgs s_first_way, defBody s_first_way, defScope s_first_way, [], []⟩
def d_read : He.DefD := ⟨("read", none), "read", "read", defArgs s_read, defBody s_read, defScope s_read, [], []⟩
def d_is_bound : He.DefD := ⟨("is_bound", none), "is_bound", "is_bound", defArgs s_is_bound, defBody s_is_bound, defScope s_is_bound, [], []⟩
def d_is_takes : He.DefD := ⟨("is_takes", none), "is_takes", "is_takes", defArgs s_is_takes, defBody s_is_takes, defScope s_is_takes, [], []⟩
def d_Option___init__ : He.DefD := ⟨("Option", some "__init__"), "__init__", "Option.__init__", defArgs s_Option___init__, defBody s_Option___init__, defScope s_Option___init__, [.int (0), .non], []⟩
def d_Operand___init__ : He.DefD := ⟨("Operand", some "__init__"), "__init__", "Operand.__init__", defArgs s_Operand___init__, defBody s_Operand___init__, defScope s_Operand___init__, [.int (1), .int (1)], []⟩
def d_are_options : He.DefD := ⟨("are_options", none), "are_options", "are_options", defArgs s_are_options, defBody s_are_options, defScope s_are_options, [], []⟩
def d_are_operands : He.DefD := ⟨("are_operands", none), "are_operands", "are_operands", defArgs s_are_operands, defBody s_are_operands, defScope s_are_operands, [], []⟩
def d_are_commands : He.DefD := ⟨("are_commands", none), "are_commands", "are_commands", defArgs s_are_commands, defBody s_are_commands, defScope s_are_commands, [], []⟩
def d_are_traits : He.DefD := ⟨("are_traits", none), "are_traits", "are_traits", defArgs s_are_traits, defBody s_are_traits, defScope s_are_traits, [], []⟩
def d_is_condition : He.DefD := ⟨("is_condition", none), "is_condition", "is_condition", defArgs s_is_condition, defBody s_is_condition, defScope s_is_condition, [], []⟩
def d_Table___init__ : He.DefD := ⟨("Table", some "__init__"), "__init__", "Table.__init__", defArgs s_Table___init__, defBody s_Table___init__, defScope s_Table___init__, [.adr (He.dflAt ("Table", some "__init__") 0), .non, .adr (He.dflAt ("Table", some "__init__") 2), .adr (He.dflAt ("Table", some "__init__") 3)], []⟩
def d_Table_is_inner : He.DefD := ⟨("Table", some "is_inner"), "is_inner", "Table.is_inner", defArgs s_Table_is_inner, defBody s_Table_is_inner, defScope s_Table_is_inner, [], []⟩
def d_Table_names : He.DefD := ⟨("Table", some "names"), "names", "Table.names", defArgs s_Table_names, defBody s_Table_names, defScope s_Table_names, [], []⟩
def d_Table_letter_rows : He.DefD := ⟨("Table", some "letter_rows"), "letter_rows", "Table.letter_rows", defArgs s_Table_letter_rows, defBody s_Table_letter_rows, defScope s_Table_letter_rows, [], []⟩
def d_Table_table_at : He.DefD := ⟨("Table", some "table_at"), "table_at", "Table.table_at", defArgs s_Table_table_at, defBody s_Table_table_at, defScope s_Table_table_at, [], []⟩
def d_Table_known : He.DefD := ⟨("Table", some "known"), "known", "Table.known", defArgs s_Table_known, defBody s_Table_known, defScope s_Table_known, [], []⟩
def d_Table_option : He.DefD := ⟨("Table", some "option"), "option", "Table.option", defArgs s_Table_option, defBody s_Table_option, defScope s_Table_option, [], []⟩
def d_has_twins : He.DefD := ⟨("has_twins", none), "has_twins", "has_twins", defArgs s_has_twins, defBody s_has_twins, defScope s_has_twins, [], []⟩
def d__law_number : He.DefD := ⟨("_law_number", none), "_law_number", "_law_number", defArgs s__law_number, defBody s__law_number, defScope s__law_number, [], []⟩
def d__law_take : He.DefD := ⟨("_law_take", none), "_law_take", "_law_take", defArgs s__law_take, defBody s__law_take, defScope s__law_take, [], []⟩
def d__law_pick : He.DefD := ⟨("_law_pick", none), "_law_pick", "_law_pick", defArgs s__law_pick, defBody s__law_pick, defScope s__law_pick, [], []⟩
def d__law_asked : He.DefD := ⟨("_law_asked", none), "_law_asked", "_law_asked", defArgs s__law_asked, defBody s__law_asked, defScope s__law_asked, [], []⟩
def d_law : He.DefD := ⟨("law", none), "law", "law", defArgs s_law, defBody s_law, defScope s_law, [], []⟩
def d_BadPart___init__ : He.DefD := ⟨("BadPart", some "__init__"), "__init__", "BadPart.__init__", defArgs s_BadPart___init__, defBody s_BadPart___init__, defScope s_BadPart___init__, [], []⟩
def d_BadWords___init__ : He.DefD := ⟨("BadWords", some "__init__"), "__init__", "BadWords.__init__", defArgs s_BadWords___init__, defBody s_BadWords___init__, defScope s_BadWords___init__, [], []⟩
def d_TooLarge___init__ : He.DefD := ⟨("TooLarge", some "__init__"), "__init__", "TooLarge.__init__", defArgs s_TooLarge___init__, defBody s_TooLarge___init__, defScope s_TooLarge___init__, [], []⟩
def hfn : List He.DefD := ([d_is_whole, d_is_name, d_are_names, d_is_type, d_is_number_word, d_is_of, d_is_dash_word, d_is_let, d_Reading___init__, d_Reading_key, d_Spot___init__, d_Spot_key, d_Spot_free, d_Spot_came, d_Spot_waits, d_Spot_valued, d_Way___init__, d_must_have, d_value_ways, d_operand_ways] : List He.DefD) ++ ([d_has_few, d_command_ways, d_meant, d_behind_coming, d_long_ways, d_letter_ways, d_option_ways, d_ways, d_start, d_holds, d_can_end, d_told, d_checked_words, d_readings, d_Refused___init__, d_rank, d_first_way, d_read, d_is_bound, d_is_takes] : List He.DefD) ++ ([d_Option___init__, d_Operand___init__, d_are_options, d_are_operands, d_are_commands, d_are_traits, d_is_condition, d_Table___init__, d_Table_is_inner, d_Table_names, d_Table_letter_rows, d_Table_table_at, d_Table_known, d_Table_option, d_has_twins, d__law_number, d__law_take, d__law_pick, d__law_asked, d_law] : List He.DefD) ++ ([d_BadPart___init__, d_BadWords___init__, d_TooLarge___init__] : List He.DefD)
def hfa : List He.Fa := [.glo "law"]
def hex (K : PySem.W.Frag) : Bool := tx.ok K
abbrev RR : PySem.W.OpenRow := PySem.W.OpenLaw.row PySem.Challenge.rw_switchyard_k12_known_lists
def htf : List He.Defn := []
abbrev hk : PySem.W.Hook := He.hookX 5 hfa hfn [] htf hex
def ob (s : PySem.W.SharedT) : He.AlX := He.obsX 5 hfa hfn [] htf hex (HandSHeadRun.getT s)
theorem ob_eq (s : PySem.W.SharedT) : ob s = hk.obs s.abs := He.obsX_eq (HandSHeadRun.getT_eq s)
def loose : List PySem.Str := (["SwitchError", "BadPart", "BadWords", "TooLarge", "SMALL", "FIGURES", "MOST_CHOSEN", "FAR", "is_whole", "is_name", "are_names", "is_type", "is_number_word", "is_of", "is_dash_word", "is_let", "MOST_WORDS", "VALUE", "ENDS", "LONG"] : List PySem.Str) ++ (["SHORT", "LETTERS", "MORE", "GROUP", "COMMAND", "Reading", "Spot", "Way", "must_have", "value_ways", "operand_ways", "has_few", "command_ways", "meant", "behind_coming", "long_ways", "letter_ways", "option_ways", "ways", "start"] : List PySem.Str) ++ (["holds", "can_end", "told", "checked_words", "readings", "Refused", "rank", "first_way", "read", "MOST_OPTIONS", "MOST_INNER", "MOST_OPERANDS", "MOST_COMMANDS", "MOST_TIMES", "MOST_CONDITIONS", "TRAITS", "OUTER_TRAITS", "is_bound", "is_takes", "Option"] : List PySem.Str) ++ (["Operand", "are_options", "are_operands", "are_commands", "are_traits", "is_condition", "Table", "has_twins", "_law_number", "_law_take", "_law_pick", "_law_asked"] : List PySem.Str)
section
open HandSHeadRun PySem PySem.W PySem.Calls PyProof.Rows
theorem map4 {α β γ δ ε : Type} (o : Option α) (f : α → β) (g : α → γ) (h : α → δ × ε) {a : β} {b : γ} {c : δ} {d : ε} (e1 : o.map f = some a) (e2 : o.map g = some b) (e3 : o.map (fun s => (h s).1) = some c) (e4 : o.map (fun s => (h s).2) = some d) : o.map (fun s => (f s, g s, h s)) = some (a, b, (c, d)) := by
  cases o with
  | none => cases e1
  | some s =>
    have h1 : f s = a := Option.some.inj e1
    have h2 : g s = b := Option.some.inj e2
    have h3 : (h s).1 = c := Option.some.inj e3
    have h4 : (h s).2 = d := Option.some.inj e4
    show some (f s, g s, h s) = _
    rw [h1, h2, ← h3, ← h4]
theorem rA (w : World) (os : OsState) : Option.map (fun s => looksF RR.prog (PySem.W.boot_heap w.params) s.abs) (endF (HandSHeadRun.stepQ (HandSHeadRun.denQ HandSHeadRun.tabQ) RR.prog w) 20000 RR.prog w os) = some true := by kernel_rfl
theorem rB (w : World) (os : OsState) : Option.map (fun s => HandSHeadRun.seenQ (PySem.W.view RR.prog [78]) loose (importedModules RR.prog.main.body) (fun s => PySem.W.xlAt (PySem.W.view RR.prog [78]) [] s && PySem.W.recOk RR.records s) s.abs) (endF (HandSHeadRun.stepQ (HandSHeadRun.denQ HandSHeadRun.tabQ) RR.prog w) 20000 RR.prog w os) = some (PySem.W.openGood (PySem.W.view RR.prog [78]) loose) := by kernel_rfl
theorem rC (w : World) (os : OsState) : Option.map (fun s => (ob s).1) (endF (HandSHeadRun.stepQ (HandSHeadRun.denQ HandSHeadRun.tabQ) RR.prog w) 20000 RR.prog w os) = some (He.valX hfn [] w).1 := by kernel_rfl
theorem map5 {α : Type} (o : Option α) (a b c d e f : α → Bool) (h1 : o.map a = some true) (h2 : o.map b = some true) (h3 : o.map c = some true) (h4 : o.map d = some true) (h5 : o.map e = some true) (k : ∀ s, a s = true → b s = true → c s = true → d s = true → e s = true → f s = true) : o.map f = some true := by
  cases o with
  | none => cases h1
  | some s => exact congrArg some (k s (Option.some.inj h1) (Option.some.inj h2) (Option.some.inj h3) (Option.some.inj h4) (Option.some.inj h5))
def frS (s : PySem.W.SharedT) : PySem.W.Frag := He.frT (HandSHeadRun.getT s) (He.asD (HandSHeadRun.getT s) 5)
theorem rD1 (w : World) (os : OsState) : Option.map (fun s => tx.o1 (frS s)) (endF (HandSHeadRun.stepQ (HandSHeadRun.denQ HandSHeadRun.tabQ) RR.prog w) 20000 RR.prog w os) = some true := by kernel_rfl
theorem rD2 (w : World) (os : OsState) : Option.map (fun s => tx.o2 (frS s)) (endF (HandSHeadRun.stepQ (HandSHeadRun.denQ HandSHeadRun.tabQ) RR.prog w) 20000 RR.prog w os) = some true := by kernel_rfl
theorem rD3 (w : World) (os : OsState) : Option.map (fun s => tx.o3 (frS s)) (endF (HandSHeadRun.stepQ (HandSHeadRun.denQ HandSHeadRun.tabQ) RR.prog w) 20000 RR.prog w os) = some true := by kernel_rfl
theorem rD4 (w : World) (os : OsState) : Option.map (fun s => tx.o4 (frS s)) (endF (HandSHeadRun.stepQ (HandSHeadRun.denQ HandSHeadRun.tabQ) RR.prog w) 20000 RR.prog w os) = some true := by kernel_rfl
theorem rD5 (w : World) (os : OsState) : Option.map (fun s => He.tabsB (HandSHeadRun.getT s) htf (frS s)) (endF (HandSHeadRun.stepQ (HandSHeadRun.denQ HandSHeadRun.tabQ) RR.prog w) 20000 RR.prog w os) = some true := by kernel_rfl
theorem rD (w : World) (os : OsState) : Option.map (fun s => (ob s).2) (endF (HandSHeadRun.stepQ (HandSHeadRun.denQ HandSHeadRun.tabQ) RR.prog w) 20000 RR.prog w os) = some true := map5 _ _ _ _ _ _ _ (rD1 w os) (rD2 w os) (rD3 w os) (rD4 w os) (rD5 w os) fun s q1 q2 q3 q4 q5 => by
  show (tx.ok (frS s) && He.tabsB (HandSHeadRun.getT s) htf (frS s)) = true
  rw [Tx.ok_of q1 q2 q3 q4, q5]
  rfl
theorem run (w : World) : HandSHeadRun.RunEq RR (PySem.W.view RR.prog [78]) hk ob 20000 loose w := fun os => map4 _ _ _ _ (rA w os) (rB w os) (rC w os) (rD w os)
end
theorem bx_BadPart___init__ : defBody s_BadPart___init__ = [keepSt "self" "part" "part" ⟨7, 8, 7, 12⟩ ⟨7, 8, 7, 17⟩ ⟨7, 20, 7, 24⟩ ⟨7, 8, 7, 24⟩] := by kernel_rfl
theorem bx_BadWords___init__ : defBody s_BadWords___init__ = [keepSt "self" "number" "number" ⟨11, 8, 11, 12⟩ ⟨11, 8, 11, 19⟩ ⟨11, 22, 11, 28⟩ ⟨11, 8, 11, 28⟩] := by kernel_rfl
theorem bx_TooLarge___init__ : defBody s_TooLarge___init__ = [keepSt "self" "number" "number" ⟨15, 8, 15, 12⟩ ⟨15, 8, 15, 19⟩ ⟨15, 22, 15, 28⟩ ⟨15, 8, 15, 28⟩] := by kernel_rfl
theorem txt {K : PySem.W.Frag} {wd : World} {h : Heap} {mg : Str → Option Value} (X : K.In h) (G : h.Ns mainGlobals mg) (c : He.SaysD hfa hfn K) (hk : tx.ok K = true) : letI := tx.gam K wd; Txt K mg pg fns := by
  letI := tx.gam K wd
  have q0 : Def K "is_whole" F_is_whole := by
    obtain ⟨fd, F⟩ := c.def_ 0 (d := d_is_whole) rfl
    exact ⟨⟨fd, _, _, _, _, F, (FunD.bindsN F (ps := ["value", "low", "high"]) fun _ _ _ _ _ _ us hl => match us, hl with | [_, _, _], _ => rfl), dfl_none (FunD.bindsN F (ps := ["value", "low", "high"]) fun _ _ _ _ _ _ us hl => match us, hl with | [_, _, _], _ => rfl)⟩, ⟨rfl, rfl, rfl, by decide +kernel, rfl, by decide +kernel, by decide +kernel⟩, rfl⟩
  have q1 : Def K "is_name" F_is_name := by
    obtain ⟨fd, F⟩ := c.def_ 1 (d := d_is_name) rfl
    exact ⟨⟨fd, _, _, _, _, F, (FunD.bindsN F (ps := ["value"]) fun _ _ _ _ _ _ us hl => match us, hl with | [_], _ => rfl), dfl_none (FunD.bindsN F (ps := ["value"]) fun _ _ _ _ _ _ us hl => match us, hl with | [_], _ => rfl)⟩, ⟨rfl, rfl, rfl, by decide +kernel, rfl, by decide +kernel, by decide +kernel⟩, rfl⟩
  have q2 : Def K "are_names" F_are_names := by
    obtain ⟨fd, F⟩ := c.def_ 2 (d := d_are_names) rfl
    exact ⟨⟨fd, _, _, _, _, F, (FunD.bindsN F (ps := ["value", "least", "most"]) fun _ _ _ _ _ _ us hl => match us, hl with | [_, _, _], _ => rfl), dfl_none (FunD.bindsN F (ps := ["value", "least", "most"]) fun _ _ _ _ _ _ us hl => match us, hl with | [_, _, _], _ => rfl)⟩, ⟨rfl, rfl, rfl, by decide +kernel, rfl, by decide +kernel, by decide +kernel⟩, rfl⟩
  have q3 : Def K "is_type" F_is_type := by
    obtain ⟨fd, F⟩ := c.def_ 3 (d := d_is_type) rfl
    exact ⟨⟨fd, _, _, _, _, F, (FunD.bindsN F (ps := ["value"]) fun _ _ _ _ _ _ us hl => match us, hl with | [_], _ => rfl), dfl_none (FunD.bindsN F (ps := ["value"]) fun _ _ _ _ _ _ us hl => match us, hl with | [_], _ => rfl)⟩, ⟨rfl, rfl, rfl, by decide +kernel, rfl, by decide +kernel, by decide +kernel⟩, rfl⟩
  have q4 : Def K "is_number_word" F_is_number_word := by
    obtain ⟨fd, F⟩ := c.def_ 4 (d := d_is_number_word) rfl
    exact ⟨⟨fd, _, _, _, _, F, (FunD.bindsN F (ps := ["word", "low", "high"]) fun _ _ _ _ _ _ us hl => match us, hl with | [_, _, _], _ => rfl), dfl_none (FunD.bindsN F (ps := ["word", "low", "high"]) fun _ _ _ _ _ _ us hl => match us, hl with | [_, _, _], _ => rfl)⟩, ⟨rfl, rfl, rfl, by decide +kernel, rfl, by decide +kernel, by decide +kernel⟩, rfl⟩
  have q5 : Def K "is_of" F_is_of := by
    obtain ⟨fd, F⟩ := c.def_ 5 (d := d_is_of) rfl
    exact ⟨⟨fd, _, _, _, _, F, (FunD.bindsN F (ps := ["told", "word"]) fun _ _ _ _ _ _ us hl => match us, hl with | [_, _], _ => rfl), dfl_none (FunD.bindsN F (ps := ["told", "word"]) fun _ _ _ _ _ _ us hl => match us, hl with | [_, _], _ => rfl)⟩, ⟨rfl, rfl, rfl, by decide +kernel, rfl, by decide +kernel, by decide +kernel⟩, rfl⟩
  have q6 : Def K "is_dash_word" F_is_dash_word := by
    obtain ⟨fd, F⟩ := c.def_ 6 (d := d_is_dash_word) rfl
    exact ⟨⟨fd, _, _, _, _, F, (FunD.bindsN F (ps := ["word"]) fun _ _ _ _ _ _ us hl => match us, hl with | [_], _ => rfl), dfl_none (FunD.bindsN F (ps := ["word"]) fun _ _ _ _ _ _ us hl => match us, hl with | [_], _ => rfl)⟩, ⟨rfl, rfl, rfl, by decide +kernel, rfl, by decide +kernel, by decide +kernel⟩, rfl⟩
  have q7 : Def K "is_let" F_is_let := by
    obtain ⟨fd, F⟩ := c.def_ 7 (d := d_is_let) rfl
    exact ⟨⟨fd, _, _, _, _, F, (FunD.bindsN F (ps := ["told", "word", "traits", "is_over"]) fun _ _ _ _ _ _ us hl => match us, hl with | [_, _, _, _], _ => rfl), dfl_none (FunD.bindsN F (ps := ["told", "word", "traits", "is_over"]) fun _ _ _ _ _ _ us hl => match us, hl with | [_, _, _, _], _ => rfl)⟩, ⟨rfl, rfl, rfl, by decide +kernel, rfl, by decide +kernel, by decide +kernel⟩, rfl⟩
  have q8 : Def K "Reading.__init__" F_Reading___init__ := by
    obtain ⟨fd, F⟩ := c.def_ 8 (d := d_Reading___init__) rfl
    exact ⟨⟨fd, _, _, _, _, F, (FunD.bindsN F (ps := ["self", "options", "operands", "command"]) fun _ _ _ _ _ _ us hl => match us, hl with | [_, _, _, _], _ => rfl), dfl_none (FunD.bindsN F (ps := ["self", "options", "operands", "command"]) fun _ _ _ _ _ _ us hl => match us, hl with | [_, _, _, _], _ => rfl)⟩, ⟨rfl, rfl, rfl, by decide +kernel, rfl, by decide +kernel, by decide +kernel⟩, rfl⟩
  have q9 : Def K "Reading.key" F_Reading_key := by
    obtain ⟨fd, F⟩ := c.def_ 9 (d := d_Reading_key) rfl
    exact ⟨⟨fd, _, _, _, _, F, (FunD.bindsN F (ps := ["self"]) fun _ _ _ _ _ _ us hl => match us, hl with | [_], _ => rfl), dfl_none (FunD.bindsN F (ps := ["self"]) fun _ _ _ _ _ _ us hl => match us, hl with | [_], _ => rfl)⟩, ⟨rfl, rfl, rfl, by decide +kernel, rfl, by decide +kernel, by decide +kernel⟩, rfl⟩
  have q10 : Def K "Spot.__init__" F_Spot___init__ := by
    obtain ⟨fd, F⟩ := c.def_ 10 (d := d_Spot___init__) rfl
    exact ⟨⟨fd, _, _, _, _, F, (FunD.bindsN F (ps := ["self", "path", "group", "many", "over", "pending", "comings", "words"]) fun _ _ _ _ _ _ us hl => match us, hl with | [_, _, _, _, _, _, _, _], _ => rfl), dfl_none (FunD.bindsN F (ps := ["self", "path", "group", "many", "over", "pending", "comings", "words"]) fun _ _ _ _ _ _ us hl => match us, hl with | [_, _, _, _, _, _, _, _], _ => rfl)⟩, ⟨rfl, rfl, rfl, by decide +kernel, rfl, by decide +kernel, by decide +kernel⟩, rfl⟩
  have q11 : Def K "Spot.key" F_Spot_key := by
    obtain ⟨fd, F⟩ := c.def_ 11 (d := d_Spot_key) rfl
    exact ⟨⟨fd, _, _, _, _, F, (FunD.bindsN F (ps := ["self"]) fun _ _ _ _ _ _ us hl => match us, hl with | [_], _ => rfl), dfl_none (FunD.bindsN F (ps := ["self"]) fun _ _ _ _ _ _ us hl => match us, hl with | [_], _ => rfl)⟩, ⟨rfl, rfl, rfl, by decide +kernel, rfl, by decide +kernel, by decide +kernel⟩, rfl⟩
  have q12 : Def K "Spot.free" F_Spot_free := by
    obtain ⟨fd, F⟩ := c.def_ 12 (d := d_Spot_free) rfl
    exact ⟨⟨fd, _, _, _, _, F, (FunD.bindsN F (ps := ["self"]) fun _ _ _ _ _ _ us hl => match us, hl with | [_], _ => rfl), dfl_none (FunD.bindsN F (ps := ["self"]) fun _ _ _ _ _ _ us hl => match us, hl with | [_], _ => rfl)⟩, ⟨rfl, rfl, rfl, by decide +kernel, rfl, by decide +kernel, by decide +kernel⟩, rfl⟩
  have q13 : Def K "Spot.came" F_Spot_came := by
    obtain ⟨fd, F⟩ := c.def_ 13 (d := d_Spot_came) rfl
    exact ⟨⟨fd, _, _, _, _, F, (FunD.bindsN F (ps := ["self", "option"]) fun _ _ _ _ _ _ us hl => match us, hl with | [_, _], _ => rfl), dfl_none (FunD.bindsN F (ps := ["self", "option"]) fun _ _ _ _ _ _ us hl => match us, hl with | [_, _], _ => rfl)⟩, ⟨rfl, rfl, rfl, by decide +kernel, rfl, by decide +kernel, by decide +kernel⟩, rfl⟩
  have q14 : Def K "Spot.waits" F_Spot_waits := by
    obtain ⟨fd, F⟩ := c.def_ 14 (d := d_Spot_waits) rfl
    exact ⟨⟨fd, _, _, _, _, F, (FunD.bindsN F (ps := ["self", "option"]) fun _ _ _ _ _ _ us hl => match us, hl with | [_, _], _ => rfl), dfl_none (FunD.bindsN F (ps := ["self", "option"]) fun _ _ _ _ _ _ us hl => match us, hl with | [_, _], _ => rfl)⟩, ⟨rfl, rfl, rfl, by decide +kernel, rfl, by decide +kernel, by decide +kernel⟩, rfl⟩
  have q15 : Def K "Spot.valued" F_Spot_valued := by
    obtain ⟨fd, F⟩ := c.def_ 15 (d := d_Spot_valued) rfl
    exact ⟨⟨fd, _, _, _, _, F, (FunD.bindsN F (ps := ["self", "name", "value", "pending"]) fun _ _ _ _ _ _ us hl => match us, hl with | [_, _, _, _], _ => rfl), dfl_none (FunD.bindsN F (ps := ["self", "name", "value", "pending"]) fun _ _ _ _ _ _ us hl => match us, hl with | [_, _, _, _], _ => rfl)⟩, ⟨rfl, rfl, rfl, by decide +kernel, rfl, by decide +kernel, by decide +kernel⟩, rfl⟩
  have q16 : Def K "Way.__init__" F_Way___init__ := by
    obtain ⟨fd, F⟩ := c.def_ 16 (d := d_Way___init__) rfl
    exact ⟨⟨fd, _, _, _, _, F, (FunD.bindsN F (ps := ["self", "kind", "names", "value", "spot"]) fun _ _ _ _ _ _ us hl => match us, hl with | [_, _, _, _, _], _ => rfl), dfl_none (FunD.bindsN F (ps := ["self", "kind", "names", "value", "spot"]) fun _ _ _ _ _ _ us hl => match us, hl with | [_, _, _, _, _], _ => rfl)⟩, ⟨rfl, rfl, rfl, by decide +kernel, rfl, by decide +kernel, by decide +kernel⟩, rfl⟩
  have q17 : Def K "must_have" F_must_have := by
    obtain ⟨fd, F⟩ := c.def_ 17 (d := d_must_have) rfl
    exact ⟨⟨fd, _, _, _, _, F, (FunD.bindsN F (ps := ["table", "spot"]) fun _ _ _ _ _ _ us hl => match us, hl with | [_, _], _ => rfl), dfl_none (FunD.bindsN F (ps := ["table", "spot"]) fun _ _ _ _ _ _ us hl => match us, hl with | [_, _], _ => rfl)⟩, ⟨rfl, rfl, rfl, by decide +kernel, rfl, by decide +kernel, by decide +kernel⟩, rfl⟩
  have q18 : Def K "value_ways" F_value_ways := by
    obtain ⟨fd, F⟩ := c.def_ 18 (d := d_value_ways) rfl
    exact ⟨⟨fd, _, _, _, _, F, (FunD.bindsN F (ps := ["table", "spot", "word"]) fun _ _ _ _ _ _ us hl => match us, hl with | [_, _, _], _ => rfl), dfl_none (FunD.bindsN F (ps := ["table", "spot", "word"]) fun _ _ _ _ _ _ us hl => match us, hl with | [_, _, _], _ => rfl)⟩, ⟨rfl, rfl, rfl, by decide +kernel, rfl, by decide +kernel, by decide +kernel⟩, rfl⟩
  have q19 : Def K "operand_ways" F_operand_ways := by
    obtain ⟨fd, F⟩ := c.def_ 19 (d := d_operand_ways) rfl
    exact ⟨⟨fd, _, _, _, _, F, (FunD.bindsN F (ps := ["table", "spot", "word"]) fun _ _ _ _ _ _ us hl => match us, hl with | [_, _, _], _ => rfl), dfl_none (FunD.bindsN F (ps := ["table", "spot", "word"]) fun _ _ _ _ _ _ us hl => match us, hl with | [_, _, _], _ => rfl)⟩, ⟨rfl, rfl, rfl, by decide +kernel, rfl, by decide +kernel, by decide +kernel⟩, rfl⟩
  have q20 : Def K "has_few" F_has_few := by
    obtain ⟨fd, F⟩ := c.def_ 20 (d := d_has_few) rfl
    exact ⟨⟨fd, _, _, _, _, F, (FunD.bindsN F (ps := ["inner", "spot"]) fun _ _ _ _ _ _ us hl => match us, hl with | [_, _], _ => rfl), dfl_none (FunD.bindsN F (ps := ["inner", "spot"]) fun _ _ _ _ _ _ us hl => match us, hl with | [_, _], _ => rfl)⟩, ⟨rfl, rfl, rfl, by decide +kernel, rfl, by decide +kernel, by decide +kernel⟩, rfl⟩
  have q21 : Def K "command_ways" F_command_ways := by
    obtain ⟨fd, F⟩ := c.def_ 21 (d := d_command_ways) rfl
    exact ⟨⟨fd, _, _, _, _, F, (FunD.bindsN F (ps := ["table", "spot", "word"]) fun _ _ _ _ _ _ us hl => match us, hl with | [_, _, _], _ => rfl), dfl_none (FunD.bindsN F (ps := ["table", "spot", "word"]) fun _ _ _ _ _ _ us hl => match us, hl with | [_, _, _], _ => rfl)⟩, ⟨rfl, rfl, rfl, by decide +kernel, rfl, by decide +kernel, by decide +kernel⟩, rfl⟩
  have q22 : Def K "meant" F_meant := by
    obtain ⟨fd, F⟩ := c.def_ 22 (d := d_meant) rfl
    exact ⟨⟨fd, _, _, _, _, F, (FunD.bindsN F (ps := ["table", "path", "text"]) fun _ _ _ _ _ _ us hl => match us, hl with | [_, _, _], _ => rfl), dfl_none (FunD.bindsN F (ps := ["table", "path", "text"]) fun _ _ _ _ _ _ us hl => match us, hl with | [_, _, _], _ => rfl)⟩, ⟨rfl, rfl, rfl, by decide +kernel, rfl, by decide +kernel, by decide +kernel⟩, rfl⟩
  have q23 : Def K "behind_coming" F_behind_coming := by
    obtain ⟨fd, F⟩ := c.def_ 23 (d := d_behind_coming) rfl
    exact ⟨⟨fd, _, _, _, _, F, (FunD.bindsN F (ps := ["option", "spot"]) fun _ _ _ _ _ _ us hl => match us, hl with | [_, _], _ => rfl), dfl_none (FunD.bindsN F (ps := ["option", "spot"]) fun _ _ _ _ _ _ us hl => match us, hl with | [_, _], _ => rfl)⟩, ⟨rfl, rfl, rfl, by decide +kernel, rfl, by decide +kernel, by decide +kernel⟩, rfl⟩
  have q24 : Def K "long_ways" F_long_ways := by
    obtain ⟨fd, F⟩ := c.def_ 24 (d := d_long_ways) rfl
    exact ⟨⟨fd, _, _, _, _, F, (FunD.bindsN F (ps := ["table", "spot", "word"]) fun _ _ _ _ _ _ us hl => match us, hl with | [_, _, _], _ => rfl), dfl_none (FunD.bindsN F (ps := ["table", "spot", "word"]) fun _ _ _ _ _ _ us hl => match us, hl with | [_, _, _], _ => rfl)⟩, ⟨rfl, rfl, rfl, by decide +kernel, rfl, by decide +kernel, by decide +kernel⟩, rfl⟩
  have q25 : Def K "letter_ways" F_letter_ways := by
    obtain ⟨fd, F⟩ := c.def_ 25 (d := d_letter_ways) rfl
    exact ⟨⟨fd, _, _, _, _, F, (FunD.bindsN F (ps := ["table", "spot", "signs"]) fun _ _ _ _ _ _ us hl => match us, hl with | [_, _, _], _ => rfl), dfl_none (FunD.bindsN F (ps := ["table", "spot", "signs"]) fun _ _ _ _ _ _ us hl => match us, hl with | [_, _, _], _ => rfl)⟩, ⟨rfl, rfl, rfl, by decide +kernel, rfl, by decide +kernel, by decide +kernel⟩, rfl⟩
  have q26 : Def K "option_ways" F_option_ways := by
    obtain ⟨fd, F⟩ := c.def_ 26 (d := d_option_ways) rfl
    exact ⟨⟨fd, _, _, _, _, F, (FunD.bindsN F (ps := ["table", "spot", "word"]) fun _ _ _ _ _ _ us hl => match us, hl with | [_, _, _], _ => rfl), dfl_none (FunD.bindsN F (ps := ["table", "spot", "word"]) fun _ _ _ _ _ _ us hl => match us, hl with | [_, _, _], _ => rfl)⟩, ⟨rfl, rfl, rfl, by decide +kernel, rfl, by decide +kernel, by decide +kernel⟩, rfl⟩
  have q27 : Def K "ways" F_ways := by
    obtain ⟨fd, F⟩ := c.def_ 27 (d := d_ways) rfl
    exact ⟨⟨fd, _, _, _, _, F, (FunD.bindsN F (ps := ["table", "spot", "word"]) fun _ _ _ _ _ _ us hl => match us, hl with | [_, _, _], _ => rfl), dfl_none (FunD.bindsN F (ps := ["table", "spot", "word"]) fun _ _ _ _ _ _ us hl => match us, hl with | [_, _, _], _ => rfl)⟩, ⟨rfl, rfl, rfl, by decide +kernel, rfl, by decide +kernel, by decide +kernel⟩, rfl⟩
  have q28 : Def K "start" F_start := by
    obtain ⟨fd, F⟩ := c.def_ 28 (d := d_start) rfl
    exact ⟨⟨fd, _, _, _, _, F, (FunD.bindsN F (ps := []) fun _ _ _ _ _ _ us hl => match us, hl with | [], _ => rfl), dfl_none (FunD.bindsN F (ps := []) fun _ _ _ _ _ _ us hl => match us, hl with | [], _ => rfl)⟩, ⟨rfl, rfl, rfl, by decide +kernel, rfl, by decide +kernel, by decide +kernel⟩, rfl⟩
  have q29 : Def K "holds" F_holds := by
    obtain ⟨fd, F⟩ := c.def_ 29 (d := d_holds) rfl
    exact ⟨⟨fd, _, _, _, _, F, (FunD.bindsN F (ps := ["condition", "came"]) fun _ _ _ _ _ _ us hl => match us, hl with | [_, _], _ => rfl), dfl_none (FunD.bindsN F (ps := ["condition", "came"]) fun _ _ _ _ _ _ us hl => match us, hl with | [_, _], _ => rfl)⟩, ⟨rfl, rfl, rfl, by decide +kernel, rfl, by decide +kernel, by decide +kernel⟩, rfl⟩
  have q30 : Def K "can_end" F_can_end := by
    obtain ⟨fd, F⟩ := c.def_ 30 (d := d_can_end) rfl
    exact ⟨⟨fd, _, _, _, _, F, (FunD.bindsN F (ps := ["table", "spot"]) fun _ _ _ _ _ _ us hl => match us, hl with | [_, _], _ => rfl), dfl_none (FunD.bindsN F (ps := ["table", "spot"]) fun _ _ _ _ _ _ us hl => match us, hl with | [_, _], _ => rfl)⟩, ⟨rfl, rfl, rfl, by decide +kernel, rfl, by decide +kernel, by decide +kernel⟩, rfl⟩
  have q31 : Def K "told" F_told := by
    obtain ⟨fd, F⟩ := c.def_ 31 (d := d_told) rfl
    exact ⟨⟨fd, _, _, _, _, F, (FunD.bindsN F (ps := ["table", "spot"]) fun _ _ _ _ _ _ us hl => match us, hl with | [_, _], _ => rfl), dfl_none (FunD.bindsN F (ps := ["table", "spot"]) fun _ _ _ _ _ _ us hl => match us, hl with | [_, _], _ => rfl)⟩, ⟨rfl, rfl, rfl, by decide +kernel, rfl, by decide +kernel, by decide +kernel⟩, rfl⟩
  have q32 : Def K "checked_words" F_checked_words := by
    obtain ⟨fd, F⟩ := c.def_ 32 (d := d_checked_words) rfl
    exact ⟨⟨fd, _, _, _, _, F, (FunD.bindsN F (ps := ["words"]) fun _ _ _ _ _ _ us hl => match us, hl with | [_], _ => rfl), dfl_none (FunD.bindsN F (ps := ["words"]) fun _ _ _ _ _ _ us hl => match us, hl with | [_], _ => rfl)⟩, ⟨rfl, rfl, rfl, by decide +kernel, rfl, by decide +kernel, by decide +kernel⟩, rfl⟩
  have q33 : Def K "readings" F_readings := by
    obtain ⟨fd, F⟩ := c.def_ 33 (d := d_readings) rfl
    exact ⟨⟨fd, _, _, _, _, F, (FunD.bindsN F (ps := ["table", "words"]) fun _ _ _ _ _ _ us hl => match us, hl with | [_, _], _ => rfl), dfl_none (FunD.bindsN F (ps := ["table", "words"]) fun _ _ _ _ _ _ us hl => match us, hl with | [_, _], _ => rfl)⟩, ⟨rfl, rfl, rfl, by decide +kernel, rfl, by decide +kernel, by decide +kernel⟩, rfl⟩
  have q34 : Def K "Refused.__init__" F_Refused___init__ := by
    obtain ⟨fd, F⟩ := c.def_ 34 (d := d_Refused___init__) rfl
    exact ⟨⟨fd, _, _, _, _, F, (FunD.bindsN F (ps := ["self", "number"]) fun _ _ _ _ _ _ us hl => match us, hl with | [_, _], _ => rfl), dfl_none (FunD.bindsN F (ps := ["self", "number"]) fun _ _ _ _ _ _ us hl => match us, hl with | [_, _], _ => rfl)⟩, ⟨rfl, rfl, rfl, by decide +kernel, rfl, by decide +kernel, by decide +kernel⟩, rfl⟩
  have q35 : Def K "rank" F_rank := by
    obtain ⟨fd, F⟩ := c.def_ 35 (d := d_rank) rfl
    exact ⟨⟨fd, _, _, _, _, F, (FunD.bindsN F (ps := ["way"]) fun _ _ _ _ _ _ us hl => match us, hl with | [_], _ => rfl), dfl_none (FunD.bindsN F (ps := ["way"]) fun _ _ _ _ _ _ us hl => match us, hl with | [_], _ => rfl)⟩, ⟨rfl, rfl, rfl, by decide +kernel, rfl, by decide +kernel, by decide +kernel⟩, rfl⟩
  have q36 : Def K "first_way" F_first_way := by
    obtain ⟨fd, F⟩ := c.def_ 36 (d := d_first_way) rfl
    exact ⟨⟨fd, _, _, _, _, F, (FunD.bindsN F (ps := ["table", "spot", "word"]) fun _ _ _ _ _ _ us hl => match us, hl with | [_, _, _], _ => rfl), dfl_none (FunD.bindsN F (ps := ["table", "spot", "word"]) fun _ _ _ _ _ _ us hl => match us, hl with | [_, _, _], _ => rfl)⟩, ⟨rfl, rfl, rfl, by decide +kernel, rfl, by decide +kernel, by decide +kernel⟩, rfl⟩
  have q37 : Def K "read" F_read := by
    obtain ⟨fd, F⟩ := c.def_ 37 (d := d_read) rfl
    exact ⟨⟨fd, _, _, _, _, F, (FunD.bindsN F (ps := ["table", "words"]) fun _ _ _ _ _ _ us hl => match us, hl with | [_, _], _ => rfl), dfl_none (FunD.bindsN F (ps := ["table", "words"]) fun _ _ _ _ _ _ us hl => match us, hl with | [_, _], _ => rfl)⟩, ⟨rfl, rfl, rfl, by decide +kernel, rfl, by decide +kernel, by decide +kernel⟩, rfl⟩
  have q38 : Def K "is_bound" F_is_bound := by
    obtain ⟨fd, F⟩ := c.def_ 38 (d := d_is_bound) rfl
    exact ⟨⟨fd, _, _, _, _, F, (FunD.bindsN F (ps := ["high", "low"]) fun _ _ _ _ _ _ us hl => match us, hl with | [_, _], _ => rfl), dfl_none (FunD.bindsN F (ps := ["high", "low"]) fun _ _ _ _ _ _ us hl => match us, hl with | [_, _], _ => rfl)⟩, ⟨rfl, rfl, rfl, by decide +kernel, rfl, by decide +kernel, by decide +kernel⟩, rfl⟩
  have q39 : Def K "is_takes" F_is_takes := by
    obtain ⟨fd, F⟩ := c.def_ 39 (d := d_is_takes) rfl
    exact ⟨⟨fd, _, _, _, _, F, (FunD.bindsN F (ps := ["value"]) fun _ _ _ _ _ _ us hl => match us, hl with | [_], _ => rfl), dfl_none (FunD.bindsN F (ps := ["value"]) fun _ _ _ _ _ _ us hl => match us, hl with | [_], _ => rfl)⟩, ⟨rfl, rfl, rfl, by decide +kernel, rfl, by decide +kernel, by decide +kernel⟩, rfl⟩
  have q40 : Def K "Option.__init__" F_Option___init__ := by
    obtain ⟨fd, F⟩ := c.def_ 40 (d := d_Option___init__) rfl
    exact ⟨⟨fd, _, _, _, _, F, (by
      obtain ⟨ds, hv, hb⟩ := FunD.binds1 F (ps := ["self", "name", "letter", "takes", "low", "high"]) 6 2 (fun z => by cases z) rfl (fun T kV doc pm an cdv ct us its hu hi => match us, its, hu, hi with | [_, _, _, _, _, _], [_, _], _, _ => ⟨_, rfl, rfl⟩)
      have hv' : Vals [] ds := hv
      cases hv'
      exact hb), dfl_some 2 (fun j hj => match j, hj with | 0, _ => FunD.binds1 F (ps := ["self", "name", "letter", "takes", "low", "high"]) 4 0 (fun z => by cases z) rfl (fun T kV doc pm an cdv ct us its hu hi => match us, its, hu, hi with | [_, _, _, _], [_, _], _, _ => ⟨_, rfl, rfl⟩) | 1, _ => FunD.binds1 F (ps := ["self", "name", "letter", "takes", "low", "high"]) 5 1 (fun z => by cases z) rfl (fun T kV doc pm an cdv ct us its hu hi => match us, its, hu, hi with | [_, _, _, _, _], [_, _], _, _ => ⟨_, rfl, rfl⟩) | 2, _ => FunD.binds1 F (ps := ["self", "name", "letter", "takes", "low", "high"]) 6 2 (fun z => by cases z) rfl (fun T kV doc pm an cdv ct us its hu hi => match us, its, hu, hi with | [_, _, _, _, _, _], [_, _], _, _ => ⟨_, rfl, rfl⟩) | j + 3, hj => absurd hj (by omega)) (fun B ρ => (.cons (.int _) (.cons .non .nil))) rfl⟩, ⟨rfl, rfl, rfl, by decide +kernel, rfl, by decide +kernel, by decide +kernel⟩, rfl⟩
  have q41 : Def K "Operand.__init__" F_Operand___init__ := by
    obtain ⟨fd, F⟩ := c.def_ 41 (d := d_Operand___init__) rfl
    exact ⟨⟨fd, _, _, _, _, F, (by
      obtain ⟨ds, hv, hb⟩ := FunD.binds1 F (ps := ["self", "name", "kind", "few", "many"]) 5 2 (fun z => by cases z) rfl (fun T kV doc pm an cdv ct us its hu hi => match us, its, hu, hi with | [_, _, _, _, _], [_, _], _, _ => ⟨_, rfl, rfl⟩)
      have hv' : Vals [] ds := hv
      cases hv'
      exact hb), dfl_some 2 (fun j hj => match j, hj with | 0, _ => FunD.binds1 F (ps := ["self", "name", "kind", "few", "many"]) 3 0 (fun z => by cases z) rfl (fun T kV doc pm an cdv ct us its hu hi => match us, its, hu, hi with | [_, _, _], [_, _], _, _ => ⟨_, rfl, rfl⟩) | 1, _ => FunD.binds1 F (ps := ["self", "name", "kind", "few", "many"]) 4 1 (fun z => by cases z) rfl (fun T kV doc pm an cdv ct us its hu hi => match us, its, hu, hi with | [_, _, _, _], [_, _], _, _ => ⟨_, rfl, rfl⟩) | 2, _ => FunD.binds1 F (ps := ["self", "name", "kind", "few", "many"]) 5 2 (fun z => by cases z) rfl (fun T kV doc pm an cdv ct us its hu hi => match us, its, hu, hi with | [_, _, _, _, _], [_, _], _, _ => ⟨_, rfl, rfl⟩) | j + 3, hj => absurd hj (by omega)) (fun B ρ => (.cons (.int _) (.cons (.int _) .nil))) rfl⟩, ⟨rfl, rfl, rfl, by decide +kernel, rfl, by decide +kernel, by decide +kernel⟩, rfl⟩
  have q42 : Def K "are_options" F_are_options := by
    obtain ⟨fd, F⟩ := c.def_ 42 (d := d_are_options) rfl
    exact ⟨⟨fd, _, _, _, _, F, (FunD.bindsN F (ps := ["value"]) fun _ _ _ _ _ _ us hl => match us, hl with | [_], _ => rfl), dfl_none (FunD.bindsN F (ps := ["value"]) fun _ _ _ _ _ _ us hl => match us, hl with | [_], _ => rfl)⟩, ⟨rfl, rfl, rfl, by decide +kernel, rfl, by decide +kernel, by decide +kernel⟩, rfl⟩
  have q43 : Def K "are_operands" F_are_operands := by
    obtain ⟨fd, F⟩ := c.def_ 43 (d := d_are_operands) rfl
    exact ⟨⟨fd, _, _, _, _, F, (FunD.bindsN F (ps := ["value"]) fun _ _ _ _ _ _ us hl => match us, hl with | [_], _ => rfl), dfl_none (FunD.bindsN F (ps := ["value"]) fun _ _ _ _ _ _ us hl => match us, hl with | [_], _ => rfl)⟩, ⟨rfl, rfl, rfl, by decide +kernel, rfl, by decide +kernel, by decide +kernel⟩, rfl⟩
  have q44 : Def K "are_commands" F_are_commands := by
    obtain ⟨fd, F⟩ := c.def_ 44 (d := d_are_commands) rfl
    exact ⟨⟨fd, _, _, _, _, F, (FunD.bindsN F (ps := ["value"]) fun _ _ _ _ _ _ us hl => match us, hl with | [_], _ => rfl), dfl_none (FunD.bindsN F (ps := ["value"]) fun _ _ _ _ _ _ us hl => match us, hl with | [_], _ => rfl)⟩, ⟨rfl, rfl, rfl, by decide +kernel, rfl, by decide +kernel, by decide +kernel⟩, rfl⟩
  have q45 : Def K "are_traits" F_are_traits := by
    obtain ⟨fd, F⟩ := c.def_ 45 (d := d_are_traits) rfl
    exact ⟨⟨fd, _, _, _, _, F, (FunD.bindsN F (ps := ["value", "commands"]) fun _ _ _ _ _ _ us hl => match us, hl with | [_, _], _ => rfl), dfl_none (FunD.bindsN F (ps := ["value", "commands"]) fun _ _ _ _ _ _ us hl => match us, hl with | [_, _], _ => rfl)⟩, ⟨rfl, rfl, rfl, by decide +kernel, rfl, by decide +kernel, by decide +kernel⟩, rfl⟩
  have q46 : Def K "is_condition" F_is_condition := by
    obtain ⟨fd, F⟩ := c.def_ 46 (d := d_is_condition) rfl
    exact ⟨⟨fd, _, _, _, _, F, (FunD.bindsN F (ps := ["value", "names"]) fun _ _ _ _ _ _ us hl => match us, hl with | [_, _], _ => rfl), dfl_none (FunD.bindsN F (ps := ["value", "names"]) fun _ _ _ _ _ _ us hl => match us, hl with | [_, _], _ => rfl)⟩, ⟨rfl, rfl, rfl, by decide +kernel, rfl, by decide +kernel, by decide +kernel⟩, rfl⟩
  have q47 : Def K "Table.__init__" F_Table___init__ := by
    obtain ⟨fd, F⟩ := c.def_ 47 (d := d_Table___init__) rfl
    exact ⟨⟨fd, _, _, _, _, F, (by
      obtain ⟨ds, hv, hb⟩ := FunD.binds1 F (ps := ["self", "options", "operands", "commands", "traits", "conditions"]) 6 4 (fun z => by cases z) rfl (fun T kV doc pm an cdv ct us its hu hi => match us, its, hu, hi with | [_, _, _, _, _, _], [_, _, _, _], _, _ => ⟨_, rfl, rfl⟩)
      have hv' : Vals [] ds := hv
      cases hv'
      exact hb), dfl_some 4 (fun j hj => match j, hj with | 0, _ => FunD.binds1 F (ps := ["self", "options", "operands", "commands", "traits", "conditions"]) 2 0 (fun z => by cases z) rfl (fun T kV doc pm an cdv ct us its hu hi => match us, its, hu, hi with | [_, _], [_, _, _, _], _, _ => ⟨_, rfl, rfl⟩) | 1, _ => FunD.binds1 F (ps := ["self", "options", "operands", "commands", "traits", "conditions"]) 3 1 (fun z => by cases z) rfl (fun T kV doc pm an cdv ct us its hu hi => match us, its, hu, hi with | [_, _, _], [_, _, _, _], _, _ => ⟨_, rfl, rfl⟩) | 2, _ => FunD.binds1 F (ps := ["self", "options", "operands", "commands", "traits", "conditions"]) 4 2 (fun z => by cases z) rfl (fun T kV doc pm an cdv ct us its hu hi => match us, its, hu, hi with | [_, _, _, _], [_, _, _, _], _, _ => ⟨_, rfl, rfl⟩) | 3, _ => FunD.binds1 F (ps := ["self", "options", "operands", "commands", "traits", "conditions"]) 5 3 (fun z => by cases z) rfl (fun T kV doc pm an cdv ct us its hu hi => match us, its, hu, hi with | [_, _, _, _, _], [_, _, _, _], _, _ => ⟨_, rfl, rfl⟩) | 4, _ => FunD.binds1 F (ps := ["self", "options", "operands", "commands", "traits", "conditions"]) 6 4 (fun z => by cases z) rfl (fun T kV doc pm an cdv ct us its hu hi => match us, its, hu, hi with | [_, _, _, _, _, _], [_, _, _, _], _, _ => ⟨_, rfl, rfl⟩) | j + 5, hj => absurd hj (by omega)) (fun B ρ => (.cons (.tup (tx.et hk (List.mem_cons_self ..) B) .nil) (.cons .non (.cons (.tup (tx.et hk (List.mem_cons_of_mem _ (List.mem_cons_self ..)) B) .nil) (.cons (.tup (tx.et hk (List.mem_cons_of_mem _ (List.mem_cons_of_mem _ (List.mem_cons_self ..))) B) .nil) .nil))))) rfl⟩, ⟨rfl, rfl, rfl, by decide +kernel, rfl, by decide +kernel, by decide +kernel⟩, rfl⟩
  have q48 : Def K "Table.is_inner" F_Table_is_inner := by
    obtain ⟨fd, F⟩ := c.def_ 48 (d := d_Table_is_inner) rfl
    exact ⟨⟨fd, _, _, _, _, F, (FunD.bindsN F (ps := ["self"]) fun _ _ _ _ _ _ us hl => match us, hl with | [_], _ => rfl), dfl_none (FunD.bindsN F (ps := ["self"]) fun _ _ _ _ _ _ us hl => match us, hl with | [_], _ => rfl)⟩, ⟨rfl, rfl, rfl, by decide +kernel, rfl, by decide +kernel, by decide +kernel⟩, rfl⟩
  have q49 : Def K "Table.names" F_Table_names := by
    obtain ⟨fd, F⟩ := c.def_ 49 (d := d_Table_names) rfl
    exact ⟨⟨fd, _, _, _, _, F, (FunD.bindsN F (ps := ["self"]) fun _ _ _ _ _ _ us hl => match us, hl with | [_], _ => rfl), dfl_none (FunD.bindsN F (ps := ["self"]) fun _ _ _ _ _ _ us hl => match us, hl with | [_], _ => rfl)⟩, ⟨rfl, rfl, rfl, by decide +kernel, rfl, by decide +kernel, by decide +kernel⟩, rfl⟩
  have q50 : Def K "Table.letter_rows" F_Table_letter_rows := by
    obtain ⟨fd, F⟩ := c.def_ 50 (d := d_Table_letter_rows) rfl
    exact ⟨⟨fd, _, _, _, _, F, (FunD.bindsN F (ps := ["self"]) fun _ _ _ _ _ _ us hl => match us, hl with | [_], _ => rfl), dfl_none (FunD.bindsN F (ps := ["self"]) fun _ _ _ _ _ _ us hl => match us, hl with | [_], _ => rfl)⟩, ⟨rfl, rfl, rfl, by decide +kernel, rfl, by decide +kernel, by decide +kernel⟩, rfl⟩
  have q51 : Def K "Table.table_at" F_Table_table_at := by
    obtain ⟨fd, F⟩ := c.def_ 51 (d := d_Table_table_at) rfl
    exact ⟨⟨fd, _, _, _, _, F, (FunD.bindsN F (ps := ["self", "path"]) fun _ _ _ _ _ _ us hl => match us, hl with | [_, _], _ => rfl), dfl_none (FunD.bindsN F (ps := ["self", "path"]) fun _ _ _ _ _ _ us hl => match us, hl with | [_, _], _ => rfl)⟩, ⟨rfl, rfl, rfl, by decide +kernel, rfl, by decide +kernel, by decide +kernel⟩, rfl⟩
  have q52 : Def K "Table.known" F_Table_known := by
    obtain ⟨fd, F⟩ := c.def_ 52 (d := d_Table_known) rfl
    exact ⟨⟨fd, _, _, _, _, F, (FunD.bindsN F (ps := ["self", "path"]) fun _ _ _ _ _ _ us hl => match us, hl with | [_, _], _ => rfl), dfl_none (FunD.bindsN F (ps := ["self", "path"]) fun _ _ _ _ _ _ us hl => match us, hl with | [_, _], _ => rfl)⟩, ⟨rfl, rfl, rfl, by decide +kernel, rfl, by decide +kernel, by decide +kernel⟩, rfl⟩
  have q53 : Def K "Table.option" F_Table_option := by
    obtain ⟨fd, F⟩ := c.def_ 53 (d := d_Table_option) rfl
    exact ⟨⟨fd, _, _, _, _, F, (FunD.bindsN F (ps := ["self", "name"]) fun _ _ _ _ _ _ us hl => match us, hl with | [_, _], _ => rfl), dfl_none (FunD.bindsN F (ps := ["self", "name"]) fun _ _ _ _ _ _ us hl => match us, hl with | [_, _], _ => rfl)⟩, ⟨rfl, rfl, rfl, by decide +kernel, rfl, by decide +kernel, by decide +kernel⟩, rfl⟩
  have q54 : Def K "has_twins" F_has_twins := by
    obtain ⟨fd, F⟩ := c.def_ 54 (d := d_has_twins) rfl
    exact ⟨⟨fd, _, _, _, _, F, (FunD.bindsN F (ps := ["row"]) fun _ _ _ _ _ _ us hl => match us, hl with | [_], _ => rfl), dfl_none (FunD.bindsN F (ps := ["row"]) fun _ _ _ _ _ _ us hl => match us, hl with | [_], _ => rfl)⟩, ⟨rfl, rfl, rfl, by decide +kernel, rfl, by decide +kernel, by decide +kernel⟩, rfl⟩
  have q55 : Def K "_law_number" F__law_number := by
    obtain ⟨fd, F⟩ := c.def_ 55 (d := d__law_number) rfl
    exact ⟨⟨fd, _, _, _, _, F, (FunD.bindsN F (ps := ["script", "index"]) fun _ _ _ _ _ _ us hl => match us, hl with | [_, _], _ => rfl), dfl_none (FunD.bindsN F (ps := ["script", "index"]) fun _ _ _ _ _ _ us hl => match us, hl with | [_, _], _ => rfl)⟩, ⟨rfl, rfl, rfl, by decide +kernel, rfl, by decide +kernel, by decide +kernel⟩, rfl⟩
  have q56 : Def K "_law_take" F__law_take := by
    obtain ⟨fd, F⟩ := c.def_ 56 (d := d__law_take) rfl
    exact ⟨⟨fd, _, _, _, _, F, (FunD.bindsN F (ps := ["draw", "many"]) fun _ _ _ _ _ _ us hl => match us, hl with | [_, _], _ => rfl), dfl_none (FunD.bindsN F (ps := ["draw", "many"]) fun _ _ _ _ _ _ us hl => match us, hl with | [_, _], _ => rfl)⟩, ⟨rfl, rfl, rfl, by decide +kernel, rfl, by decide +kernel, by decide +kernel⟩, rfl⟩
  have q57 : Def K "_law_pick" F__law_pick := by
    obtain ⟨fd, F⟩ := c.def_ 57 (d := d__law_pick) rfl
    exact ⟨⟨fd, _, _, _, _, F, (FunD.bindsN F (ps := ["draw", "items"]) fun _ _ _ _ _ _ us hl => match us, hl with | [_, _], _ => rfl), dfl_none (FunD.bindsN F (ps := ["draw", "items"]) fun _ _ _ _ _ _ us hl => match us, hl with | [_, _], _ => rfl)⟩, ⟨rfl, rfl, rfl, by decide +kernel, rfl, by decide +kernel, by decide +kernel⟩, rfl⟩
  have q58 : Def K "_law_asked" F__law_asked := by
    obtain ⟨fd, F⟩ := c.def_ 58 (d := d__law_asked) rfl
    exact ⟨⟨fd, _, _, _, _, F, (FunD.bindsN F (ps := ["table", "words", "due", "stop"]) fun _ _ _ _ _ _ us hl => match us, hl with | [_, _, _, _], _ => rfl), dfl_none (FunD.bindsN F (ps := ["table", "words", "due", "stop"]) fun _ _ _ _ _ _ us hl => match us, hl with | [_, _, _, _], _ => rfl)⟩, ⟨rfl, rfl, rfl, by decide +kernel, rfl, by decide +kernel, by decide +kernel⟩, rfl⟩
  have q59 : Def K "law" F_law := by
    obtain ⟨fd, F⟩ := c.def_ 59 (d := d_law) rfl
    exact ⟨⟨fd, _, _, _, _, F, (FunD.bindsN F (ps := ["script"]) fun _ _ _ _ _ _ us hl => match us, hl with | [_], _ => rfl), dfl_none (FunD.bindsN F (ps := ["script"]) fun _ _ _ _ _ _ us hl => match us, hl with | [_], _ => rfl)⟩, ⟨rfl, rfl, rfl, by decide +kernel, rfl, by decide +kernel, by decide +kernel⟩, rfl⟩
  have x0 : XcOk K mg "BadPart" ["part"] := by
    obtain ⟨fd, F⟩ := c.def_ 60 (d := d_BadPart___init__) rfl
    have F' := F
    rw [show (d_BadPart___init__).body = _ from bx_BadPart___init__] at F'
    exact ⟨fd, ["self", "part"], fun P w base => spI_one F' ⟨rfl, rfl, rfl, by decide +kernel, rfl, by decide +kernel, by decide +kernel⟩ (by decide +kernel) (by decide +kernel), FunD.bindsN F (ps := ["self", "part"]) fun _ _ _ _ _ _ us hl => match us, hl with | [_, _], _ => rfl⟩
  have x1 : XcOk K mg "BadWords" ["number"] := by
    obtain ⟨fd, F⟩ := c.def_ 61 (d := d_BadWords___init__) rfl
    have F' := F
    rw [show (d_BadWords___init__).body = _ from bx_BadWords___init__] at F'
    exact ⟨fd, ["self", "number"], fun P w base => spI_one F' ⟨rfl, rfl, rfl, by decide +kernel, rfl, by decide +kernel, by decide +kernel⟩ (by decide +kernel) (by decide +kernel), FunD.bindsN F (ps := ["self", "number"]) fun _ _ _ _ _ _ us hl => match us, hl with | [_, _], _ => rfl⟩
  have x2 : XcOk K mg "TooLarge" ["number"] := by
    obtain ⟨fd, F⟩ := c.def_ 62 (d := d_TooLarge___init__) rfl
    have F' := F
    rw [show (d_TooLarge___init__).body = _ from bx_TooLarge___init__] at F'
    exact ⟨fd, ["self", "number"], fun P w base => spI_one F' ⟨rfl, rfl, rfl, by decide +kernel, rfl, by decide +kernel, by decide +kernel⟩ (by decide +kernel) (by decide +kernel), FunD.bindsN F (ps := ["self", "number"]) fun _ _ _ _ _ _ us hl => match us, hl with | [_, _], _ => rfl⟩
  exact txt_of (T := tx) X G hk (by decide +kernel) (show ∀ p ∈ fnl, Def K p.1 p.2 from all_consW q0 ( all_consW q1 ( all_consW q2 ( all_consW q3 ( all_consW q4 ( all_consW q5 ( all_consW q6 ( all_consW q7 ( all_consW q8 ( all_consW q9 ( all_consW q10 ( all_consW q11 ( all_consW q12 ( all_consW q13 ( all_consW q14 ( all_consW q15 ( all_consW q16 ( all_consW q17 ( all_consW q18 ( all_consW q19 ( all_consW q20 ( all_consW q21 ( all_consW q22 ( all_consW q23 ( all_consW q24 ( all_consW q25 ( all_consW q26 ( all_consW q27 ( all_consW q28 ( all_consW q29 ( all_consW q30 ( all_consW q31 ( all_consW q32 ( all_consW q33 ( all_consW q34 ( all_consW q35 ( all_consW q36 ( all_consW q37 ( all_consW q38 ( all_consW q39 ( all_consW q40 ( all_consW q41 ( all_consW q42 ( all_consW q43 ( all_consW q44 ( all_consW q45 ( all_consW q46 ( all_consW q47 ( all_consW q48 ( all_consW q49 ( all_consW q50 ( all_consW q51 ( all_consW q52 ( all_consW q53 ( all_consW q54 ( all_consW q55 ( all_consW q56 ( all_consW q57 ( all_consW q58 ( all_consW q59 ( all_nilW))))))))))))))))))))))))))))))))))))))))))))))))))))))))))))) (show ∀ p ∈ xcl, XcOk K mg p.1 p.2 from all_consW x0 ( all_consW x1 ( all_consW x2 ( all_nilW)))) (show ∀ p ∈ tx.tol, ToldOk K mg p.1 p.2 from  all_nilW)
end K12
open PySem PySem.W PySem.Calls PyProof.Rows
theorem PySem.Challenge.cw_switchyard_k12_known_lists_holds : PySem.Challenge.rw_switchyard_k12_known_lists.Holds := by
  w_on; o_law
  refine HandSHeadRun.head_any (r := OpenLaw.row PySem.Challenge.rw_switchyard_k12_known_lists) (q := view (OpenLaw.row PySem.Challenge.rw_switchyard_k12_known_lists).prog [78]) (H := K12.hk) (ob := K12.ob) (M := 20000) (loose := K12.loose) (d := HandSHeadRun.topDef (OpenLaw.row PySem.Challenge.rw_switchyard_k12_known_lists).prog 78) (kwd := []) K12.ob_eq
    (by kernel_rfl) (fun s => by kernel_rfl) K12.run (by kernel_rfl) (by kernel_rfl) (by kernel_rfl) (by rfl) (by first | assumption | decide +kernel) (by decide +kernel) ⟨rfl, rfl, rfl, rfl, rfl, by decide +kernel⟩ ?hw ?hc
  case hw => w_witness2
  case hc =>
    refine L2.walk_ofE (l := PySem.Challenge.rw_switchyard_k12_known_lists) (n := 63) (k := 10 * 12 + 10) (x := "script") (CX := L2.CX0) rfl (by decide) (by kernel_rfl) ⟨rfl, by decide, by decide⟩ ?F (fun _ _ _ _ z => z)
    intro w mg fa h Y G hmg0
    obtain ⟨K, KX, cx⟩ := Y
    have c := cx.t.d
    have hmg : mg ("law" : PySem.Str) = some (.ref fa) := by
      have e : (HandSHeadRun.topDef (OpenLaw.row PySem.Challenge.rw_switchyard_k12_known_lists).prog 78).name = ("law" : PySem.Str) := by kernel_rfl
      rw [← e]
      exact hmg0
    letI := K12.tx.gam K w
    have T := K12.txt (wd := w) KX G c cx.more
    obtain ⟨fd0, F0⟩ := c.def_ 59 (d := K12.d_law) rfl
    have e := hmg.symm.trans (He.glo_ok KX G (c.fact 0 (f := .glo "law") rfl))
    cases e
    refine ⟨K, fd0, fun vs H Q _ => Mi.SpF K mg (Mi.callD K12.pg K12.fns 12) "law" 1 vs H Q L2.E0, KX, fun s u => ?_, fun H a ns hl _ hS => Mi.law_sp hS (K12.law_true ns hl) (fun p hp => nomatch hp), fun base KB GB => ?_⟩
    · exact L2.FunD.bindsA F0 (ps := ["script"]) (fun _ _ _ _ _ _ us hl => match us, hl with | [_], _ => rfl) s [u] rfl
    · have LT : Mi.LamT K mg base K12.fns := Mi.lamT_no (T := K12.tx) (by decide +kernel)
      exact Mi.fn_plain (Mi.fn_step (f := "law") (d := 12 - 1) (F := K12.F_law) rfl T LT rfl F0 (Mi.fn_ok rfl T LT (12 - 1)))
