import PyProof.Rows.All
import Wide.All
import OpenK.AllK
import Wide.FinOn
import HandS.ForMost
import HandS.ForExc
import HandS.ExcInit
import HandS.ExcField
import HandS.ExcIs
import HandS.IsInst
import HandS.SetFor
import HandS.Strs
import HandS.Conv
import HandS.More
import HandS.Wide
import HandS.TupAny
import HandS.Rev
import HandS.Small
import HandS.Walk
import HandS.DeepEq
import HandS.WordsDict
import HandS.Zip
import HandS.SortInts
import PySem.Challenge.RW_twigtable_k71_names
set_option Elab.async false
set_option linter.all false
set_option maxRecDepth 100000
set_option maxHeartbeats 4000000
/-! Base0: rules of my own beside the layer: set(list of ints); raise X(); an exception kept behind its try. -/
namespace Z
open PySem PySem.Spec PyProof.Rows L2
theorem m1 {X : Cx} {o e : Expr} {m : Str} {apos cpos : Pos}
    (a : attributeBase o m X.env (eval o X.env) = eval o X.env := by rfl)
    (b : ((backTo cpos (starEach [e] X.env)).all (fun x => !x.1) && (backToKw cpos (keywordEach [] X.env)).all (fun x => x.1.isSome)
      && decide (([e] : List Expr).length + ([] : List Keyword).length + (if ([] : List Keyword).isEmpty then 0 else 1) < 30)) = true := by rfl)
    (c : (apos.endLine == cpos.line) = true := by rfl) (d : backTo cpos (starEach [e] X.env) = [(false, eval e X.env)] := by rfl) : M1 X o m apos e cpos := ⟨a, b, c, d⟩
/-! ### raise X() of an own class without an own __init__ -/
theorem pmk_own0 {X : Cx} {C : Addr} {bmB : List Value} {B newId initId : String} {x : Str} {p pos : Pos} (F : ExcBaseFacts B newId initId bmB) (q : PySem.W.excIn X.K C bmB newId = true)
    (gC : X.mg x = some (.ref C)) (kC : PySem.W.keepIn X.K (.ref C) = true) (r : Raises X (.ref C)) (hg : Gl X x := by rfl) (hdb : (x == ("__debug__" : Str)) = false := by decide) :
    PMk X (.Call (.Name x p) [] [] pos) (fun _ H Q => Q (.ref C) none H) := by
  intro pins s σ H Q I h
  refine wpAny_Call_Name_kw (ld_glob I hg gC ?_ hdb)
  obtain ⟨bm, N, nm, qn, bs, hdct, sn, sub, ab, col, dd, k0, k1, k2, k3, k5, mN, hC, hN, hni, T⟩ := exc_obj I.kIn q
  refine PySem.W.callWith_K0 I.kIn kC ?_
  obtain ⟨hp, g, d, t, os⟩ := s
  exact wpAny_call_exc_subT F T hC hN hni (fun h' e hm => mk_of I hm r h (I.hok.gone hm.new)) (Nat.zero_le _)
/-! ### an exception kept: its object stays known behind the try -/
/-- the context in which one more object is known -/
abbrev keep (X : Cx) (a : Addr) (oe : Obj) : Cx := { X with pn := (a, oe) :: X.pn }
theorem keep_ok {X : Cx} (ok : X.Ok) (a : Addr) (oe : Obj) : (keep X a oe).Ok :=
  ⟨ok.mod, ok.kind, ok.glob, ok.blt, ok.above, ok.inj, ok.has, ok.cab, ok.hd, ok.frames, ok.stk, ok.exf, ok.bs, ok.bsz, ok.noex, ok.exfs, ok.funs, ok.frf⟩
theorem keep_off {X : Cx} {pins : List (Addr × Obj)} {σ : L2.St} {H : Hp} {s : Shared} {a : Addr} {oe : Obj} (I : Inv (keep X a oe) pins σ H s) (ok : X.Ok) : Inv X pins σ H s :=
  ⟨ok, I.os, I.bare, I.base, I.loc, I.cell, I.free, I.freeC, fun p hp => I.pin p (List.mem_cons_of_mem _ hp), I.hok, I.len⟩
theorem keep_sp {X : Cx} {pins : List (Addr × Obj)} {D : Ends} {f : Flow} {s : Shared} {a : Addr} {oe : Obj} (ok : X.Ok) (h : SP (keep X a oe) pins D f s) : SP X pins D f s := by
  cases f with
  | next => obtain ⟨σ, H, I, q⟩ := h; exact ⟨σ, H, keep_off I ok, q⟩
  | brk => obtain ⟨σ, H, I, q⟩ := h; exact ⟨σ, H, keep_off I ok, q⟩
  | cont => obtain ⟨σ, H, I, q⟩ := h; exact ⟨σ, H, keep_off I ok, q⟩
  | ret u => obtain ⟨v, σ, H, I, r, q⟩ := h; exact ⟨v, σ, H, keep_off I ok, r, q⟩
/-- what a block's rest asks of a flow -/
def Aft (X : Cx) (pins : List (Addr × Obj)) (rest : List Stmt) (D : Ends) (f : Flow) (s : Shared) : Prop :=
  match f with
  | .next => wpAny (model X.prog X.w) X.A (execs rest X.env) (SP X pins D) X.xe s
  | f => SP X pins D f s
/-- the wish of «try: body / except x as n: suite» ahead of a rest: behind the suite the exception at a is still known (ur) -/
def wKp (K : PySem.W.Frag) (c : Value) (i : Nat) (ts : Addr → Value → Option Addr → TS) (ur : Addr → Value → Option Addr → TS) (D : Ends) : WX := fun cls d σ H =>
  ∃ b, PySem.W.exmOne K cls c = some b ∧ b = true ∧ ∀ a, H a = none → ts a cls d
      { nx := fun σ' H' => ur a cls d D (σ'.set i none) H', rt := D.rt, bk := fun σ' H' => D.bk (σ'.set i none) H', ct := fun σ' H' => D.ct (σ'.set i none) H' } (σ.set i (some (.ref a))) H
section
variable {X : Cx} {x n : Str} {c : Value} {i : Nat} {body suite rest : List Stmt} {b0 : Stmt} {np pos pos' : Pos} {tb : WX → TS} {ts ur : Addr → Value → Option Addr → TS} {u0 : TS}
theorem pss_try_keep (hs : X.stack = X.env :: X.outer) (hf : X.env.frame = some X.env.locals) (hN : X.N.Nodup) (hi : X.N[i]? = some n) (hln : X.env.kindOf n = some .local) (hc : Names X x c)
    (hb : ∀ (W : WX) (pn : List (Addr × Obj)) (xe : Value → Shared → Prop), Takes (X.tr pn xe) W → PassesOwn (model X.prog X.w) X.A X.env xe → PSs (X.tr pn xe) body (tb W))
    (hsu : ∀ (a : Addr) (oe : Obj) (cls : Value) (d : Option Addr) (pn : List (Addr × Obj)), Zc cls d oe → (∃ vs, oe.data = .fields vs) → PSs (X.suite a ((a, oe) :: pn)) (b0 :: suite) (ts a cls d))
    (h0 : PSs X rest u0) (hr : ∀ (a : Addr) (oe : Obj) (cls : Value) (d : Option Addr), Zc cls d oe → (∃ vs, oe.data = .fields vs) → PSs (keep X a oe) rest (ur a cls d)) :
    PSs X (.Try body [.ExceptHandler (some (.Name x np)) (some n) (b0 :: suite) pos'] [] [] pos :: rest) (fun D σ H => tb (wKp X.K c i ts ur D) { D with nx := u0 D } σ H) := by
  refine ⟨fun pins s σ H D I h => ?_⟩
  have ok := I.ok
  have hfr : X.A.frames = some (X.env :: X.outer) := by rw [ok.frames, hs]
  have hloc : Loc X.env.scope n := .inl hln
  refine wpAny_execs_cons (thn (Q := Aft X pins rest D) (wpAny_Try_except ?_) fun f s1 q => ?_)
  rotate_left
  · cases f with
    | next => exact q
    | ret v => exact q
    | brk => exact q
    | cont => exact q
  refine wpAny_mono ((hb (wKp X.K c i ts ur D) (X.pn ++ pins) (fun e s1 => wpAny (model X.prog X.w) X.A (noteFrame e X.env) (fun _ s2 => wpAny (model X.prog X.w) X.A (setFlight e none) (fun _ s3 =>
    wpAny (model X.prog X.w) X.A (handleBy e X.env [.ExceptHandler (some (.Name x np)) (some n) (b0 :: suite) pos']) (Aft X pins rest D) X.xe s3) X.xe s2) X.xe s1) (fun u s' xx => ?_) PassesOwn.looking).run [] s σ H _ (I.toTry _) h) (fun f s1 hsp => ?_) (fun e s1 he => he)
  · obtain ⟨a, B, sI, pins', σ', H', cls, d, rfl, J', nb, up, sky, na, os, ag, b, hb1, rfl, hyes⟩ := xx
    have J : Inv X pins σ' H' sI := J'.ofTry ok
    have sky' : Sky B (X.env :: X.outer) a (Zc cls d) X.env.locals s'.heap := by rw [← hs]; exact sky
    show wpAny (model X.prog X.w) X.A (noteFrame (.ref a) X.env) _ _ _
    refine Sky.land Zc.steady hfr hf sky' fun h3 fl3 up3 => ?_
    have J3 : Inv X pins σ' H' { s' with heap := h3 } := J.landed nb fl3.1 (up.trans up3) os ag
    obtain ⟨oe3, vs3, he3, hz3, hd3⟩ := fl3.there
    have nfr : a ∉ frs (X.env :: X.outer) := fun hm => by
      obtain ⟨_, o', e', hnf⟩ := fl3.2.2.1.mem hm
      rw [he3] at e'
      cases e'
      exact hnf _ hd3
    have nL : a ≠ X.env.locals := fun z => nfr (List.mem_filterMap.mpr ⟨X.env, List.mem_cons_self, by rw [hf, z]⟩)
    have nF : a ∉ X.fs := fun hm => by
      obtain ⟨e, he, q⟩ := List.mem_filterMap.mp hm
      exact nfr (List.mem_filterMap.mpr ⟨e, List.mem_cons_of_mem _ he, q⟩)
    have S3 := J3.suite he3 hd3 na nL nF
    refine wpAny_handleBy_cons (codeAny_handlers_test ?_) (by intro q; cases q)
    have LT : PySem.W.Looks (model X.prog X.w) h3 (typeOf (.ref a)) cls := fun A Q E s k q => wpAny_typeOf_ref (k _ _ he3) (by rw [hz3.1]; exact q)
    have LM := PySem.W.exm_one (M := model X.prog X.w) (J3.kIn) LT hb1
    have test : ∀ {Q : Value → Shared → Prop} {E : Value → Shared → Prop}, Q c { s' with heap := h3 } → wpAny (model X.prog X.w) (X.A.mark (some (.ref a))) (eval (.Name x np) X.env) Q E { s' with heap := h3 } := fun {Q E} q => by
      obtain ⟨hg, hdbg, hm | ⟨hm, hv, hnn⟩⟩ := hc
      · exact ld_glob (X := X.suite a ((a, oe3) :: (X.pn ++ pins))) S3 hg hm q hdbg
      · exact ld_blt (X := X.suite a ((a, oe3) :: (X.pn ++ pins))) S3 hg hm hv q hnn hdbg
    refine test (LM.here ?_)
    refine codeAny_handlers_suite_as ?_
    refine HandSPX.lands_againZ fl3 fun h4 fl4 up4 => ?_
    have J4 : Inv X pins σ' H' { s' with heap := h4 } := J.landed nb fl4.1 ((up.trans up3).trans up4) os ag
    obtain ⟨oe4, vs4, he4, hz4, hd4⟩ := fl4.there
    have S4 := J4.suite he4 hd4 na nL nF
    refine store_ok (X := X.suite a ((a, oe4) :: (X.pn ++ pins))) (v := .ref a) S4 hN hi hloc rfl (fun s5 S5 => ?_) (.inr hln)
    refine wpAny_mono ((hsu a oe4 cls d (X.pn ++ pins) hz4 ⟨_, hd4⟩).run [] s5 _ H' _ S5 (hyes a na)) (fun f s6 hsp => ?_) (fun _ _ z => False.elim z)
    have end_ : ∀ {σ6 : L2.St} {H6 : Hp} {Q : Shared → Prop}, Inv (X.suite a ((a, oe4) :: (X.pn ++ pins))) [] σ6 H6 s6 → (∀ s7, Inv (keep X a oe4) pins (σ6.set i none) H6 s7 → Q s7) →
        wpAny (model X.prog X.w) X.A (do bindName X.env n .none; unbindBehindTheSuite X.env n pos') (fun _ s7 => Q s7) X.xe s6 := fun {σ6 H6 Q} S6 hq => by
      have S7 : Inv (keep X a oe4) pins σ6 H6 s6 := ⟨keep_ok ok a oe4, S6.os, S6.bare, S6.base, S6.loc, S6.cell, S6.free, S6.freeC, fun p hp => S6.pin p (List.mem_append_left _ hp), S6.hok, S6.len⟩
      exact gone_ok (X := keep X a oe4) S7 hN hi hln hq
    cases f with
    | next =>
      obtain ⟨σ6, H6, S6, q6⟩ := hsp
      exact end_ S6 fun s7 J7 => wpAny_mono ((hr a oe4 cls d hz4 ⟨_, hd4⟩).run pins s7 _ _ D J7 q6) (fun f s8 q8 => keep_sp ok q8) fun _ _ z => z
    | brk =>
      obtain ⟨σ6, H6, S6, q6⟩ := hsp
      exact end_ S6 fun s7 J7 => ⟨_, _, keep_off J7 ok, q6⟩
    | cont =>
      obtain ⟨σ6, H6, S6, q6⟩ := hsp
      exact end_ S6 fun s7 J7 => ⟨_, _, keep_off J7 ok, q6⟩
    | ret u =>
      obtain ⟨v6, σ6, H6, S6, r6, q6⟩ := hsp
      exact end_ S6 fun s7 J7 => ⟨_, _, _, keep_off J7 ok, r6, q6⟩
  · cases f with
    | next =>
      obtain ⟨σ', H', J', q⟩ := hsp
      exact wpAny_execs_nil (show Aft X pins rest D .next s1 from h0.run pins s1 σ' H' D (J'.ofTry ok) q)
    | brk =>
      obtain ⟨σ', H', J', q⟩ := hsp
      exact ⟨σ', H', J'.ofTry ok, q⟩
    | cont =>
      obtain ⟨σ', H', J', q⟩ := hsp
      exact ⟨σ', H', J'.ofTry ok, q⟩
    | ret u =>
      obtain ⟨v, σ', H', J', r, q⟩ := hsp
      exact ⟨v, σ', H', J'.ofTry ok, r, q⟩
end
end Z
namespace PySem.W
open PySem PySem.Spec PySem.Calls PyProof.Rows
section
variable {prog : Program} {w : World} {A : Around} {E : Value → Shared → Prop} {s : Shared} {K : Frag} {x D : Addr} {ox : Obj} {od : Option Obj}
theorem findObj_dataO {C : Addr} {name : Str} {a g : Value} (hc : (clsIn K C).isSome = true) (ha : findIn K (.ref C) name = some (some a)) (hg : specialIn K a "__get__" = some (some g)) (ht : takesIn K a = some true) :
    findObj K C od name = some (.bind g a) := by
  obtain ⟨cd, hc⟩ := Option.isSome_iff_exists.mp hc
  unfold findObj
  rw [hc, Option.bind_some, ha, Option.bind_some]
  simp [hg, ht]
theorem kin_classO {Q : Option Value → Shared → Prop} (hga : findIn K (.ref D) "__getattribute__" = some (some (.builtin "BaseException.__getattribute__"))) (hgt : findIn K (.ref D) "__getattr__" = some none)
    (hsub : subIn K (.ref D) (.type "BaseException") = some true) (hdct : hasDictIn K D = true) (ha : findIn K (.ref D) "__class__" = some (some (.builtin "object.__class__")))
    (hn : specialIn K (.builtin "object.__class__") "__get__" = some (some (.builtin "getset_descriptor.__get__"))) (htk : takesIn K (.builtin "object.__class__") = some true) (hm : mroIn K D (.type "object") = some true)
    (X : K.In s.heap) (I : InstAt s.heap x ox D od) (h : Q (some (.ref D)) { s with toks := s.toks + 1 }) : wpAny (model prog w) A (getAttr? (.ref x) "__class__") Q E s := by
  have hf : findObj K D od "__class__" = some (.bind (.builtin "getset_descriptor.__get__") (.builtin "object.__class__")) := findObj_dataO (by obtain ⟨cd, hc, _⟩ := any_some hdct; rw [hc]; rfl) ha hn htk
  obtain ⟨hp, g, d, t, os⟩ := s
  have L0 := I.type (M := model prog w)
  have L1 := looks_findIn (M := model prog w) X hga
  have L2 := looks_findIn (M := model prog w) X hgt
  have L3 := looks_find (M := model prog w) X I hf
  have sub : Looks (model prog w) hp (isInstance (.ref x) (.type "BaseException")) true := L0.andThen (looks_subIn X hsub)
  have hx0 : (false && onTheHeap (Value.builtin "BaseException.__getattribute__")) = false := rfl
  have hx2 : (Value.builtin "BaseException.__getattribute__" == Value.builtin "object.__getattribute__") = false := by decide +kernel
  have hx1 : (onTheHeap (Value.ref D) && Value.builtin "BaseException.__getattribute__" == Value.builtin "object.__getattribute__") = false := by rw [hx2]; rfl
  unfold getAttr? getAttrBy? getAttrBy
  refine wpAny_bind (wpAny_mkText (wpAny_bind (wpAny_attempt (wpAny_holding (wpAny_bind (L0.at (wpAny_bind (L1.at ?_))))))))
  show wpAny _ _ (if (onTheHeap (Value.ref D) && Value.builtin "BaseException.__getattribute__" == Value.builtin "object.__getattribute__") = true then _ else _) _ _ _
  rw [hx1, if_neg Bool.false_ne_true]
  unfold getAttrByItsOwn hookBefore
  refine wpAny_bind ?_
  rw [if_pos (show onTheHeap (Value.ref D) = true from rfl)]
  refine L2.at ?_
  refine wpAny_bind (wpAny_attempt (wpAny_holding ?_))
  unfold callGetattribute
  rw [hx0, if_neg Bool.false_ne_true]
  unfold boundAndCalled
  rw [PySem.F.excAttr_ValueError.ga.bind (.ref x)]
  refine wpAny_bind (wpAny_pure ?_)
  show wpAny _ _ (call (.builtin "BaseException.__getattribute__") [.ref x, .str "__class__" t]) _ _ _
  refine wpAny_call (codeAny_call_builtin PySem.F.excAttr_ValueError.ga.plain PySem.F.entry_bexc_ga ?_)
  refine @check_slot (model prog w) _ _ ⟨hp, g, d, t + 1, os⟩ "BaseException.__getattribute__" "BaseException" "__getattribute__" (.ref x) [.str "__class__" t] [] _ (by decide +kernel) (by decide +kernel) sub (PySem.F.args_bexc_ga (.ref x) (.str "__class__" t)) ?_
  unfold Builtin.«object.__getattribute__»
  refine wpAny_bind (wpAny_of_eq (a := ((Value.ref x : Value), [Value.str "__class__" t])) (by first | rfl | (simp only [slotArgs]; rfl)) ?_)
  refine wpAny_bind (wpAny_pure (wpAny_bind (L0.at (wpAny_bind (L3.at ?_)))))
  show wpAny _ _ (holding [Value.builtin "object.__class__"] (call (.builtin "getset_descriptor.__get__") [.builtin "object.__class__", .ref x, .ref D]) >>= ret) _ _ _
  refine wpAny_bind (wpAny_holding (wpAny_call (class_get (s := ⟨hp, g, d, t + 1, os⟩) (ox := ox) (od := od) X I hm ?_)))
  refine wpAny_pure ?_
  show wpAny _ _ (handedOut (.ref D)) _ _ _
  rw [handedOut_of (v := .ref D) rfl]
  first
    | exact wpAny_pure (wpAny_pure h)
    | exact wpAny_pure h
    | exact wpAny_pure (wpAny_bind (wpAny_pure (wpAny_pure h)))
theorem kitx_excO (hga : findIn K (.ref D) "__getattribute__" = some (some (.builtin "BaseException.__getattribute__"))) (hgt : findIn K (.ref D) "__getattr__" = some none) (hsub : subIn K (.ref D) (.type "BaseException") = some true)
    (hdct : hasDictIn K D = true) (ha : findIn K (.ref D) "__class__" = some (some (.builtin "object.__class__"))) (hn : specialIn K (.builtin "object.__class__") "__get__" = some (some (.builtin "getset_descriptor.__get__")))
    (htk : takesIn K (.builtin "object.__class__") = some true) (hm : mroIn K D (.type "object") = some true) : KitX K (.ref x) (.ref D) (fun h => ∃ od, InstAt h x ox D od) where
  ty := fun _ _ _ ⟨_, I⟩ => I.type
  it := fun _ _ X _ => by
    obtain ⟨cdD, hcD, _⟩ := any_some hdct
    unfold clsIn at hcD
    split at hcD
    · rename_i c' d' cd' sl' ho
      intro A' Q' E' s' k q
      unfold isType loadHead
      exact wpAny_bind (wpAny_loadPart (k _ _ (X _ _ ho)) (wpAny_pure q))
    · cases hcD
  ne := fun h tp dd its n sl X htp => by
    obtain ⟨cdD, hcD, _⟩ := any_some hdct
    refine Bool.eq_false_iff.mpr fun q => ?_
    have e : D = tp := Value.ref.inj (beq_iff_eq.mp q)
    subst e
    unfold clsIn at hcD
    split at hcD
    · rename_i c' d' cd' sl' ho
      have z := (X _ _ ho).symm.trans htp
      cases z
    · cases hcD
  ca := fun X I k => by
    obtain ⟨od, I⟩ := I
    exact kin_classO hga hgt hsub hdct ha hn htk hm X I k
end
end PySem.W
namespace Z
open PySem PySem.Spec PyProof.Rows L2
/-- what must be said of the exception's own dict -/
def rIsD (d : Option Addr) (H : Hp) : Prop := ∀ dd, d = some dd → ∃ fs, H dd = some (.xd fs)
/-- isinstance(e, C), e the exception that is known -/
theorem call_isK {X : Cx} {a D : Addr} {oe : Obj} {d : Option Addr} (C : ExcC X.K D) (hz : Zc (.ref D) d oe) (hf : ∃ vs, oe.data = .fields vs) (hx : ∀ (s : Shared) (H : Hp) (pins : List (Addr × Obj)) (σ : L2.St), Inv (keep X a oe) pins σ H s → rIsD d H → ∃ od, PySem.W.InstAt s.heap a oe D od) :
    CallR (keep X a oe) (.builtin "isinstance") (fun xs H Q => rIsD d H ∧ rIsE X.K D a xs H Q) := by
  intro pins s σ H xs us Q I r h
  obtain ⟨hd, c, cv, b, rfl, hcv, e, q⟩ := h
  cases r with
  | cons rx rr =>
    cases rr with
    | cons rt rr =>
      cases rr
      cases rx
      have ec := hcv _ rt
      subst ec
      exact PySem.W.kia_one (PySem.W.kitx_excO C.hg C.hk C.hs C.hd C.ha C.hn C.ht C.hm) I.kIn (hx s H pins σ I hd) e (fun z => nomatch z) fun tk => ⟨.bl b, H, I.kept (t' := tk) fun _ _ z => z, rfl, q⟩
theorem call_isX {X : Cx} {a D : Addr} {oe : Obj} {d : Option Addr} (C : ExcC X.K D) (hz : Zc (.ref D) d oe) (hf : ∃ vs, oe.data = .fields vs) :
    CallR (keep X a oe) (.builtin "isinstance") (fun xs H Q => rIsD d H ∧ rIsE X.K D a xs H Q) := call_isK C hz hf fun s H pins σ I hd => by
  obtain ⟨hget, _⟩ := I.pin (a, oe) (List.mem_append_left _ List.mem_cons_self)
  obtain ⟨vs, hv⟩ := hf
  obtain ⟨oc, od, oda, osl⟩ := oe
  obtain ⟨h1, h2⟩ := hz
  dsimp only at h1 h2 hv
  subst h1 h2 hv
  cases od with
  | none => exact ⟨none, hget, rfl, rfl, trivial⟩
  | some dd =>
    obtain ⟨fs, ed⟩ := hd dd rfl
    obtain ⟨mA, hns, _⟩ := (show ObjOk X.prog X.w H s.heap dd (.xd fs) from I.hok dd _ ed)
    obtain ⟨od, ho, _⟩ := lookIn_ns hns
    exact ⟨some od, hget, rfl, rfl, ho⟩
/-- e.f, e the exception that is known -/
theorem pe_xfK {X : Cx} {a C : Addr} {oe : Obj} {cls : Value} {d : Option Addr} {e : Expr} {te : TE} {pos : Pos} {n : Str} (T : XfC X.K C) (hno : PySem.W.findIn X.K (.ref C) n = some none)
    (hz : Zc cls d oe) (hf : ∃ vs, oe.data = .fields vs) (he : PE (keep X a oe) e te) (hb : attributeBase e n X.env (eval e X.env) = eval e X.env := by rfl) :
    PE (keep X a oe) (.Attribute e n pos) (tXf a cls d C n te) := by
  refine ⟨fun pins s σ H Q I h => ?_⟩
  refine attr_of hb (thn (he.run pins s σ H _ I h) fun u s1 hh => ?_)
  obtain ⟨x, H1, I1, rx, ex, ec, dd, fs, v, ed, ea, l, q⟩ := hh
  subst ex
  obtain rfl : u = Value.ref a := rx
  subst ec
  subst ed
  obtain ⟨ha, _⟩ := I1.pin (a, oe) (List.mem_append_left _ List.mem_cons_self)
  obtain ⟨vs, hd⟩ := hf
  obtain ⟨mA, hns, hr⟩ := (show ObjOk X.prog X.w H1 s1.heap dd (.xd fs) from I1.hok dd _ ea)
  obtain ⟨od, ho, hl⟩ := lookIn_ns hns
  obtain ⟨u, hu, ru⟩ := RelO.some_of (v := v) (o := mA n) (by rw [← l]; exact hr n)
  have J : PySem.W.InstAt s1.heap a oe C (some od) := ⟨ha, hz.1, by unfold PySem.W.notCls; rw [hd] <;> rfl, by rw [hz.2]; exact ho⟩
  exact HandSPX.exc_get I1.kIn J T.ga T.gg T.exC (PySem.W.findObj_own T.hdC hno rfl (by rw [hl, hu])) (handed_of ru) ⟨v, H1, I1.tok _, ru, q⟩
end Z
namespace Z
open PySem PySem.Spec PyProof.Rows L2
section
variable {P : Program} {w : World} {A : Around} {E : Value → Shared → Prop} {s : Shared}
set_option maxHeartbeats 3200000 in
theorem call_set_lstI {l : Addr} {items : Array Value} (ns : List Int) {Q : Value → Shared → Prop} (hh : A.handled = none) (hl : s.heap.IsList l items) (hit : IntsAre items.toList ns) (hb : ns.length + 1 < scanBound)
    (h : ∀ (h' : Heap) (tk c : Nat), SetR w h' s.heap.objs.size (fun j => decide (j ∈ ns)) c → c ≤ ns.length → (∀ b o, s.heap.get? b = some o → h'.get? b = some o) → Q (.ref s.heap.objs.size) { s with heap := h', toks := tk }) :
    wpAny (model P w) A (call (.type "set") [.ref l]) Q E s := by
  have hisz : items.size = ns.length := by
    have q := IntsAre.length hit
    rw [Array.length_toList] at q
    exact q
  obtain ⟨c, tl, hmro⟩ := F.called_set.mro
  have hmade := F.called_set.made
  have hsub := F.called_set.sub
  refine wpAny_call (codeAny_of_tree ?_)
  show wpAny _ _ (callAny (.type "set") _) _ _ _
  refine wpAny_pure ⟨Code.quiet_builtin _ (by decide +kernel), codeAny_builtin F.entry_type_call ?_⟩
  rw [Around.under_plain (weight_type_call_type "set" [.ref l] []) rfl]
  have h1 := F.called_set.notType
  have h2 := F.called_set.canCreate
  have hct := F.typeCall_set_1 (.ref l)
  repeat (any_goals (first | assumption | wp_step))
  refine codeAny_mono (code_set_led1 (.ref l) (E := E) (Q₁ := fun obj s₁ => obj = .ref s.heap.objs.size ∧ s₁ = { s with heap := s.heap.push { cls := .type "set", dict := none, data := .set #[] 0 (.fresh 0 0 (!w.params.followText "set-order")) } }) ⟨rfl, rfl⟩) fun r s₁ hr => ?_
  cases r with
  | error e => exact hr
  | ok fl =>
    cases fl with
    | ret obj =>
      obtain ⟨rfl, rfl⟩ := hr
      have hS : (s.heap.push { cls := .type "set", dict := none, data := .set #[] 0 (.fresh 0 0 (!w.params.followText "set-order")) }).get? s.heap.objs.size = some { cls := .type "set", dict := none, data := .set #[] 0 (.fresh 0 0 (!w.params.followText "set-order")) } := Heap.get?_push_size _ rfl
      have hT : Shared.TypeIs { s with heap := s.heap.push { cls := .type "set", dict := none, data := .set #[] 0 (.fresh 0 0 (!w.params.followText "set-order")) } } (.ref s.heap.objs.size) "set" := ⟨_, hS, rfl⟩
      have hli := F.called_set.init.lookup
      have hbi := F.called_set.init.bind (.ref s.heap.objs.size)
      repeat (any_goals (first | assumption | wp_step))
      refine codeAny_mono (codeAny_call_builtin (R := wants (fun r s₂ => r = .none ∧ ∃ h' tk c, s₂ = { s with heap := h', toks := tk } ∧ SetR w h' s.heap.objs.size (fun j => decide (j ∈ ns)) c ∧ c ≤ ns.length ∧
          (∀ b o, s.heap.get? b = some o → h'.get? b = some o)) E) F.called_set.init.plain F.entry_set_init (check_set_init_1 hT ?_)) fun r₂ s₂ hr₂ => ?_
      · obtain ⟨ol, hol, hcl, nl, hdl⟩ := hl
        obtain ⟨ocls, odict, odata, oslots⟩ := ol
        simp only at hcl hdl
        subst hcl; subst hdl
        have hol' : (s.heap.push { cls := .type "set", dict := none, data := .set #[] 0 (.fresh 0 0 (!w.params.followText "set-order")) }).get? l = some { cls := .type "list", dict := odict, data := .seq items nl, slots := oslots } := Heap.get?_push_of_some _ hol
        have hsls := F.sub_list_set
        have hslf := F.sub_list_frozenset
        have hne : (Value.type "list" == Value.type "dict") = false := by decide
        have hl1 : (s.heap.push { cls := .type "set", dict := none, data := .set #[] 0 (.fresh 0 0 (!w.params.followText "set-order")) }).IsList l items := ⟨_, hol', rfl, nl, rfl⟩
        unfold Builtin.«set.__init__» noKeywords Builtin.Frozenset.updateFrom
        generalize hPI : pyIter = PI
        wp_walk
        subst hPI
        refine wpAny_pyIter_list hl1 ?_
        refine wpAny_bind (wpAny_runValue ?_)
        have hlS : l < s.heap.objs.size := Heap.lt_size hol
        have hh3 : A.in1.in1.in1.handled = none := by simp [hh]
        have hz1 : (s.heap.push { cls := .type "set", dict := none, data := .set #[] 0 (.fresh 0 0 (!w.params.followText "set-order")) }).objs.size = s.heap.objs.size + 1 := Heap.size_push ..
        have hneI : l ≠ (s.heap.push { cls := .type "set", dict := none, data := .set #[] 0 (.fresh 0 0 (!w.params.followText "set-order")) }).objs.size := by
          rw [Heap.size_push]; exact Nat.ne_of_lt (Nat.lt_succ_of_lt hlS)
        have hSf : s.heap.objs.size ∉ [(s.heap.push { cls := .type "set", dict := none, data := .set #[] 0 (.fresh 0 0 (!w.params.followText "set-order")) }).objs.size, l] := by
          rw [Heap.size_push]; simp only [List.mem_cons, List.mem_singleton, List.not_mem_nil, or_false, not_or]
          exact ⟨Nat.ne_of_lt (Nat.lt_succ_self _), Nat.ne_of_gt hlS⟩
        have hval : ∀ (i : Nat) (v : Value), items[i]? = some v → ∃ k t, ns[i]? = some k ∧ v = .int k t := fun i v hv => by
          have hi : i < ns.length := by rw [← hisz]; exact (Array.getElem?_eq_some_iff.mp hv).1
          obtain ⟨t, e⟩ := PyProof.Rows.IntsAre.int_at hit i v (by rw [Array.getElem?_toList]; exact hv)
          refine ⟨ns[i], t, List.getElem?_eq_getElem hi, ?_⟩
          rw [e, List.getD_eq_getElem?_getD, List.getElem?_eq_getElem hi] <;> rfl
        refine set_update_ints ((Walks.list hh3 _ l hneI items).toS) s.heap.objs.size
          hSf ns hisz hb hval (items.size - 0) 0 _ (by omega) (Nat.zero_le _)
          ⟨⟨_, Heap.get?_push_size _ rfl, rfl, rfl⟩, (hl1.push _)⟩ ?hS0 ?hR
        case hS0 =>
          have hget : ((s.heap.push { cls := .type "set", dict := none, data := .set #[] 0 (.fresh 0 0 (!w.params.followText "set-order")) }).push { cls := .type "list_iterator", data := .fields #[.ref l, .int 0 0] }).get? s.heap.objs.size
              = some { cls := .type "set", dict := none, data := .set #[] 0 (.fresh 0 0 (!w.params.followText "set-order")) } := Heap.get?_push_of_some _ hS
          exact ⟨0, Nat.le_refl 0, setR_new_at hget⟩
        case hR =>
          intro s' c' hm hc' hS'
          obtain ⟨h', g2, d', tk', os'⟩ := s'
          have eg : g2 = s.gens := hm.gens
          have ed : d' = s.drawn := hm.drawn
          have eo : os' = s.os := hm.os
          subst eg; subst ed; subst eo
          show wpAny _ _ _ _ _ _
          refine wpAny_pure ?_
          show wpAny _ _ (ret Value.none) _ _ _
          rw [hisz] at hc'
          refine wpAny_pure ⟨rfl, h', tk', c', rfl, hS', hc', fun b o e => ?_⟩
          have hb0 : b < s.heap.objs.size := Heap.lt_size e
          have hb1 : b ≠ s.heap.objs.size := Nat.ne_of_lt hb0
          have hb2 : b ≠ (s.heap.push { cls := .type "set", dict := none, data := .set #[] 0 (.fresh 0 0 (!w.params.followText "set-order")) }).objs.size := by
            rw [Heap.size_push]; exact Nat.ne_of_lt (Nat.lt_succ_of_lt hb0)
          exact hm.heap b o (by simp only [List.mem_cons, List.mem_singleton, List.not_mem_nil, or_false, not_or]; exact ⟨hb1, hb2⟩) (Heap.get?_push_of_some _ (Heap.get?_push_of_some _ e))
      · cases r₂ with
        | error e => exact hr₂
        | ok fl₂ =>
          cases fl₂ with
          | ret r =>
            obtain ⟨rfl, h', tk, c', rfl, hS', hc', hk'⟩ := hr₂
            repeat (any_goals (first | assumption | wp_step))
            exact h _ _ _ hS' hc' hk'
          | _ => exact hr₂.elim
    | _ => exact hr.elim
end
/-- set(xs), xs a list of ints -/
def rSetL (K : PySem.W.Frag) (w : World) : List V → Hp → VK → Prop := fun xs H Q => ∃ (l : Addr) (ns : List Int), xs = [.ref l] ∧ SqL K H l (ns.map V.int) ∧ ns.length ≤ 1000 ∧
  ∀ (p : Addr) (c : Nat), H p = none → c ≤ ns.length → Q (.ref p) (upd H p (SetO w p (fun j => decide (j ∈ ns)) c))
theorem cr_setL {X : Cx} (hc : X.calm = true := by rfl) : CallR X (.type "set") (rSetL X.K X.w) := by
  intro pins s σ H xs us Q I r h
  obtain ⟨l, ns, rfl, hq, hl, q⟩ := h
  cases r with
  | cons r rr =>
    cases rr
    cases r
    obtain ⟨its, rv, pt, hz⟩ := I.list hq
    have hi : PyProof.Rows.IntsAre its.toArray.toList ns := ints_of_vals rv
    refine call_set_lstI ns (I.ok.hd hc) pt.isList hi (by unfold scanBound; omega) fun h' tk c R1 hcn k => ?_
    exact ⟨.ref s.heap.objs.size, _, I.laid (t' := tk) k (Nat.le_refl _) (setO_new R1), rfl, q _ c (I.hok.fresh (Nat.le_refl _)) hcn⟩
end Z
/-! Base1: small words about fields, frames, exceptions. -/
namespace Z
open PySem PySem.Spec PyProof.Rows L2
theorem lkE {f : Str} {v : V} {r : List (Str × V)} : List.lookup f ((f, v) :: r) = some v := by simp [List.lookup]
theorem lkN {g f : Str} {v : V} {r : List (Str × V)} (h : ¬ g = f) : List.lookup g ((f, v) :: r) = List.lookup g r := by
  have e : (g == f) = false := by simpa using h
  simp [List.lookup, e]
theorem pfE {f : Str} {x y : V} {r : List (Str × V)} : putF f y ((f, x) :: r) = (f, y) :: r := by
  show (if f = f then _ else _) = _
  rw [if_pos rfl]
theorem pfN {g f : Str} {x y : V} {r : List (Str × V)} (h : ¬ g = f) : putF f y ((g, x) :: r) = (g, x) :: putF f y r := by
  show (if g = f then _ else _) = _
  rw [if_neg h]
theorem pl1 {a : Str} {x : V} : (putF a x []).length < 1000 := by show 1 < 1000; decide
theorem pl2 {a b : Str} {x y : V} : (putF b y (putF a x [])).length < 1000 := by
  have := length_putF b y (putF a x [])
  have := length_putF a x []
  simp at *
  omega
/-- all but the objects at l stand as they stood -/
def But (l : List Addr) (H H' : Hp) : Prop := ∀ b o, H b = some o → b ∉ l → H' b = some o
theorem But.refl {l : List Addr} {H : Hp} : But l H H := fun _ _ h _ => h
theorem But.trans {l : List Addr} {H H1 H2 : Hp} (a : But l H H1) (b : But l H1 H2) : But l H H2 := fun c o h n => b c o (a c o h n) n
theorem But.mono {l l' : List Addr} {H H1 : Hp} (a : But l H H1) (h : ∀ x ∈ l, x ∈ l') : But l' H H1 := fun c o e n => a c o e fun m => n (h c m)
theorem But.of {l : List Addr} {H H1 : Hp} (a : Same H H1) : But l H H1 := fun c o e _ => a c o e
theorem But.same {H H1 : Hp} (a : But [] H H1) : Same H H1 := fun c o e => a c o e (by simp)
theorem But.new {l : List Addr} {H H1 : Hp} {p : Addr} {o : HO} (a : But l H H1) (h : H p = none) : But l H (upd H1 p o) := fun c u e n => by
  rw [upd_ne (ne_of_none e h)]
  exact a c u e n
theorem But.put {l : List Addr} {H H1 : Hp} {p : Addr} {o : HO} (a : But l H H1) (h : p ∈ l) : But l H (upd H1 p o) := fun c u e n => by
  rw [upd_ne (fun z => n (by rw [z]; exact h))]
  exact a c u e n
/-- an address that is not tracked at the end was not at the start, unless it is one of l -/
theorem But.none {l : List Addr} {H H1 : Hp} (a : But l H H1) {p : Addr} (h : H1 p = Option.none) (hp : p ∉ l) : H p = Option.none := by
  cases e : H p with
  | none => rfl
  | some o =>
    rw [a p o e hp] at h
    cases h
theorem _root_.L2.Same.new {H H1 : Hp} {p : Addr} {o : HO} (a : Same H H1) (h : H p = Option.none) : Same H (upd H1 p o) := fun c u e => by
  rw [upd_ne (ne_of_none e h)]
  exact a c u e
theorem same_upd {H : Hp} {p : Addr} {o : HO} (h : H p = Option.none) : Same H (upd H p o) := Same.new (Same.refl H) h
/-- the heap behind the making of an exception with one field -/
theorem exc_heap {H : Hp} {a dx C : Addr} {f : Str} {v : V} (ha : H a = none) (hd : H dx = none) (ne : dx ≠ a) :
    upd (del (upd (upd (upd H a (exo a C none)) dx (exd dx [(f, v)])) a (exo a C (some dx))) a) dx (.xd [(f, v)]) = upd H dx (.xd [(f, v)]) := by
  funext b
  by_cases h1 : b = dx
  · rw [h1, upd_same, upd_same]
  · rw [upd_ne h1, upd_ne h1]
    by_cases h2 : b = a
    · rw [h2, del_same, ha]
    · rw [del_ne h2, upd_ne h2, upd_ne h1, upd_ne h2]
/-- an exception's own __init__(self, f): self.f = f -/
def spExc (C : Addr) (f : Str) : Sp := fun vs H Q _ => ∃ (a : Addr) (v : V), vs = [.ref a, v] ∧ H a = some (exo a C none) ∧ ∀ dx, H dx = none → dx ≠ a → Q .non (upd (upd H dx (exd dx [(f, v)])) a (exo a C (some dx)))
/-- .. its making, read -/
theorem mkO_read {C : Addr} {f : Str} {ta : TA} {σ : L2.St} {H : Hp} {Q : XK} (h : ta σ H fun vs H1 => ∃ v, vs = [v] ∧ ∀ d, H1 d = none → Q (.ref C) (some d) (upd H1 d (.xd [(f, v)])))
    (mono : ∀ σ H (P R : List V → Hp → Prop), (∀ vs H1, P vs H1 → R vs H1) → ta σ H P → ta σ H R) : tMkO C (spExc C f) [] ta σ H Q := by
  refine mono σ H _ _ (fun vs H1 hh => ?_) h
  obtain ⟨v, rfl, q⟩ := hh
  refine ⟨(by show 1 ≤ 1000; decide), fun a ha => ⟨a, v, rfl, upd_same, fun dx hd ne => ⟨rfl, dx, [(f, v)], upd_same, ?_, ?_, ?_⟩⟩⟩
  · rw [upd_ne ne, upd_same]
  · rw [upd_ne ne] at hd
    exact hd
  · have hd' : H1 dx = none := by
      rw [upd_ne ne] at hd
      exact hd
    rw [exc_heap ha hd' ne]
    exact q dx hd'
theorem map_at {α β : Type} {g : α → β} {l : List α} {i : Nat} {y : β} (h : (l.map g)[i]? = some y) : ∃ x, l[i]? = some x ∧ y = g x := by
  rw [List.getElem?_map] at h
  cases e : l[i]? with
  | none =>
    rw [e] at h
    cases h
  | some x =>
    rw [e] at h
    exact ⟨x, rfl, (Option.some.inj h).symm⟩
theorem lc_yes {A B : Hp → Prop} {σ : L2.St} {H : Hp} (h : A H) : tYes σ H fun b H3 => if b = true then A H3 else B H3 := by
  show if true = true then A H else B H
  exact iteT h
theorem iteP {c : Bool} {A B : Prop} (h : c = true) (x : A) : if c = true then A else B := by
  rw [if_pos h]
  exact x
theorem iteN {c : Bool} {A B : Prop} (h : c = false) (x : B) : if c = true then A else B := by
  rw [h, if_neg Bool.false_ne_true]
  exact x
/-- isinstance(e, C), e the exception that is known, of whichever class -/
theorem call_isY {X : Cx} {a : Addr} {oe : Obj} {cls : Value} {d : Option Addr} (hz : Zc cls d oe) (hf : ∃ vs, oe.data = .fields vs) :
    CallR (keep X a oe) (.builtin "isinstance") (fun xs H Q => ∃ D, cls = .ref D ∧ ExcC X.K D ∧ rIsD d H ∧ rIsE X.K D a xs H Q) := by
  intro pins s σ H xs us Q I r h
  obtain ⟨D, rfl, C, h⟩ := h
  exact call_isX C hz hf pins s σ H xs us Q I r h
/-- what is said of a value by its type stands on another heap too -/
theorem tyOf_but {K : PySem.W.Frag} {H H' : Hp} {v : V} {t : Value} (h : TyOf K H v t) (k : ∀ a o, v = .ref a → H a = some o → H' a = some o) : TyOf K H' v t := by
  cases h with
  | non => exact .non
  | bl => exact .bl _
  | int => exact .int _
  | str => exact .str _
  | flt => exact .flt _
  | lst e => exact .lst (k _ _ rfl e)
  | frz e => exact .frz (k _ _ rfl e)
  | tup e => exact .tup (k _ _ rfl e)
  | dK e => exact .dK (k _ _ rfl e)
  | dT e => exact .dT (k _ _ rfl e)
  | ins e a b c d f => exact .ins (k _ _ rfl e) a b c d f
theorem tyX_but {K : PySem.W.Frag} {H H' : Hp} {v : V} {t : Value} (h : TyX K H v t) (k : ∀ a o, v = .ref a → H a = some o → H' a = some o) : TyX K H' v t := by
  cases h with
  | base b => exact .base (tyOf_but b k)
  | byt => exact .byt _
  | set e => exact .set (k _ _ rfl e)
  | kList e c => exact .kList e c
  | kTuple e c => exact .kTuple e c
  | kDict e c => exact .kDict e c
  | fTuple e => exact .fTuple (k _ _ rfl e)
  | fDict e => exact .fDict (k _ _ rfl e)
/-- within a comprehension: the fragment by its own name -/
theorem pe_fldK {X : Cx} {K : PySem.W.Frag} {e : Expr} {ta : TE} {f : Str} {pos : Pos} (hK : X.K = K) (he : PE X e ta) (hb : attributeBase e f X.env (eval e X.env) = eval e X.env) : PE X (.Attribute e f pos) (tFld K ta f) := hK ▸ pe_fld he hb
end Z
/-! Base2: sorted lists are one. -/
namespace Z
open PySem PySem.Spec PyProof.Rows L2
theorem sorted_one {α : Type} {r : α → α → Prop} (anti : ∀ a b, r a b → r b a → a = b) : ∀ l1 l2 : List α, l1.Pairwise r → l2.Pairwise r → l1.Perm l2 → l1 = l2
  | [], l2, _, _, p => (List.Perm.nil_eq p)
  | a :: t, [], _, _, p => absurd p.length_eq (by simp)
  | a :: t, b :: u, h1, h2, p => by
    have e : a = b := by
      rcases List.mem_cons.mp (p.mem_iff.mp List.mem_cons_self) with e | m1
      · exact e
      · rcases List.mem_cons.mp (p.mem_iff.mpr List.mem_cons_self) with e | m2
        · exact e.symm
        · exact anti a b (List.rel_of_pairwise_cons h1 m2) (List.rel_of_pairwise_cons h2 m1)
    subst e
    rw [sorted_one anti t u (List.pairwise_cons.mp h1).2 (List.pairwise_cons.mp h2).2 ((List.perm_cons a).mp p)]
def leS (x y : Str) : Prop := x.cps.toList ≤ y.cps.toList
theorem leS_iff {x y : Str} : (!ltCps y.cps.toList x.cps.toList) = true ↔ leS x y := by
  rw [ltCps_eq, Bool.not_eq_true', decide_eq_false_iff_not]
  exact List.not_lt
theorem str_ext {x y : Str} (h : x.cps.toList = y.cps.toList) : x = y := by
  cases x
  cases y
  have := Array.toList_inj.mp h
  subst this
  rfl
theorem leS_anti {x y : Str} (h : leS x y) (k : leS y x) : x = y := str_ext (List.le_antisymm h k)
theorem rising_pair : ∀ (r : List Str) (p : Str), risingS p r = true → (p :: r).Pairwise leS
  | [], p, _ => by simp
  | x :: r, p, h => by
    obtain ⟨h1, h2⟩ := Bool.and_eq_true_iff.mp (show (!ltCps x.cps.toList p.cps.toList && risingS x r) = true from h)
    have h1' := leS_iff.mp h1
    have k := rising_pair r x h2
    refine List.pairwise_cons.mpr ⟨fun y hy => ?_, k⟩
    rcases List.mem_cons.mp hy with rfl | hy
    · exact h1'
    · exact List.le_trans h1' (List.rel_of_pairwise_cons k hy)
theorem sortedS_pair : ∀ l : List Str, sortedS l = true → l.Pairwise leS
  | [], _ => .nil
  | x :: r, h => rising_pair r x h
theorem sortedS_one {l1 l2 : List Str} (h1 : sortedS l1 = true) (h2 : sortedS l2 = true) (p : l1.Perm l2) : l1 = l2 := sorted_one (fun _ _ => leS_anti) _ _ (sortedS_pair _ h1) (sortedS_pair _ h2) p
theorem sortedI_one {l1 l2 : List Int} (h1 : l1.Pairwise (· ≤ ·)) (h2 : l2.Pairwise (· ≤ ·)) (p : l1.Perm l2) : l1 = l2 := sorted_one (fun _ _ a b => Int.le_antisymm a b) _ _ h1 h2 p
theorem kit_self {K : PySem.W.Frag} {C : Addr} : PySem.W.kitOne K (.ref C) (.ref C) = some true := by
  unfold PySem.W.kitOne
  rw [if_pos (by simp)]
theorem kit_ne {K : PySem.W.Frag} {a b : Addr} {v : Bool} (hn : (Value.ref a == Value.ref b) = false) (hdct : PySem.W.hasDictIn K b = true) (ht : PySem.W.typeIn K (.ref b) = some (.type "type")) (h : PySem.W.subIn K (.ref a) (.ref b) = some v) : PySem.W.kitOne K (.ref a) (.ref b) = some v := by
  obtain ⟨cd, hc, _⟩ := PySem.W.any_some hdct
  have e2 : ((PySem.W.clsIn K b).isSome && PySem.W.typeIn K (.ref b) == some (.type "type")) = true := by rw [hc, ht] <;> rfl
  show (if (Value.ref a == Value.ref b) = true then some true else (if ((PySem.W.clsIn K b).isSome && PySem.W.typeIn K (.ref b) == some (.type "type")) = true then PySem.W.subIn K (.ref a) (.ref b) else none)) = some v
  rw [hn, if_neg Bool.false_ne_true, if_pos e2]
  exact h
end Z
namespace Z
open PySem PySem.Spec PyProof.Rows L2
def top (i : Nat) : Stmt := PySem.Challenge.pw_twigtable_k71_names.main.body.getD i (.Pass ⟨0, 0, 0, 0⟩)
abbrev s_NoMake_init : Stmt := inClass (top 6) 0
theorem sc_NoMake_init : FnScope ["self", "number"] ["self", "number"] (defScope s_NoMake_init) := ⟨rfl, rfl, rfl, by decide +kernel, rfl, by decide +kernel, by decide +kernel⟩
abbrev s_NoName_init : Stmt := inClass (top 7) 0
theorem sc_NoName_init : FnScope ["self", "word"] ["self", "word"] (defScope s_NoName_init) := ⟨rfl, rfl, rfl, by decide +kernel, rfl, by decide +kernel, by decide +kernel⟩
abbrev s_Pages_init : Stmt := inClass (top 9) 0
theorem sc_Pages_init : FnScope ["self"] ["self"] (defScope s_Pages_init) := ⟨rfl, rfl, rfl, by decide +kernel, rfl, by decide +kernel, by decide +kernel⟩
abbrev s_is_word : Stmt := top 12
theorem sc_is_word : FnScope ["thing", "sign"] ["thing"] (defScope s_is_word) := ⟨rfl, rfl, rfl, by decide +kernel, rfl, by decide +kernel, by decide +kernel⟩
abbrev s_no_table : Stmt := top 14
theorem sc_no_table : FnScope [] [] (defScope s_no_table) := ⟨rfl, rfl, rfl, by decide +kernel, rfl, by decide +kernel, by decide +kernel⟩
abbrev s_Makes_init : Stmt := inClass (top 16) 0
theorem sc_Makes_init : FnScope ["self"] ["self"] (defScope s_Makes_init) := ⟨rfl, rfl, rfl, by decide +kernel, rfl, by decide +kernel, by decide +kernel⟩
abbrev s_Makes_need : Stmt := inClass (top 16) 1
theorem sc_Makes_need : FnScope ["self", "number"] ["self", "number"] (defScope s_Makes_need) := ⟨rfl, rfl, rfl, by decide +kernel, rfl, by decide +kernel, by decide +kernel⟩
abbrev s_Makes_made : Stmt := inClass (top 16) 2
theorem sc_Makes_made : FnScope ["self", "elders", "table", "some", "elder", "number"] ["self", "elders", "table"] (defScope s_Makes_made) := ⟨rfl, rfl, rfl, by decide +kernel, rfl, by decide +kernel, by decide +kernel⟩
abbrev s_Makes_elders : Stmt := inClass (top 16) 3
theorem sc_Makes_elders : FnScope ["self", "number"] ["self", "number"] (defScope s_Makes_elders) := ⟨rfl, rfl, rfl, by decide +kernel, rfl, by decide +kernel, by decide +kernel⟩
abbrev s_Makes_numbers : Stmt := inClass (top 16) 6
theorem sc_Makes_numbers : FnScope ["self"] ["self"] (defScope s_Makes_numbers) := ⟨rfl, rfl, rfl, by decide +kernel, rfl, by decide +kernel, by decide +kernel⟩
abbrev s_Shelf_init : Stmt := inClass (top 18) 0
theorem sc_Shelf_init : FnScope ["self"] ["self"] (defScope s_Shelf_init) := ⟨rfl, rfl, rfl, by decide +kernel, rfl, by decide +kernel, by decide +kernel⟩
abbrev s_Shelf_give : Stmt := inClass (top 18) 1
theorem sc_Shelf_give : FnScope ["self", "word", "number"] ["self", "word", "number"] (defScope s_Shelf_give) := ⟨rfl, rfl, rfl, by decide +kernel, rfl, by decide +kernel, by decide +kernel⟩
abbrev s_Shelf_made_by : Stmt := inClass (top 18) 2
theorem sc_Shelf_made_by : FnScope ["self", "word"] ["self", "word"] (defScope s_Shelf_made_by) := ⟨rfl, rfl, rfl, by decide +kernel, rfl, by decide +kernel, by decide +kernel⟩
abbrev s_Shelf_forget : Stmt := inClass (top 18) 3
theorem sc_Shelf_forget : FnScope ["self", "word"] ["self", "word"] (defScope s_Shelf_forget) := ⟨rfl, rfl, rfl, by decide +kernel, rfl, by decide +kernel, by decide +kernel⟩
abbrev s_Shelf_named : Stmt := inClass (top 18) 4
theorem sc_Shelf_named : FnScope ["self", "word"] ["self"] (defScope s_Shelf_named) := ⟨rfl, rfl, rfl, by decide +kernel, rfl, by decide +kernel, by decide +kernel⟩
abbrev s_lw_cell_at : Stmt := top 20
theorem sc_lw_cell_at : FnScope ["_law_script", "_law_k"] ["_law_script", "_law_k"] (defScope s_lw_cell_at) := ⟨rfl, rfl, rfl, by decide +kernel, rfl, by decide +kernel, by decide +kernel⟩
abbrev s_lw_mix : Stmt := top 21
theorem sc_lw_mix : FnScope ["_law_cell", "_law_k", "_law_number"] ["_law_cell", "_law_k"] (defScope s_lw_mix) := ⟨rfl, rfl, rfl, by decide +kernel, rfl, by decide +kernel, by decide +kernel⟩
abbrev s_lw_words : Stmt := top 22
theorem sc_lw_words : FnScope ["_law_cell", "_law_letters", "_law_base", "_law_j", "_law_size", "_law_at", "_law_some", "_law_k", "_law_word"] ["_law_cell"] (defScope s_lw_words) := ⟨rfl, rfl, rfl, by decide +kernel, rfl, by decide +kernel, by decide +kernel⟩
abbrev s_lw_odd : Stmt := top 23
theorem sc_lw_odd : FnScope ["_law_number", "_law_some"] ["_law_number"] (defScope s_lw_odd) := ⟨rfl, rfl, rfl, by decide +kernel, rfl, by decide +kernel, by decide +kernel⟩
abbrev s_lw_called : Stmt := top 24
theorem sc_lw_called : FnScope ["_law_shelf", "_law_way", "_law_word", "_law_number"] ["_law_shelf", "_law_way", "_law_word", "_law_number"] (defScope s_lw_called) := ⟨rfl, rfl, rfl, by decide +kernel, rfl, by decide +kernel, by decide +kernel⟩
abbrev s_lw_answer : Stmt := top 25
theorem sc_lw_answer : FnScope ["_law_shelf", "_law_way", "_law_word", "_law_number", "_law_caught", "_law_found", "e"] ["_law_shelf", "_law_way", "_law_word", "_law_number"] (defScope s_lw_answer) := ⟨rfl, rfl, rfl, by decide +kernel, rfl, by decide +kernel, by decide +kernel⟩
abbrev s_lw_due : Stmt := top 26
theorem sc_lw_due : FnScope ["_law_names", "_law_many", "_law_way", "_law_word", "_law_good", "_law_number"] ["_law_names", "_law_many", "_law_way", "_law_word", "_law_good", "_law_number"] (defScope s_lw_due) := ⟨rfl, rfl, rfl, by decide +kernel, rfl, by decide +kernel, by decide +kernel⟩
abbrev s_lw_same : Stmt := top 27
theorem sc_lw_same : FnScope ["_law_found", "_law_due_here"] ["_law_found", "_law_due_here"] (defScope s_lw_same) := ⟨rfl, rfl, rfl, by decide +kernel, rfl, by decide +kernel, by decide +kernel⟩
abbrev s_lw_named : Stmt := top 28
theorem sc_lw_named : FnScope ["_law_shelf", "_law_names", "_law_found", "_law_one", "_law_word"] ["_law_shelf", "_law_names"] (defScope s_lw_named) := ⟨rfl, rfl, rfl, by decide +kernel, rfl, by decide +kernel, by decide +kernel⟩
abbrev s_law : Stmt := top 29
theorem sc_law : FnScope ["_law_script", "_law_shelf", "_law_beside", "_law_many", "_law_k", "_law_some", "_law_names", "_law_cell", "_law_way", "_law_word", "_law_good", "_law_number", "_law_due_here"] ["_law_script"] (defScope s_law) := ⟨rfl, rfl, rfl, by decide +kernel, rfl, by decide +kernel, by decide +kernel⟩
def fl_Pages (v0 v1 v2 : V) : List (Str × V) := [("standing", v0), ("known", v1), ("coming", v2)]
theorem fl_Pages_standing {v0 v1 v2 : V} : (fl_Pages v0 v1 v2).lookup ("standing" : Str) = some v0 := lkE
theorem fl_Pages_set_standing {v0 v1 v2 y : V} : putF "standing" y (fl_Pages v0 v1 v2) = fl_Pages y v1 v2 := pfE
theorem fl_Pages_known {v0 v1 v2 : V} : (fl_Pages v0 v1 v2).lookup ("known" : Str) = some v1 := (lkN (by decide +kernel)).trans (lkE)
theorem fl_Pages_set_known {v0 v1 v2 y : V} : putF "known" y (fl_Pages v0 v1 v2) = fl_Pages v0 y v2 := (pfN (by decide +kernel)).trans (congrArg _ (pfE))
theorem fl_Pages_coming {v0 v1 v2 : V} : (fl_Pages v0 v1 v2).lookup ("coming" : Str) = some v2 := (lkN (by decide +kernel)).trans ((lkN (by decide +kernel)).trans (lkE))
theorem fl_Pages_set_coming {v0 v1 v2 y : V} : putF "coming" y (fl_Pages v0 v1 v2) = fl_Pages v0 v1 y := (pfN (by decide +kernel)).trans (congrArg _ ((pfN (by decide +kernel)).trans (congrArg _ (pfE))))
theorem fl_Pages_made {v0 v1 v2 : V} : putF "coming" v2 (putF "known" v1 (putF "standing" v0 [])) = fl_Pages v0 v1 v2 := (congrArg (putF "coming" v2) ((congrArg (putF "known" v1) (rfl)).trans ((pfN (by decide +kernel)).trans (congrArg _ (rfl))))).trans ((pfN (by decide +kernel)).trans (congrArg _ ((pfN (by decide +kernel)).trans (congrArg _ (rfl)))))
theorem fl_Pages_len {v0 v1 v2 : V} : (fl_Pages v0 v1 v2).length < 1000 := by show 3 < 1000; decide
def fl_Makes (v0 v1 v2 : V) : List (Str × V) := [("kin", v0), ("states", v1), ("count", v2)]
theorem fl_Makes_kin {v0 v1 v2 : V} : (fl_Makes v0 v1 v2).lookup ("kin" : Str) = some v0 := lkE
theorem fl_Makes_set_kin {v0 v1 v2 y : V} : putF "kin" y (fl_Makes v0 v1 v2) = fl_Makes y v1 v2 := pfE
theorem fl_Makes_states {v0 v1 v2 : V} : (fl_Makes v0 v1 v2).lookup ("states" : Str) = some v1 := (lkN (by decide +kernel)).trans (lkE)
theorem fl_Makes_set_states {v0 v1 v2 y : V} : putF "states" y (fl_Makes v0 v1 v2) = fl_Makes v0 y v2 := (pfN (by decide +kernel)).trans (congrArg _ (pfE))
theorem fl_Makes_count {v0 v1 v2 : V} : (fl_Makes v0 v1 v2).lookup ("count" : Str) = some v2 := (lkN (by decide +kernel)).trans ((lkN (by decide +kernel)).trans (lkE))
theorem fl_Makes_set_count {v0 v1 v2 y : V} : putF "count" y (fl_Makes v0 v1 v2) = fl_Makes v0 v1 y := (pfN (by decide +kernel)).trans (congrArg _ ((pfN (by decide +kernel)).trans (congrArg _ (pfE))))
theorem fl_Makes_m_need {v0 v1 v2 : V} : (fl_Makes v0 v1 v2).lookup ("need" : Str) = none := (lkN (by decide +kernel)).trans ((lkN (by decide +kernel)).trans ((lkN (by decide +kernel)).trans (rfl)))
theorem fl_Makes_m_made {v0 v1 v2 : V} : (fl_Makes v0 v1 v2).lookup ("made" : Str) = none := (lkN (by decide +kernel)).trans ((lkN (by decide +kernel)).trans ((lkN (by decide +kernel)).trans (rfl)))
theorem fl_Makes_m_elders {v0 v1 v2 : V} : (fl_Makes v0 v1 v2).lookup ("elders" : Str) = none := (lkN (by decide +kernel)).trans ((lkN (by decide +kernel)).trans ((lkN (by decide +kernel)).trans (rfl)))
theorem fl_Makes_m_numbers {v0 v1 v2 : V} : (fl_Makes v0 v1 v2).lookup ("numbers" : Str) = none := (lkN (by decide +kernel)).trans ((lkN (by decide +kernel)).trans ((lkN (by decide +kernel)).trans (rfl)))
theorem fl_Makes_made {v0 v1 v2 : V} : putF "count" v2 (putF "states" v1 (putF "kin" v0 [])) = fl_Makes v0 v1 v2 := (congrArg (putF "count" v2) ((congrArg (putF "states" v1) (rfl)).trans ((pfN (by decide +kernel)).trans (congrArg _ (rfl))))).trans ((pfN (by decide +kernel)).trans (congrArg _ ((pfN (by decide +kernel)).trans (congrArg _ (rfl)))))
theorem fl_Makes_len {v0 v1 v2 : V} : (fl_Makes v0 v1 v2).length < 1000 := by show 3 < 1000; decide
def fl_Shelf (v0 v1 v2 : V) : List (Str × V) := [("pages", v0), ("makes", v1), ("titles", v2)]
theorem fl_Shelf_pages {v0 v1 v2 : V} : (fl_Shelf v0 v1 v2).lookup ("pages" : Str) = some v0 := lkE
theorem fl_Shelf_set_pages {v0 v1 v2 y : V} : putF "pages" y (fl_Shelf v0 v1 v2) = fl_Shelf y v1 v2 := pfE
theorem fl_Shelf_makes {v0 v1 v2 : V} : (fl_Shelf v0 v1 v2).lookup ("makes" : Str) = some v1 := (lkN (by decide +kernel)).trans (lkE)
theorem fl_Shelf_set_makes {v0 v1 v2 y : V} : putF "makes" y (fl_Shelf v0 v1 v2) = fl_Shelf v0 y v2 := (pfN (by decide +kernel)).trans (congrArg _ (pfE))
theorem fl_Shelf_titles {v0 v1 v2 : V} : (fl_Shelf v0 v1 v2).lookup ("titles" : Str) = some v2 := (lkN (by decide +kernel)).trans ((lkN (by decide +kernel)).trans (lkE))
theorem fl_Shelf_set_titles {v0 v1 v2 y : V} : putF "titles" y (fl_Shelf v0 v1 v2) = fl_Shelf v0 v1 y := (pfN (by decide +kernel)).trans (congrArg _ ((pfN (by decide +kernel)).trans (congrArg _ (pfE))))
theorem fl_Shelf_m_give {v0 v1 v2 : V} : (fl_Shelf v0 v1 v2).lookup ("give" : Str) = none := (lkN (by decide +kernel)).trans ((lkN (by decide +kernel)).trans ((lkN (by decide +kernel)).trans (rfl)))
theorem fl_Shelf_m_made_by {v0 v1 v2 : V} : (fl_Shelf v0 v1 v2).lookup ("made_by" : Str) = none := (lkN (by decide +kernel)).trans ((lkN (by decide +kernel)).trans ((lkN (by decide +kernel)).trans (rfl)))
theorem fl_Shelf_m_forget {v0 v1 v2 : V} : (fl_Shelf v0 v1 v2).lookup ("forget" : Str) = none := (lkN (by decide +kernel)).trans ((lkN (by decide +kernel)).trans ((lkN (by decide +kernel)).trans (rfl)))
theorem fl_Shelf_m_named {v0 v1 v2 : V} : (fl_Shelf v0 v1 v2).lookup ("named" : Str) = none := (lkN (by decide +kernel)).trans ((lkN (by decide +kernel)).trans ((lkN (by decide +kernel)).trans (rfl)))
theorem fl_Shelf_made {v0 v1 v2 : V} : putF "titles" v2 (putF "makes" v1 (putF "pages" v0 [])) = fl_Shelf v0 v1 v2 := (congrArg (putF "titles" v2) ((congrArg (putF "makes" v1) (rfl)).trans ((pfN (by decide +kernel)).trans (congrArg _ (rfl))))).trans ((pfN (by decide +kernel)).trans (congrArg _ ((pfN (by decide +kernel)).trans (congrArg _ (rfl)))))
theorem fl_Shelf_len {v0 v1 v2 : V} : (fl_Shelf v0 v1 v2).length < 1000 := by show 3 < 1000; decide
structure Top (K : PySem.W.Frag) (mg : Str → Option Value) where
  c_TableError : Addr
  c_BadWord : Addr
  c_NoMake : Addr
  c_NoName : Addr
  c_Pages : Addr
  c_Makes : Addr
  c_Shelf : Addr
  f_NoMake_init : Addr
  d_NoMake_init : FuncData
  f_NoName_init : Addr
  d_NoName_init : FuncData
  f_Pages_init : Addr
  d_Pages_init : FuncData
  f_is_word : Addr
  d_is_word : FuncData
  f_no_table : Addr
  d_no_table : FuncData
  f_Makes_init : Addr
  d_Makes_init : FuncData
  f_Makes_need : Addr
  d_Makes_need : FuncData
  f_Makes_made : Addr
  d_Makes_made : FuncData
  f_Makes_elders : Addr
  d_Makes_elders : FuncData
  f_Makes_numbers : Addr
  d_Makes_numbers : FuncData
  f_Shelf_init : Addr
  d_Shelf_init : FuncData
  f_Shelf_give : Addr
  d_Shelf_give : FuncData
  f_Shelf_made_by : Addr
  d_Shelf_made_by : FuncData
  f_Shelf_forget : Addr
  d_Shelf_forget : FuncData
  f_Shelf_named : Addr
  d_Shelf_named : FuncData
  f_lw_cell_at : Addr
  d_lw_cell_at : FuncData
  f_lw_mix : Addr
  d_lw_mix : FuncData
  f_lw_words : Addr
  d_lw_words : FuncData
  f_lw_odd : Addr
  d_lw_odd : FuncData
  f_lw_called : Addr
  d_lw_called : FuncData
  f_lw_answer : Addr
  d_lw_answer : FuncData
  f_lw_due : Addr
  d_lw_due : FuncData
  f_lw_same : Addr
  d_lw_same : FuncData
  f_lw_named : Addr
  d_lw_named : FuncData
  f_law : Addr
  d_law : FuncData
  g_TableError : mg "TableError" = some (.ref c_TableError)
  q_TableError : PySem.W.keepIn K (.ref c_TableError) = true
  e_TableError : PySem.W.subIn K (.ref c_TableError) (.type "BaseException") = some true
  y_TableError : PySem.W.typeIn K (.ref c_TableError) = some (.type "type")
  x_TableError : PySem.W.excIn K c_TableError [.type "ValueError", .type "Exception", .type "BaseException", .type "object"] "ValueError.__new__" = true
  g_BadWord : mg "BadWord" = some (.ref c_BadWord)
  q_BadWord : PySem.W.keepIn K (.ref c_BadWord) = true
  e_BadWord : PySem.W.subIn K (.ref c_BadWord) (.type "BaseException") = some true
  y_BadWord : PySem.W.typeIn K (.ref c_BadWord) = some (.type "type")
  x_BadWord : PySem.W.excIn K c_BadWord [.type "ValueError", .type "Exception", .type "BaseException", .type "object"] "ValueError.__new__" = true
  g_NoMake : mg "NoMake" = some (.ref c_NoMake)
  q_NoMake : PySem.W.keepIn K (.ref c_NoMake) = true
  e_NoMake : PySem.W.subIn K (.ref c_NoMake) (.type "BaseException") = some true
  y_NoMake : PySem.W.typeIn K (.ref c_NoMake) = some (.type "type")
  O_NoMake : OexC K c_NoMake
  i_NoMake : PySem.W.findIn K (.ref c_NoMake) "__init__" = some (some (.ref f_NoMake_init))
  t_NoMake : PySem.W.typeIn K (.ref f_NoMake_init) = some (.type "function")
  n_NoMake_number : PySem.W.findIn K (.ref c_NoMake) "number" = some none
  g_NoName : mg "NoName" = some (.ref c_NoName)
  q_NoName : PySem.W.keepIn K (.ref c_NoName) = true
  e_NoName : PySem.W.subIn K (.ref c_NoName) (.type "BaseException") = some true
  y_NoName : PySem.W.typeIn K (.ref c_NoName) = some (.type "type")
  O_NoName : OexC K c_NoName
  i_NoName : PySem.W.findIn K (.ref c_NoName) "__init__" = some (some (.ref f_NoName_init))
  t_NoName : PySem.W.typeIn K (.ref f_NoName_init) = some (.type "function")
  n_NoName_word : PySem.W.findIn K (.ref c_NoName) "word" = some none
  g_Pages : mg "Pages" = some (.ref c_Pages)
  C_Pages : Cls K c_Pages
  K_Pages : Mk K c_Pages f_Pages_init
  n_Pages_standing : NoAttr K c_Pages "standing"
  n_Pages_known : NoAttr K c_Pages "known"
  n_Pages_coming : NoAttr K c_Pages "coming"
  g_Makes : mg "Makes" = some (.ref c_Makes)
  C_Makes : Cls K c_Makes
  K_Makes : Mk K c_Makes f_Makes_init
  M_Makes_need : Meth K c_Makes "need" f_Makes_need
  M_Makes_made : Meth K c_Makes "made" f_Makes_made
  M_Makes_elders : Meth K c_Makes "elders" f_Makes_elders
  M_Makes_numbers : Meth K c_Makes "numbers" f_Makes_numbers
  n_Makes_kin : NoAttr K c_Makes "kin"
  n_Makes_states : NoAttr K c_Makes "states"
  n_Makes_count : NoAttr K c_Makes "count"
  g_Shelf : mg "Shelf" = some (.ref c_Shelf)
  C_Shelf : Cls K c_Shelf
  K_Shelf : Mk K c_Shelf f_Shelf_init
  M_Shelf_give : Meth K c_Shelf "give" f_Shelf_give
  M_Shelf_made_by : Meth K c_Shelf "made_by" f_Shelf_made_by
  M_Shelf_forget : Meth K c_Shelf "forget" f_Shelf_forget
  M_Shelf_named : Meth K c_Shelf "named" f_Shelf_named
  n_Shelf_pages : NoAttr K c_Shelf "pages"
  n_Shelf_makes : NoAttr K c_Shelf "makes"
  n_Shelf_titles : NoAttr K c_Shelf "titles"
  F_NoMake_init : Fun K "__init__" "NoMake.__init__" s_NoMake_init f_NoMake_init d_NoMake_init
  b_NoMake_init : Binds K d_NoMake_init ["self", "number"] []
  F_NoName_init : Fun K "__init__" "NoName.__init__" s_NoName_init f_NoName_init d_NoName_init
  b_NoName_init : Binds K d_NoName_init ["self", "word"] []
  F_Pages_init : Fun K "__init__" "Pages.__init__" s_Pages_init f_Pages_init d_Pages_init
  b_Pages_init : Binds K d_Pages_init ["self"] []
  F_is_word : Fun K "is_word" "is_word" s_is_word f_is_word d_is_word
  b_is_word : Binds K d_is_word ["thing"] []
  m_is_word : mg "is_word" = some (.ref f_is_word)
  F_no_table : Fun K "no_table" "no_table" s_no_table f_no_table d_no_table
  b_no_table : Binds K d_no_table [] []
  m_no_table : mg "no_table" = some (.ref f_no_table)
  F_Makes_init : Fun K "__init__" "Makes.__init__" s_Makes_init f_Makes_init d_Makes_init
  b_Makes_init : Binds K d_Makes_init ["self"] []
  F_Makes_need : Fun K "need" "Makes.need" s_Makes_need f_Makes_need d_Makes_need
  b_Makes_need : Binds K d_Makes_need ["self", "number"] []
  F_Makes_made : Fun K "made" "Makes.made" s_Makes_made f_Makes_made d_Makes_made
  b_Makes_made : Binds K d_Makes_made ["self", "elders", "table"] []
  F_Makes_elders : Fun K "elders" "Makes.elders" s_Makes_elders f_Makes_elders d_Makes_elders
  b_Makes_elders : Binds K d_Makes_elders ["self", "number"] []
  F_Makes_numbers : Fun K "numbers" "Makes.numbers" s_Makes_numbers f_Makes_numbers d_Makes_numbers
  b_Makes_numbers : Binds K d_Makes_numbers ["self"] []
  F_Shelf_init : Fun K "__init__" "Shelf.__init__" s_Shelf_init f_Shelf_init d_Shelf_init
  b_Shelf_init : Binds K d_Shelf_init ["self"] []
  F_Shelf_give : Fun K "give" "Shelf.give" s_Shelf_give f_Shelf_give d_Shelf_give
  b_Shelf_give : Binds K d_Shelf_give ["self", "word", "number"] []
  F_Shelf_made_by : Fun K "made_by" "Shelf.made_by" s_Shelf_made_by f_Shelf_made_by d_Shelf_made_by
  b_Shelf_made_by : Binds K d_Shelf_made_by ["self", "word"] []
  F_Shelf_forget : Fun K "forget" "Shelf.forget" s_Shelf_forget f_Shelf_forget d_Shelf_forget
  b_Shelf_forget : Binds K d_Shelf_forget ["self", "word"] []
  F_Shelf_named : Fun K "named" "Shelf.named" s_Shelf_named f_Shelf_named d_Shelf_named
  b_Shelf_named : Binds K d_Shelf_named ["self"] []
  F_lw_cell_at : Fun K "_law_cell_at" "_law_cell_at" s_lw_cell_at f_lw_cell_at d_lw_cell_at
  b_lw_cell_at : Binds K d_lw_cell_at ["_law_script", "_law_k"] []
  m_lw_cell_at : mg "_law_cell_at" = some (.ref f_lw_cell_at)
  F_lw_mix : Fun K "_law_mix" "_law_mix" s_lw_mix f_lw_mix d_lw_mix
  b_lw_mix : Binds K d_lw_mix ["_law_cell", "_law_k"] []
  m_lw_mix : mg "_law_mix" = some (.ref f_lw_mix)
  F_lw_words : Fun K "_law_words" "_law_words" s_lw_words f_lw_words d_lw_words
  b_lw_words : Binds K d_lw_words ["_law_cell"] []
  m_lw_words : mg "_law_words" = some (.ref f_lw_words)
  F_lw_odd : Fun K "_law_odd" "_law_odd" s_lw_odd f_lw_odd d_lw_odd
  b_lw_odd : Binds K d_lw_odd ["_law_number"] []
  m_lw_odd : mg "_law_odd" = some (.ref f_lw_odd)
  F_lw_called : Fun K "_law_called" "_law_called" s_lw_called f_lw_called d_lw_called
  b_lw_called : Binds K d_lw_called ["_law_shelf", "_law_way", "_law_word", "_law_number"] []
  m_lw_called : mg "_law_called" = some (.ref f_lw_called)
  F_lw_answer : Fun K "_law_answer" "_law_answer" s_lw_answer f_lw_answer d_lw_answer
  b_lw_answer : Binds K d_lw_answer ["_law_shelf", "_law_way", "_law_word", "_law_number"] []
  m_lw_answer : mg "_law_answer" = some (.ref f_lw_answer)
  F_lw_due : Fun K "_law_due" "_law_due" s_lw_due f_lw_due d_lw_due
  b_lw_due : Binds K d_lw_due ["_law_names", "_law_many", "_law_way", "_law_word", "_law_good", "_law_number"] []
  m_lw_due : mg "_law_due" = some (.ref f_lw_due)
  F_lw_same : Fun K "_law_same" "_law_same" s_lw_same f_lw_same d_lw_same
  b_lw_same : Binds K d_lw_same ["_law_found", "_law_due_here"] []
  m_lw_same : mg "_law_same" = some (.ref f_lw_same)
  F_lw_named : Fun K "_law_named" "_law_named" s_lw_named f_lw_named d_lw_named
  b_lw_named : Binds K d_lw_named ["_law_shelf", "_law_names"] []
  m_lw_named : mg "_law_named" = some (.ref f_lw_named)
  F_law : Fun K "law" "law" s_law f_law d_law
  b_law : Binds K d_law ["_law_script"] []
  m_law : mg "law" = some (.ref f_law)
  z_bool : mg "bool" = none
  z_int : mg "int" = none
  z_isinstance : mg "isinstance" = none
  z_len : mg "len" = none
  z_list : mg "list" = none
  z_max : mg "max" = none
  z_range : mg "range" = none
  z_set : mg "set" = none
  z_sorted : mg "sorted" = none
  z_str : mg "str" = none
  z_tuple : mg "tuple" = none
  z_zip : mg "zip" = none
  tk_LETTERS : Tok
  k_LETTERS : mg "LETTERS" = some (.str "abcdefghijklmnopqrstuvwxyz" tk_LETTERS)
  X_NoName : XfC K c_NoName
  E_NoName : ExcC K c_NoName
  xm_NoName : PySem.W.exmOne K (.ref c_NoName) (.ref c_TableError) = some true
  X_NoMake : XfC K c_NoMake
  E_NoMake : ExcC K c_NoMake
  xm_NoMake : PySem.W.exmOne K (.ref c_NoMake) (.ref c_TableError) = some true
  X_BadWord : XfC K c_BadWord
  E_BadWord : ExcC K c_BadWord
  xm_BadWord : PySem.W.exmOne K (.ref c_BadWord) (.ref c_TableError) = some true
  ko_NoName_NoName : PySem.W.kitOne K (.ref c_NoName) (.ref c_NoName) = some true
  ko_NoMake_NoName : PySem.W.kitOne K (.ref c_NoMake) (.ref c_NoName) = some false
  ko_BadWord_NoName : PySem.W.kitOne K (.ref c_BadWord) (.ref c_NoName) = some false
  ko_NoMake_NoMake : PySem.W.kitOne K (.ref c_NoMake) (.ref c_NoMake) = some true
  ko_BadWord_NoMake : PySem.W.kitOne K (.ref c_BadWord) (.ref c_NoMake) = some false
  ko_BadWord_BadWord : PySem.W.kitOne K (.ref c_BadWord) (.ref c_BadWord) = some true
end Z
namespace Z
open PySem PySem.Spec PyProof.Rows L2
/-! ### Makes: what an object of it is, and its methods' promises -/
theorem findKV {α : Type} (g : Int × α → V) (k : Int) : ∀ l : List (Int × α), valV (l.map fun x => ((Sum.inl x.1 : Key), g x)) (Sum.inl k) = (l.find? fun x => decide (x.1 = k)).map g
  | [] => rfl
  | x :: r => by
    rw [List.map_cons]
    by_cases e : x.1 = k
    · rw [valV_pos (p := ((Sum.inl x.1 : Key), g x)) (by rw [e]), List.find?_cons_of_pos (by simp [e])]
      rfl
    · rw [valV_neg (p := ((Sum.inl x.1 : Key), g x)) (fun z => e (Sum.inl.inj z)), List.find?_cons_of_neg (by simp [e])]
      exact findKV g k r
theorem keysKV {α : Type} (g : Int × α → V) (l : List (Int × α)) : (l.map fun x => ((Sum.inl x.1 : Key), g x)).map (·.1) = (l.map (·.1)).map Sum.inl := by
  rw [List.map_map, List.map_map]
  rfl
theorem noKV {α : Type} {g : Int × α → V} {l : List (Int × α)} {k : Int} (h : valV (l.map fun x => ((Sum.inl x.1 : Key), g x)) (Sum.inl k) = none) : ¬ k ∈ l.map (·.1) := fun m => by
  have z := valV_not h
  rw [keysKV] at z
  exact z (List.mem_map.mpr ⟨k, m, rfl⟩)
theorem inKV {α : Type} {g : Int × α → V} {l : List (Int × α)} {k : Int} {v : V} (h : valV (l.map fun x => ((Sum.inl x.1 : Key), g x)) (Sum.inl k) = some v) : k ∈ l.map (·.1) := by
  have z := valV_in h
  rw [keysKV] at z
  obtain ⟨a, m, e⟩ := List.mem_map.mp z
  cases e
  exact m
theorem missKV {α : Type} {g : Int × α → V} {l : List (Int × α)} {k : Int} (h : ¬ k ∈ l.map (·.1)) : valV (l.map fun x => ((Sum.inl x.1 : Key), g x)) (Sum.inl k) = none := by
  cases e : valV (l.map fun x => ((Sum.inl x.1 : Key), g x)) (Sum.inl k) with
  | none => rfl
  | some v => exact (h (inKV e)).elim
theorem putKV {α : Type} {g : Int × α → V} {l : List (Int × α)} {x : Int × α} (h : ¬ x.1 ∈ l.map (·.1)) : putK (l.map fun x => ((Sum.inl x.1 : Key), g x)) (Sum.inl x.1) (g x) = (l ++ [x]).map fun x => ((Sum.inl x.1 : Key), g x) := by
  rw [putK_new _ (missKV h), List.map_append]
  rfl
structure MakesAt (C : Addr) (H : Hp) (p dk ds : Addr) (ks : List (Int × Addr × List Int)) (ss : List (Int × V)) (n : Int) : Prop where
  ob : ∃ dx, H p = some (.ins C dx (fl_Makes (.ref dk) (.ref ds) (.int n)))
  hk : H dk = some (.dK (ks.map fun k => ((Sum.inl k.1 : Key), V.ref k.2.1)))
  hs : H ds = some (.dK (ss.map fun k => ((Sum.inl k.1 : Key), k.2)))
  ht : ∀ k ∈ ks, H k.2.1 = some (.tup (k.2.2.map V.int))
  ne : dk ≠ ds
theorem MakesAt.same {C p dk ds : Addr} {H H' : Hp} {ks : List (Int × Addr × List Int)} {ss : List (Int × V)} {n : Int} (M : MakesAt C H p dk ds ks ss n) (s : Same H H') : MakesAt C H' p dk ds ks ss n :=
  ⟨let ⟨dx, h⟩ := M.ob; ⟨dx, s _ _ h⟩, s _ _ M.hk, s _ _ M.hs, fun k hk => s _ _ (M.ht k hk), M.ne⟩
theorem MakesAt.pk {C p dk ds : Addr} {H : Hp} {ks : List (Int × Addr × List Int)} {ss : List (Int × V)} {n : Int} (M : MakesAt C H p dk ds ks ss n) : p ≠ dk := let ⟨_, h⟩ := M.ob; ne_of h M.hk (by intro z; cases z)
theorem MakesAt.pS {C p dk ds : Addr} {H : Hp} {ks : List (Int × Addr × List Int)} {ss : List (Int × V)} {n : Int} (M : MakesAt C H p dk ds ks ss n) : p ≠ ds := let ⟨_, h⟩ := M.ob; ne_of h M.hs (by intro z; cases z)
theorem MakesAt.tne {C p dk ds : Addr} {H : Hp} {ks : List (Int × Addr × List Int)} {ss : List (Int × V)} {n : Int} (M : MakesAt C H p dk ds ks ss n) {k : Int × Addr × List Int} (h : k ∈ ks) : k.2.1 ∉ [p, dk, ds] := by
  obtain ⟨dx, ho⟩ := M.ob
  simp only [List.mem_cons, List.not_mem_nil, or_false, not_or]
  exact ⟨ne_of (M.ht k h) ho (by intro z; cases z), ne_of (M.ht k h) M.hk (by intro z; cases z), ne_of (M.ht k h) M.hs (by intro z; cases z)⟩
section
variable {K : PySem.W.Frag} {mg : Str → Option Value}
def spMakesInit (T : Top K mg) : Sp := fun vs H Q _ => ∃ p dx, vs = [.ref p] ∧ H p = some (.ins T.c_Makes dx []) ∧
  ∀ H' dk ds t u, But [p] H H' → H dk = none → H ds = none → dk ≠ ds → H t = none → MakesAt T.c_Makes H' p dk ds [(0, t, [])] [(0, .ref u)] 1 → Q .non H'
def spNoTable : Sp := fun vs H Q _ => vs = [] ∧ ∀ H' e u, Same H H' → H e = none → H u = none → H' e = some (.tup []) → H' u = some (.tup [.ref e, .non]) → Q (.ref u) H'
def spNeed (T : Top K mg) : Sp := fun vs H Q E => ∃ p dk ds ks ss n k, vs = [.ref p, .int k] ∧ MakesAt T.c_Makes H p dk ds ks ss n ∧ (k ∈ ks.map (·.1) → Q (.int k) H) ∧
  (¬ k ∈ ks.map (·.1) → ∀ d, H d = none → E (.ref T.c_NoMake) (some d) (upd H d (.xd [("number", .int k)])))
def spElders (T : Top K mg) : Sp := fun vs H Q E => ∃ p dk ds ks ss n k, vs = [.ref p, .int k] ∧ MakesAt T.c_Makes H p dk ds ks ss n ∧ (∀ x, (ks.find? fun x => decide (x.1 = k)) = some x → Q (.ref x.2.1) H) ∧
  (¬ k ∈ ks.map (·.1) → ∀ d, H d = none → E (.ref T.c_NoMake) (some d) (upd H d (.xd [("number", .int k)])))
def spNumbers (T : Top K mg) : Sp := fun vs H Q _ => ∃ p dk ds ks ss n, vs = [.ref p] ∧ MakesAt T.c_Makes H p dk ds ks ss n ∧ ks.length < 64 ∧
  ∀ (ys : List Int) (q : Addr), ys.Perm (ks.map (·.1)) → ys.Pairwise (· ≤ ·) → H q = none → Q (.ref q) (upd H q (.lst (ys.map V.int)))
def spMade (T : Top K mg) : Sp := fun vs H Q _ => ∃ p dk ds ks ss n l es tb, vs = [.ref p, .ref l, tb] ∧ MakesAt T.c_Makes H p dk ds ks ss n ∧ SqL K H l (es.map V.int) ∧ es ≠ [] ∧ es.length ≤ 60 ∧ (∃ a b, ∀ x ∈ es, x = a ∨ x = b) ∧
  (∀ x ∈ es, x ∈ ks.map (·.1)) ∧ ks.length ≤ 500 ∧ ss.length ≤ 500 ∧ ¬ n ∈ ks.map (·.1) ∧ ¬ n ∈ ss.map (·.1) ∧
  ∀ H' t so, so.Pairwise (· < ·) → (∀ x, x ∈ so ↔ x ∈ es) → But [p, dk, ds] H H' → H t = none → MakesAt T.c_Makes H' p dk ds (ks ++ [(n, t, so)]) (ss ++ [(n, tb)]) (n + 1) → Q (.int n) H'
end
section
variable {P : Program} {w : World} {K : PySem.W.Frag} {mg : Str → Option Value} {base : Heap}
theorem mk_var {C : Addr} {f : Str} {i : Nat} {σ : L2.St} {H : Hp} {Q : XK} {v : V} (hs : σ[i]? = some (some v)) (h : ∀ d, H d = none → Q (.ref C) (some d) (upd H d (.xd [(f, v)]))) : tMkO C (spExc C f) [] (tCons (tVar i) tNil) σ H Q :=
  mkO_read (ta := tCons (tVar i) tNil) ⟨v, hs, v, rfl, h⟩ fun _ _ _ _ hPR ⟨u, e, q⟩ => ⟨u, e, hPR _ _ q⟩
theorem ok_NoMake_init (T : Top K mg) : FnOk P w K mg base CX0 1 T.f_NoMake_init T.d_NoMake_init ["self", "number"] (spExc T.c_NoMake "number") := by
  refine T.F_NoMake_init.ok sc_NoMake_init (fun vs H Q E h => ?_) (fun cdv A outer s H vs Q E hr h => ?_)
  · obtain ⟨a, v, rfl, _⟩ := h
    rfl
  · obtain ⟨a, v, rfl, ha, k⟩ := h
    refine ⟨_, (pss_one (ps_ost (pv 0) (pv 1))), ?_⟩
    exact ⟨_, rfl, _, rfl, a, _, rfl, T.O_NoMake, T.n_NoMake_number, .inl ⟨ha, fun dx hd ne => k dx hd ne⟩⟩
theorem ok_no_table (T : Top K mg) : FnOk P w K mg base CX0 1 T.f_no_table T.d_no_table [] (spNoTable) := by
  refine T.F_no_table.ok sc_no_table (fun vs H Q E h => ?_) (fun cdv A outer s H vs Q E hr h => ?_)
  · obtain ⟨rfl, _⟩ := h
    rfl
  · obtain ⟨rfl, k⟩ := h
    refine ⟨_, (pss_one (ps_ret (pe_tup (pa_cons (pe_tup pa_nil) (pa_cons pe_non pa_nil))))), ?_⟩
    refine ⟨(by show 0 ≤ sizeLine; decide), fun e he => ⟨(by show 2 ≤ sizeLine; decide), fun u hu => ?_⟩⟩
    have hue : u ≠ e := fun z => by rw [z, upd_same] at hu; cases hu
    have hu0 : H u = none := by rw [upd_ne hue] at hu; exact hu
    exact k _ e u ((same_upd he).new hu0) he hu0 (by rw [upd_ne (Ne.symm hue), upd_same]) upd_same
theorem ok_Makes_init (T : Top K mg) : FnOk P w K mg base CX0 2 T.f_Makes_init T.d_Makes_init ["self"] (spMakesInit T) := by
  refine T.F_Makes_init.ok sc_Makes_init (fun vs H Q E h => ?_) (fun cdv A outer s H vs Q E hr h => ?_)
  · obtain ⟨p, dx, rfl, _⟩ := h
    rfl
  · obtain ⟨p, dx, rfl, hp, k⟩ := h
    refine ⟨_, (pss_cons (ps_fld (pv 0) (pe_disp (pps_cons pe_int (pe_tup pa_nil) pps_nil) (by rfl) (by rfl) (fun z => by cases z) (by decide)) rfl)
      (pss_cons (ps_fld (pv 0) (pe_disp (pps_cons pe_int (pe_call0 (ok_no_table T) (hr.mono (by decide)) (by rfl) T.m_no_table T.F_no_table.kp T.b_no_table .nil pass0) pps_nil) (by rfl) (by rfl) (fun z => by cases z) (by decide)) rfl)
      (pss_one (ps_fld (pv 0) pe_int rfl)))), ?_⟩
    -- self.kin = {0: ()}
    intro dk hdk
    refine ⟨(by show 0 ≤ sizeLine; decide), fun t ht => ?_⟩
    have npk : p ≠ dk := ne_of_none hp hdk
    have ntk : t ≠ dk := fun z => by rw [z, upd_same] at ht; cases ht
    have ht0 : H t = none := by rw [upd_ne ntk] at ht; exact ht
    have npt : p ≠ t := ne_of_none hp ht0
    refine ⟨by rw [upd_ne (Ne.symm ntk), upd_same], [(Sum.inl 0, .ref t)], rfl, (by show 1 ≤ 15; decide), ?_⟩
    have s1 : But [p] H (upd (upd (upd H dk (.dK [])) t (.tup [])) dk (.dK [(Sum.inl 0, .ref t)])) := ((But.refl.new hdk).new ht0).new hdk
    refine ⟨_, rfl, p, T.c_Makes, dx, [], rfl, (by rw [upd_ne npk, upd_ne npt, upd_ne npk]; exact hp), T.C_Makes, T.n_Makes_kin, (by decide), ?_⟩
    -- self.states = {0: no_table()}
    intro ds hds
    have nsp : ds ≠ p := fun z => by rw [z, upd_same] at hds; cases hds
    rw [upd_ne nsp] at hds
    have nsk : ds ≠ dk := fun z => by rw [z, upd_same] at hds; cases hds
    rw [upd_ne nsk] at hds
    have nst : ds ≠ t := fun z => by rw [z, upd_same] at hds; cases hds
    rw [upd_ne nst, upd_ne nsk] at hds
    refine ⟨rfl, fun H2 e u S2 he hu h2e h2u => ?_⟩
    have hk1 := S2 dk (.dK [(Sum.inl 0, .ref t)]) (by rw [upd_ne (Ne.symm nsk), upd_ne (Ne.symm npk), upd_same]; rfl)
    have ht1 := S2 t (.tup []) (by rw [upd_ne (Ne.symm nst), upd_ne (Ne.symm npt), upd_ne ntk, upd_same])
    have hs1 := S2 ds (.dK []) upd_same
    have hp1 := S2 p _ (by rw [upd_ne (Ne.symm nsp), upd_same])
    refine ⟨hs1, [(Sum.inl 0, .ref u)], rfl, (by show 1 ≤ 15; decide), ?_⟩
    have B2 : But [p] H H2 := ((s1.put (by simp)).new hds).trans (.of S2)
    refine ⟨_, rfl, p, T.c_Makes, dx, _, rfl, (by rw [upd_ne (Ne.symm nsp)]; exact hp1), T.C_Makes, T.n_Makes_states, pl1, ?_⟩
    -- self.count = 1
    refine ⟨_, rfl, p, T.c_Makes, dx, _, rfl, upd_same, T.C_Makes, T.n_Makes_count, pl2, ?_⟩
    have e1 : putF "count" (V.int 1) (putF "states" (V.ref ds) (putF "kin" (V.ref dk) [])) = fl_Makes (.ref dk) (.ref ds) (.int 1) := fl_Makes_made
    refine k _ dk ds t u (((B2.new hds).put (by simp)).put (by simp)) hdk hds (Ne.symm nsk) ht0 ⟨⟨dx, ?_⟩, ?_, ?_, ?_, Ne.symm nsk⟩
    · rw [upd_same, e1]
    · rw [upd_ne (Ne.symm npk), upd_ne (Ne.symm npk), upd_ne (Ne.symm nsk)]
      exact hk1
    · rw [upd_ne nsp, upd_ne nsp, upd_same]
      rfl
    · intro x hx
      obtain rfl : x = (0, t, []) := by simpa using hx
      show upd _ _ _ t = _
      rw [upd_ne (Ne.symm npt), upd_ne (Ne.symm npt), upd_ne (Ne.symm nst)]
      exact ht1
theorem ok_Makes_need (T : Top K mg) : FnOk P w K mg base (L2.CX P w) 3 T.f_Makes_need T.d_Makes_need ["self", "number"] (spNeed T) := by
  refine T.F_Makes_need.okX sc_Makes_need (fun vs H Q E h => ?_) (fun cdv A outer s H vs Q E hr h => ?_)
  · obtain ⟨p, dk, ds, ks, ss, n, k, rfl, _⟩ := h
    rfl
  · obtain ⟨p, dk, ds, ks, ss, n, k, rfl, M, kq, ke⟩ := h
    have hu := hu_of hr
    obtain ⟨dx, h1⟩ := M.ob
    refine ⟨_, (pss_cons (ps_if (pt_cmp (pc_dnotin hu (pv 1) (pe_fld (pv 0) rfl))) (pss_one (ps_raise rfl (takes_of rfl rfl rfl rfl) (pmk_oex T.O_NoMake T.i_NoMake T.t_NoMake (ok_NoMake_init T) (hr.mono (by decide)) T.b_NoMake_init .nil pass0 rfl T.g_NoMake (pa_cons (pv 1) pa_nil)))) pss_nil)
      (pss_one (ps_ret (pv 1)))), ?_⟩
    refine ⟨_, rfl, _, rfl, p, T.c_Makes, dx, _, _, rfl, h1, T.C_Makes, T.n_Makes_kin, fl_Makes_kin, dk, _, rfl, DGet.k (k := Sum.inl k) M.hk, _, rfl, ?_⟩
    cases e : valV (ks.map fun k => ((Sum.inl k.1 : Key), V.ref k.2.1)) (Sum.inl k) with
    | some v => exact iteF ⟨_, rfl, kq (inKV e)⟩
    | none => exact iteT (mk_var rfl (ke (noKV e)))
theorem ok_Makes_elders (T : Top K mg) : FnOk P w K mg base (L2.CX P w) 4 T.f_Makes_elders T.d_Makes_elders ["self", "number"] (spElders T) := by
  refine T.F_Makes_elders.okX sc_Makes_elders (fun vs H Q E h => ?_) (fun cdv A outer s H vs Q E hr h => ?_)
  · obtain ⟨p, dk, ds, ks, ss, n, k, rfl, _⟩ := h
    rfl
  · obtain ⟨p, dk, ds, ks, ss, n, k, rfl, M, kq, ke⟩ := h
    have hu := hu_of hr
    obtain ⟨dx, h1⟩ := M.ob
    refine ⟨_, (pss_one (ps_ret (pe_dget hu (pe_fld (pv 0) rfl) (pe_meth (pv 0) T.C_Makes T.M_Makes_need (ok_Makes_need T) (hr.mono (by decide)) T.b_Makes_need .nil (passes_call (takes_of rfl rfl rfl rfl) (fun _ _ _ _ h => h)) (pa_cons (pv 1) pa_nil)) (fun _ _ => rfl)))), ?_⟩
    refine ⟨_, rfl, p, T.c_Makes, dx, _, _, rfl, h1, T.C_Makes, T.n_Makes_kin, fl_Makes_kin, _, rfl, p, dx, _, rfl, h1, fl_Makes_m_need, _, rfl, p, dk, ds, ks, ss, n, k, rfl, M, fun hk => ?_, ke⟩
    cases e : ks.find? fun x => decide (x.1 = k) with
    | none =>
      obtain ⟨x, hx, ex⟩ := List.mem_map.mp hk
      exact absurd (List.find?_eq_none.mp e x hx) (by simp [ex])
    | some x =>
      refine ⟨dk, V.ref x.2.1, rfl, ?_, kq x e⟩
      have g := DGet.k (k := Sum.inl k) M.hk
      rw [findKV (fun k : Int × Addr × List Int => V.ref k.2.1) k ks, e] at g
      exact g
theorem ok_Makes_numbers (T : Top K mg) : FnOk P w K mg base CX0 1 T.f_Makes_numbers T.d_Makes_numbers ["self"] (spNumbers T) := by
  refine T.F_Makes_numbers.ok sc_Makes_numbers (fun vs H Q E h => ?_) (fun cdv A outer s H vs Q E hr h => ?_)
  · obtain ⟨p, dk, ds, ks, ss, n, rfl, _⟩ := h
    rfl
  · obtain ⟨p, dk, ds, ks, ss, n, rfl, M, hl, kq⟩ := h
    obtain ⟨dx, h1⟩ := M.ob
    refine ⟨_, (pss_one (ps_ret (pe_callB (call_sortedDI rfl) (by rfl) T.z_sorted (by decide +kernel) (pa_cons (pe_fld (pv 0) rfl) pa_nil)))), ?_⟩
    exact ⟨_, rfl, p, T.c_Makes, dx, _, _, rfl, h1, T.C_Makes, T.n_Makes_kin, fl_Makes_kin, dk, _, ks.map (·.1), rfl, .inl M.hk, keysKV _ _, by rw [List.length_map]; exact hl, fun ys q hp hs hq => kq ys q hp hs hq⟩
theorem lt2_of {so : List Int} {a b : Int} (hs : so.Pairwise (· < ·)) (h : ∀ x ∈ so, x = a ∨ x = b) : so.length ≤ 2 := by
  match so, hs, h with
  | [], _, _ => simp
  | [_], _, _ => simp
  | [_, _], _, _ => simp
  | x :: y :: z :: r, hs, h =>
    have h1 := h x (by simp)
    have h2 := h y (by simp)
    have h3 := h z (by simp)
    simp only [List.pairwise_cons, List.mem_cons, forall_eq_or_imp] at hs
    omega
theorem ok_Makes_made (T : Top K mg) : FnOk P w K mg base CX0 4 T.f_Makes_made T.d_Makes_made ["self", "elders", "table"] (spMade T) := by
  refine T.F_Makes_made.ok sc_Makes_made (fun vs H Q E h => ?_) (fun cdv A outer s H vs Q E hr h => ?_)
  · obtain ⟨p, dk, ds, ks, ss, n, l, es, tb, rfl, _⟩ := h
    rfl
  · obtain ⟨p, dk, ds, ks, ss, n, l, es, tb, rfl, M, hl, hne, hlen, ⟨a, b, hab⟩, hin, hkl, hsl, hnk, hns, kq⟩ := h
    have hu := hu_of hr
    obtain ⟨dx, h1⟩ := M.ob
    refine ⟨_, (pss_cons (ps_set (i := 3) sc_Makes_made.nd rfl (by first | exact Or.inl rfl | exact Or.inr rfl) (pe_callB (cr_sortedSet rfl) (by rfl) T.z_sorted (by decide +kernel) (pa_cons (pe_callTy cr_setL (by rfl) T.z_set (by decide +kernel) (pa_cons (pv 1) pa_nil)) pa_nil)))
      (pss_cons (ps_if (PW.pt (pw_or (pt_cmpR op_lt (pe_callB call_len_seq (by rfl) T.z_len PySem.boot_len (pa_cons (pv 3) pa_nil)) pe_int (nomark _)) (pw_or1 (pt_cmpR op_gt (pe_callB call_len_seq (by rfl) T.z_len PySem.boot_len (pa_cons (pv 3) pa_nil)) pe_int (nomark _))))) (pss_one ps_never) pss_nil)
      (pss_cons (ps_for PassesOwn.never rfl (pi_list (pv 3)) (pg_name (i := 4) sc_Makes_made.nd rfl (by first | exact Or.inl rfl | exact Or.inr rfl))
      (pss_one (ps_expr (pe_meth (pv 0) T.C_Makes T.M_Makes_need (ok_Makes_need T) (hr.mono (by decide)) T.b_Makes_need .nil passL (pa_cons (pv 4) pa_nil)))))
      (pss_cons (ps_set (i := 5) sc_Makes_made.nd rfl (by first | exact Or.inl rfl | exact Or.inr rfl) (pe_fld (pv 0) rfl))
      (pss_cons (ps_dput hu (pe_fld (pv 0) rfl) (pv 5) (pe_callTy call_tuple_of (by rfl) T.z_tuple (by decide +kernel) (pa_cons (pv 3) pa_nil)) rfl)
      (pss_cons (ps_dput hu (pe_fld (pv 0) rfl) (pv 5) (pv 2) rfl)
      (pss_cons (ps_fld (pv 0) (pe_op op_add (pv 5) pe_int) rfl)
      (pss_one (ps_ret (pv 5)))))))))), ?_⟩
    -- some = sorted(set(elders))
    refine ⟨_, rfl, l, es, rfl, hl, by omega, fun z c hz hc => ⟨z, _, c, rfl, upd_same, by omega, fun so q so1 so2 so3 hq => ?_⟩⟩
    have so2' : ∀ x, x ∈ so ↔ x ∈ es := fun x => by rw [so2 x, decide_eq_true_eq]
    have hqz : q ≠ z := fun e => by rw [e, upd_same] at hq; cases hq
    have hq0 : H q = none := by rw [upd_ne hqz] at hq; exact hq
    have hle2 : so.length ≤ 2 := lt2_of so1 fun x hx => hab x ((so2' x).mp hx)
    have hge1 : 1 ≤ so.length := by
      cases es with
      | nil => exact absurd rfl hne
      | cons x r =>
        have := (so2' x).mpr (by simp)
        cases so with
        | nil => cases this
        | cons _ _ => simp
    have S1 : Same H (upd (upd H z (SetO w z (fun j => decide (j ∈ es)) c)) q (.lst (so.map V.int))) := (same_upd hz).new hq0
    -- if len(some) < 1 or len(some) > 2
    refine ⟨_, rfl, q, _, rfl, .inl (SqL.of upd_same), _, _, rfl, rfl, _, rfl, ?_⟩
    rw [List.length_map]
    rw [decide_eq_false (by show ¬ ((so.length : Nat) : Int) < 1; omega)]
    refine iteF ⟨_, rfl, q, _, rfl, .inl (SqL.of upd_same), _, _, rfl, rfl, _, rfl, ?_⟩
    rw [List.length_map]
    rw [decide_eq_false (by show ¬ (2 : Int) < ((so.length : Nat) : Int); omega)]
    refine iteF ?_
    -- for elder in some: self.need(elder)
    refine ⟨_, rfl, q, rfl, ⟨_, SqL.of upd_same⟩, for_list (K := K) (a := q) (xs := so.map V.int) (fun i σ H2 => H2 = upd (upd H z (SetO w z (fun j => decide (j ∈ es)) c)) q (.lst (so.map V.int)) ∧ ∃ v : Option V, σ = [some (.ref p), some (.ref l), some tb, some (.ref q), v, none])
      ⟨rfl, _, rfl⟩ (fun i σ H2 _ ⟨e, _⟩ => by rw [e]; exact SqL.of upd_same) ?_ ?_⟩
    · rintro i y σ H2 hi ⟨rfl, v, rfl⟩
      obtain ⟨x, hx, rfl⟩ := map_at hi
      have hxe : x ∈ ks.map (·.1) := hin x ((so2' x).mp (List.mem_of_getElem? hx))
      exact ⟨_, rfl, p, dx, _, rfl, S1 _ _ h1, fl_Makes_m_need, _, rfl, p, dk, ds, ks, ss, n, x, rfl, M.same S1, fun _ => ⟨rfl, _, rfl⟩, fun hno => absurd hxe hno⟩
    · rintro σ H2 ⟨rfl, v, rfl⟩
      -- number = self.count
      refine ⟨_, rfl, p, T.c_Makes, dx, _, _, rfl, S1 _ _ h1, T.C_Makes, T.n_Makes_count, fl_Makes_count, ?_⟩
      -- self.kin[number] = tuple(some)
      refine ⟨_, rfl, q, _, rfl, .inl ⟨SqL.of upd_same, fun t ht => ?_⟩⟩
      have hpq : p ≠ q := ne_of_none h1 hq0
      have ht0 : H t = none := S1.free ht
      have S2 := S1.new (o := .tup (so.map V.int)) ht0
      have npt : p ≠ t := ne_of_none h1 ht0
      have nkt : dk ≠ t := ne_of_none M.hk ht0
      have nst : ds ≠ t := ne_of_none M.hs ht0
      have npk := M.pk
      have npS := M.pS
      refine ⟨_, rfl, p, T.c_Makes, dx, _, _, rfl, S2 _ _ h1, T.C_Makes, T.n_Makes_kin, fl_Makes_kin, _, rfl, dk, _, rfl, DPut.k (k := Sum.inl n) (S2 _ _ M.hk) (small1000 (by rw [List.length_map]; omega)), ?_⟩
      rw [putKV (g := fun k : Int × Addr × List Int => V.ref k.2.1) (x := (n, t, so)) hnk]
      -- self.states[number] = table
      have nks : dk ≠ ds := M.ne
      refine ⟨_, rfl, _, rfl, p, T.c_Makes, dx, _, _, rfl, (by rw [upd_ne npk]; exact S2 _ _ h1), T.C_Makes, T.n_Makes_states, fl_Makes_states, _, rfl, ds, _, rfl, DPut.k (k := Sum.inl n) (by rw [upd_ne (Ne.symm nks)]; exact S2 _ _ M.hs) (small1000 (by rw [List.length_map]; omega)), ?_⟩
      rw [putKV (g := fun k : Int × V => k.2) (x := (n, tb)) hns]
      -- self.count = number + 1
      refine ⟨_, rfl, _, _, rfl, rfl, _, rfl, p, T.c_Makes, dx, _, rfl, (by rw [upd_ne npS, upd_ne npk]; exact S2 _ _ h1), T.C_Makes, T.n_Makes_count, fl_Makes_len, ?_⟩
      rw [fl_Makes_set_count]
      refine ⟨_, rfl, ?_⟩
      refine kq _ t so so1 so2' (((((But.of S2).put (by simp)).put (by simp)).put (by simp))) ht0 ⟨⟨dx, upd_same⟩, ?_, ?_, ?_, nks⟩
      · rw [upd_ne (Ne.symm npk), upd_ne nks, upd_same]
      · rw [upd_ne (Ne.symm npS), upd_same]
      · intro x hx
        rcases List.mem_append.mp hx with hx | hx
        · have nx := M.tne hx
          simp only [List.mem_cons, List.not_mem_nil, or_false, not_or] at nx
          rw [upd_ne nx.1, upd_ne nx.2.2, upd_ne nx.2.1]
          exact S2 _ _ (M.ht x hx)
        · obtain rfl : x = (n, t, so) := by simpa using hx
          show upd _ _ _ t = _
          rw [upd_ne (Ne.symm npt), upd_ne (Ne.symm nst), upd_ne (Ne.symm nkt), upd_same]
end
end Z
namespace Z
open PySem PySem.Spec PyProof.Rows L2
/-! ### words, shelves -/
def letters : Str := "abcdefghijklmnopqrstuvwxyz"
def isWord (z : Str) : Bool := decide (1 ≤ z.length) && (decide (z.length ≤ 12) && z.cps.toList.all fun c => decide (c ∈ letters.cps.toList))
def wordB : V → Bool
  | .str z => isWord z
  | _ => false
/-- is_word may be asked of it -/
def WordV (K : PySem.W.Frag) (H : Hp) (v : V) : Prop := (∃ z, v = .str z ∧ z.length ≤ sizeLine) ∨ ((∀ z, v ≠ .str z) ∧ ∃ t, TyX K H v t ∧ PySem.W.kitOne K t (.type "str") = some false)
theorem wordB_str {v : V} (h : wordB v = true) : ∃ z, v = .str z ∧ isWord z = true := by
  cases v with
  | str z => exact ⟨z, rfl, h⟩
  | _ => cases h
/-- the names of a shelf: texts that are words, with numbers -/
def Titles (kt : List (Key × V)) : Prop := ∀ q ∈ kt, ∃ z k, q = (Sum.inr z, V.int k) ∧ isWord z = true
theorem titles_put {kt : List (Key × V)} {z : Str} {k : Int} (h : Titles kt) (hz : isWord z = true) : Titles (putK kt (Sum.inr z) (.int k)) := by
  intro q hq
  unfold putK at hq
  split at hq
  · obtain ⟨a, ha, rfl⟩ := List.mem_map.mp hq
    obtain ⟨z1, k1, rfl, h1⟩ := h a ha
    by_cases e : (Sum.inr z1 : Key) = Sum.inr z
    · rw [if_pos e]
      exact ⟨z1, k, rfl, h1⟩
    · rw [if_neg e]
      exact ⟨z1, k1, rfl, h1⟩
  · rcases List.mem_append.mp hq with hq | hq
    · exact h q hq
    · obtain rfl : q = (Sum.inr z, V.int k) := by simpa using hq
      exact ⟨z, k, rfl, hz⟩
theorem titles_drop {kt : List (Key × V)} {k : Key} (h : Titles kt) : Titles (dropK kt k) := fun q hq => h q (dropK_mem hq)
theorem titles_get {kt : List (Key × V)} {z : Str} {v : V} (h : Titles kt) (e : valV kt (Sum.inr z) = some v) : ∃ k, v = .int k ∧ isWord z = true := by
  unfold valV at e
  obtain ⟨q, hq, rfl⟩ := Option.map_eq_some_iff.mp e
  obtain ⟨z1, k1, rfl, h1⟩ := h q (List.mem_of_find?_eq_some hq)
  have := List.find?_some hq
  have e2 : (Sum.inr z1 : Key) = Sum.inr z := of_decide_eq_true this
  cases e2
  exact ⟨k1, rfl, h1⟩
theorem titles_keys {kt : List (Key × V)} (h : Titles kt) : ∃ zs : List Str, kt.map (·.1) = zs.map Sum.inr := by
  induction kt with
  | nil => exact ⟨[], rfl⟩
  | cons q r ih =>
    obtain ⟨zs, e⟩ := ih fun a ha => h a (List.mem_cons_of_mem _ ha)
    obtain ⟨z, k, rfl, _⟩ := h q List.mem_cons_self
    exact ⟨z :: zs, by rw [List.map_cons, e]; rfl⟩
theorem putK_le {kt : List (Key × V)} {k : Key} {v : V} : (putK kt k v).length ≤ kt.length + 1 := by
  unfold putK
  split
  · rw [List.length_map]; omega
  · rw [List.length_append]; simp
theorem valV_mem {kt : List (Key × V)} {k : Key} (h : k ∈ kt.map (·.1)) : ∃ v, valV kt k = some v := by
  cases e : valV kt k with
  | some v => exact ⟨v, rfl⟩
  | none => exact (valV_not e h).elim
section
variable {K : PySem.W.Frag} {mg : Str → Option Value}
structure ShelfAt (T : Top K mg) (H : Hp) (p pm dk ds dt : Addr) (ks : List (Int × Addr × List Int)) (ss : List (Int × V)) (n : Int) (kt : List (Key × V)) : Prop where
  ob : ∃ dx pp, H p = some (.ins T.c_Shelf dx (fl_Shelf (.ref pp) (.ref pm) (.ref dt)))
  mm : MakesAt T.c_Makes H pm dk ds ks ss n
  tt : H dt = some (.dK kt)
  td : Titles kt
  nk : dt ≠ dk
  ns : dt ≠ ds
theorem ShelfAt.same {T : Top K mg} {H H' : Hp} {p pm dk ds dt : Addr} {ks : List (Int × Addr × List Int)} {ss : List (Int × V)} {n : Int} {kt : List (Key × V)} (M : ShelfAt T H p pm dk ds dt ks ss n kt) (s : Same H H') : ShelfAt T H' p pm dk ds dt ks ss n kt :=
  ⟨let ⟨dx, pp, h⟩ := M.ob; ⟨dx, pp, s _ _ h⟩, M.mm.same s, s _ _ M.tt, M.td, M.nk, M.ns⟩
/-- the names are changed alone -/
theorem ShelfAt.titled {T : Top K mg} {H : Hp} {p pm dk ds dt : Addr} {ks : List (Int × Addr × List Int)} {ss : List (Int × V)} {n : Int} {kt kt' : List (Key × V)} (M : ShelfAt T H p pm dk ds dt ks ss n kt) (t : Titles kt') :
    ShelfAt T (upd H dt (.dK kt')) p pm dk ds dt ks ss n kt' := by
  obtain ⟨dx, pp, h⟩ := M.ob
  obtain ⟨dm, hm⟩ := M.mm.ob
  have np : p ≠ dt := ne_of h M.tt (by intro z; cases z)
  have nm : pm ≠ dt := ne_of hm M.tt (by intro z; cases z)
  refine ⟨⟨dx, pp, by rw [upd_ne np]; exact h⟩, ⟨⟨dm, by rw [upd_ne nm]; exact hm⟩, by rw [upd_ne (Ne.symm M.nk)]; exact M.mm.hk, by rw [upd_ne (Ne.symm M.ns)]; exact M.mm.hs, fun k hk => ?_, M.mm.ne⟩, upd_same, t, M.nk, M.ns⟩
  rw [upd_ne (ne_of (M.mm.ht k hk) M.tt (by intro z; cases z))]
  exact M.mm.ht k hk
def spPagesInit (T : Top K mg) : Sp := fun vs H Q _ => ∃ p dx, vs = [.ref p] ∧ H p = some (.ins T.c_Pages dx []) ∧ ∀ H', But [p] H H' → Q .non H'
def spShelfInit (T : Top K mg) : Sp := fun vs H Q _ => ∃ p dx, vs = [.ref p] ∧ H p = some (.ins T.c_Shelf dx []) ∧
  ∀ H' pm dk ds dt t u, But [p] H H' → H pm = none → H dk = none → H ds = none → H dt = none → H t = none → ShelfAt T H' p pm dk ds dt [(0, t, [])] [(0, .ref u)] 1 [] → Q .non H'
def spIsWord (K : PySem.W.Frag) : Sp := fun vs H Q _ => ∃ v, vs = [v] ∧ WordV K H v ∧ Q (.bl (wordB v)) H
def spGive (T : Top K mg) : Sp := fun vs H Q E => ∃ p pm dk ds dt ks ss n kt wv k, vs = [.ref p, wv, .int k] ∧ ShelfAt T H p pm dk ds dt ks ss n kt ∧ WordV K H wv ∧ kt.length ≤ 500 ∧
  (wordB wv = false → E (.ref T.c_BadWord) none H) ∧
  (∀ z, wv = .str z → isWord z = true → (k ∈ ks.map (·.1) → Q .non (upd H dt (.dK (putK kt (Sum.inr z) (.int k))))) ∧
    (¬ k ∈ ks.map (·.1) → ∀ d, H d = none → E (.ref T.c_NoMake) (some d) (upd H d (.xd [("number", .int k)]))))
def spMadeBy (T : Top K mg) : Sp := fun vs H Q E => ∃ p pm dk ds dt ks ss n kt wv, vs = [.ref p, wv] ∧ ShelfAt T H p pm dk ds dt ks ss n kt ∧ WordV K H wv ∧
  (∀ z v, wv = .str z → valV kt (Sum.inr z) = some v → Q v H) ∧
  ((wordB wv = false ∨ ∃ z, wv = .str z ∧ valV kt (Sum.inr z) = none) → ∀ d, H d = none → E (.ref T.c_NoName) (some d) (upd H d (.xd [("word", wv)])))
def spForget (T : Top K mg) : Sp := fun vs H Q E => ∃ p pm dk ds dt ks ss n kt wv, vs = [.ref p, wv] ∧ ShelfAt T H p pm dk ds dt ks ss n kt ∧ WordV K H wv ∧
  (∀ z v, wv = .str z → valV kt (Sum.inr z) = some v → Q .non (upd H dt (.dK (dropK kt (Sum.inr z))))) ∧
  ((wordB wv = false ∨ ∃ z, wv = .str z ∧ valV kt (Sum.inr z) = none) → ∀ d, H d = none → E (.ref T.c_NoName) (some d) (upd H d (.xd [("word", wv)])))
/-- a list of new tuples (name, number) -/
def Named (kt : List (Key × V)) (H : Hp) (ts : List Addr) (ys : List Str) : Prop := Paired (fun t y => ∃ v, valV kt (Sum.inr y) = some v ∧ H t = some (.tup [.str y, v])) ts ys
def spNamed (T : Top K mg) : Sp := fun vs H Q _ => ∃ p pm dk ds dt ks ss n kt zs, vs = [.ref p] ∧ ShelfAt T H p pm dk ds dt ks ss n kt ∧ kt.map (·.1) = zs.map Sum.inr ∧ zs.length < 64 ∧
  ∀ H' (q : Addr) (ts : List Addr) (ys : List Str), Same H H' → H q = none → (∀ t ∈ ts, H t = none) → ys.Perm zs → sortedS ys = true → H' q = some (.lst (ts.map V.ref)) → Named kt H' ts ys → Q (.ref q) H'
end
section
variable {P : Program} {w : World} {K : PySem.W.Frag} {mg : Str → Option Value} {base : Heap}
theorem ok_NoName_init (T : Top K mg) : FnOk P w K mg base CX0 1 T.f_NoName_init T.d_NoName_init ["self", "word"] (spExc T.c_NoName "word") := by
  refine T.F_NoName_init.ok sc_NoName_init (fun vs H Q E h => ?_) (fun cdv A outer s H vs Q E hr h => ?_)
  · obtain ⟨a, v, rfl, _⟩ := h
    rfl
  · obtain ⟨a, v, rfl, ha, k⟩ := h
    refine ⟨_, (pss_one (ps_ost (pv 0) (pv 1))), ?_⟩
    exact ⟨_, rfl, _, rfl, a, _, rfl, T.O_NoName, T.n_NoName_word, .inl ⟨ha, fun dx hd ne => k dx hd ne⟩⟩
theorem all_step {z : Str} {p : Nat → Bool} {i : Nat} {c : Nat} (h : ∀ j x, j < i → z.cps[j]? = some x → p x = true) (hc : z.cps[i]? = some c) (hp : p c = true) : ∀ j x, j < i + 1 → z.cps[j]? = some x → p x = true := fun j x hj hx => by
  rcases Nat.lt_succ_iff_lt_or_eq.mp hj with hj | rfl
  · exact h j x hj hx
  · rw [hc] at hx
    cases hx
    exact hp
theorem all_end {z : Str} {p : Nat → Bool} (h : ∀ j x, j < z.cps.size → z.cps[j]? = some x → p x = true) : z.cps.toList.all p = true := by
  refine List.all_eq_true.mpr fun x hx => ?_
  obtain ⟨j, hj⟩ := List.mem_iff_getElem?.mp hx
  rw [Array.getElem?_toList] at hj
  exact h j x (Array.getElem?_eq_some_iff.mp hj).1 hj
theorem ok_is_word (T : Top K mg) : FnOk P w K mg base CX0 1 T.f_is_word T.d_is_word ["thing"] (spIsWord K) := by
  refine T.F_is_word.ok sc_is_word (fun vs H Q E h => ?_) (fun cdv A outer s H vs Q E hr h => ?_)
  · obtain ⟨v, rfl, _⟩ := h
    rfl
  · obtain ⟨v, rfl, hv, k⟩ := h
    refine ⟨_, (pss_cons (ps_if (PW.pt (pw_or (pt_not (pt_val (pe_callB call_isi (by rfl) T.z_isinstance (by decide +kernel) (pa_cons (pv 0) (pa_cons (pe_bltn (v := .ty "str") (by rfl) T.z_str (by decide +kernel) rfl) pa_nil))))) (pw_or (pt_cmpR op_lt (pe_callB call_len_str (by rfl) T.z_len PySem.boot_len (pa_cons (pv 0) pa_nil)) pe_int (nomark _)) (pw_or1 (pt_cmpR op_gt (pe_callB call_len_str (by rfl) T.z_len PySem.boot_len (pa_cons (pv 0) pa_nil)) pe_int (nomark _)))))) (pss_one (ps_ret pe_bl)) pss_nil)
      (pss_cons (ps_for PassesOwn.never rfl (pi_str (pv 0)) (pg_name (i := 1) sc_is_word.nd rfl (by first | exact Or.inl rfl | exact Or.inr rfl))
      (pss_one (ps_if (pt_cmpR op_notIn_sign (pv 1) (pe_glob (v := .str "abcdefghijklmnopqrstuvwxyz") (by rfl) T.k_LETTERS ⟨_, rfl⟩) rfl) (pss_one (ps_ret pe_bl)) pss_nil)))
      (pss_one (ps_ret pe_bl)))), ?_⟩
    rcases hv with ⟨z, rfl, hz⟩ | ⟨hno, t, ht, hk⟩
    · refine ⟨_, rfl, .str z, .ty "str", .type "str", .type "str", true, rfl, .ty "str", .base (.str z), kit_ty (by decide +kernel), _, rfl, ?_⟩
      refine iteF ⟨_, rfl, z, rfl, hz, _, _, rfl, rfl, _, rfl, ?_⟩
      by_cases h1 : z.length < 1
      · rw [decide_eq_true (by omega : ((z.length : Nat) : Int) < 1)]
        refine iteT (iteT ?_)
        have e : wordB (.str z) = false := by
          show isWord z = false
          unfold isWord
          rw [decide_eq_false (by omega)]
          rfl
        rw [e] at k
        exact k
      · rw [decide_eq_false (by omega : ¬ ((z.length : Nat) : Int) < 1)]
        refine iteF ⟨_, rfl, z, rfl, hz, _, _, rfl, rfl, _, rfl, ?_⟩
        by_cases h2 : 12 < z.length
        · rw [decide_eq_true (by omega : (12 : Int) < ((z.length : Nat) : Int))]
          refine iteT ?_
          have e : wordB (.str z) = false := by
            show isWord z = false
            unfold isWord
            rw [decide_eq_false (by omega : ¬ z.length ≤ 12)]
            simp
          rw [e] at k
          exact k
        · rw [decide_eq_false (by omega : ¬ (12 : Int) < ((z.length : Nat) : Int))]
          refine iteF ?_
          refine ⟨_, rfl, z, rfl, for_it (G := fun _ => True) walk_str (fun i σ H2 => H2 = H ∧ (∃ v : Option V, σ = [some (.str z), v]) ∧ ∀ j x, j < i → z.cps[j]? = some x → decide (x ∈ letters.cps.toList) = true)
            ⟨rfl, ⟨_, rfl⟩, fun j x hj => absurd hj (Nat.not_lt_zero _)⟩ (fun _ _ _ _ _ => trivial) ?_ ?_⟩
          · rintro i x σ H2 H3 hi ⟨rfl, ⟨v, rfl⟩, hall⟩ ⟨rfl, c, hc, rfl⟩
            refine ⟨_, rfl, c, letters, rfl, rfl, _, rfl, ?_⟩
            by_cases hm : c ∈ letters.cps.toList
            · rw [decide_eq_true hm]
              exact iteF ⟨rfl, ⟨_, rfl⟩, all_step hall hc (decide_eq_true hm)⟩
            · rw [decide_eq_false hm]
              refine iteT ?_
              have e : wordB (.str z) = false := by
                show isWord z = false
                unfold isWord
                have : (z.cps.toList.all fun c => decide (c ∈ letters.cps.toList)) = false := by
                  refine List.all_eq_false.mpr ⟨c, ?_, by simp [hm]⟩
                  exact List.mem_of_getElem? (by rw [Array.getElem?_toList]; exact hc)
                rw [this]
                simp
              rw [e] at k
              exact k
          · rintro σ H2 ⟨rfl, ⟨v, rfl⟩, hall⟩
            have e : wordB (.str z) = true := by
              show isWord z = true
              unfold isWord
              rw [all_end hall, decide_eq_true (by omega : 1 ≤ z.length), decide_eq_true (by omega : z.length ≤ 12)]
              rfl
            rw [e] at k
            exact k
    · have e : wordB v = false := by
        cases v with
        | str z => exact absurd rfl (hno z)
        | _ => rfl
      rw [e] at k
      refine ⟨_, rfl, v, .ty "str", t, .type "str", false, rfl, .ty "str", ht, hk, _, rfl, ?_⟩
      exact iteT (iteT k)
theorem ok_Pages_init (T : Top K mg) : FnOk P w K mg base CX0 1 T.f_Pages_init T.d_Pages_init ["self"] (spPagesInit T) := by
  refine T.F_Pages_init.ok sc_Pages_init (fun vs H Q E h => ?_) (fun cdv A outer s H vs Q E hr h => ?_)
  · obtain ⟨p, dx, rfl, _⟩ := h
    rfl
  · obtain ⟨p, dx, rfl, hp, k⟩ := h
    refine ⟨_, (pss_cons (ps_fld (pv 0) pe_dnewK rfl)
      (pss_cons (ps_fld (pv 0) pe_dnewK rfl)
      (pss_one (ps_fld (pv 0) pe_int rfl)))), ?_⟩
    intro d1 h1
    have n1 : p ≠ d1 := ne_of_none hp h1
    refine ⟨_, rfl, p, T.c_Pages, dx, [], rfl, (by rw [upd_ne n1]; exact hp), T.C_Pages, T.n_Pages_standing, (by decide), ?_⟩
    intro d2 h2
    have n2 : p ≠ d2 := fun z => by rw [← z, upd_same] at h2; cases h2
    refine ⟨_, rfl, p, T.c_Pages, dx, _, rfl, (by rw [upd_ne n2, upd_same]), T.C_Pages, T.n_Pages_known, pl1, ?_⟩
    refine ⟨_, rfl, p, T.c_Pages, dx, _, rfl, upd_same, T.C_Pages, T.n_Pages_coming, pl2, ?_⟩
    refine k _ ?_
    have a1 : But [p] H (upd (upd H d1 (.dK [])) p (.ins T.c_Pages dx (putF "standing" (.ref d1) []))) := (But.refl.new h1).put (by simp)
    have h20 : H d2 = none := a1.none h2 (by simp [Ne.symm n2])
    exact ((a1.new h20).put (by simp)).put (by simp)
theorem ok_Shelf_init (T : Top K mg) : FnOk P w K mg base CX0 4 T.f_Shelf_init T.d_Shelf_init ["self"] (spShelfInit T) := by
  refine T.F_Shelf_init.ok sc_Shelf_init (fun vs H Q E h => ?_) (fun cdv A outer s H vs Q E hr h => ?_)
  · obtain ⟨p, dx, rfl, _⟩ := h
    rfl
  · obtain ⟨p, dx, rfl, hp, k⟩ := h
    refine ⟨_, (pss_cons (ps_fld (pv 0) (pe_make0 T.K_Pages (ok_Pages_init T) (hr.mono (by decide)) rfl T.g_Pages T.b_Pages_init .nil pass0) rfl)
      (pss_cons (ps_fld (pv 0) (pe_make0 T.K_Makes (ok_Makes_init T) (hr.mono (by decide)) rfl T.g_Makes T.b_Makes_init .nil pass0) rfl)
      (pss_one (ps_fld (pv 0) pe_dnewK rfl)))), ?_⟩
    -- self.pages = Pages()
    intro pp dp hpp hdp nep
    have b1 : But [p] H (upd (upd H dp (.own pp)) pp (.ins T.c_Pages dp [])) := (But.refl.new hdp).new hpp
    refine ⟨pp, dp, rfl, upd_same, fun H1 B1 => ⟨rfl, ?_⟩⟩
    have n1 : p ≠ pp := ne_of_none hp hpp
    have n2 : p ≠ dp := ne_of_none hp hdp
    have hp1 : H1 p = some (.ins T.c_Shelf dx []) := B1 _ _ (by rw [upd_ne n1, upd_ne n2]; exact hp) (by simp [n1])
    have c1 : But [p] H H1 := fun b o e nb => B1 b o (b1 b o e nb) (by simp; exact ne_of_none e hpp)
    refine ⟨_, rfl, p, T.c_Shelf, dx, [], rfl, hp1, T.C_Shelf, T.n_Shelf_pages, (by decide), ?_⟩
    -- self.makes = Makes()
    intro pm dm hpm hdm nem
    have npm : pm ≠ p := fun z => by rw [z, upd_same] at hpm; cases hpm
    have ndm : dm ≠ p := fun z => by rw [z, upd_same] at hdm; cases hdm
    rw [upd_ne npm] at hpm
    rw [upd_ne ndm] at hdm
    refine ⟨pm, dm, rfl, upd_same, fun H2 dk ds t u B2 hdk hds nks ht M => ⟨rfl, ?_⟩⟩
    have off : ∀ {a : Addr}, upd (upd (upd H1 p (.ins T.c_Shelf dx (putF "pages" (.ref pp) []))) dm (.own pm)) pm (.ins T.c_Makes dm []) a = none → a ≠ pm ∧ a ≠ dm ∧ a ≠ p ∧ H1 a = none := fun {a} e => by
      have x1 : a ≠ pm := fun z => by rw [z, upd_same] at e; cases e
      rw [upd_ne x1] at e
      have x2 : a ≠ dm := fun z => by rw [z, upd_same] at e; cases e
      rw [upd_ne x2] at e
      have x3 : a ≠ p := fun z => by rw [z, upd_same] at e; cases e
      rw [upd_ne x3] at e
      exact ⟨x1, x2, x3, e⟩
    obtain ⟨k1, k2, k3, k4⟩ := off hdk
    obtain ⟨s1, s2, s3, s4⟩ := off hds
    obtain ⟨t1, t2, t3, t4⟩ := off ht
    have hp2 : H2 p = some (.ins T.c_Shelf dx (putF "pages" (.ref pp) [])) := B2 _ _ (by rw [upd_ne (Ne.symm npm), upd_ne (Ne.symm ndm), upd_same]) (by simp [Ne.symm npm])
    refine ⟨_, rfl, p, T.c_Shelf, dx, _, rfl, hp2, T.C_Shelf, T.n_Shelf_makes, pl1, ?_⟩
    -- self.titles = {}
    intro dt hdt
    have ndt : dt ≠ p := fun z => by rw [z, upd_same] at hdt; cases hdt
    rw [upd_ne ndt] at hdt
    refine ⟨_, rfl, p, T.c_Shelf, dx, _, rfl, (by rw [upd_ne (Ne.symm ndt), upd_same]), T.C_Shelf, T.n_Shelf_titles, pl2, ?_⟩
    have c2 : But [p] H H2 := fun b o e nb => by
      have e1 := c1 b o e nb
      have nb' : b ≠ p := by simpa using nb
      refine B2 b o ?_ (by simp; exact ne_of_none e1 hpm)
      rw [upd_ne (ne_of_none e1 hpm), upd_ne (ne_of_none e1 hdm), upd_ne nb']
      exact e1
    have hdt0 : H dt = none := c2.none hdt (by simp [ndt])
    obtain ⟨dm2, hm2⟩ := M.ob
    have z1 : pm ≠ dt := ne_of_none hm2 hdt
    have z2 : dk ≠ dt := ne_of_none M.hk hdt
    have z3 : ds ≠ dt := ne_of_none M.hs hdt
    have z4 : t ≠ dt := ne_of_none (M.ht (0, t, []) (by simp)) hdt
    have off1 : ∀ {a : Addr}, H1 a = none → a ≠ p → H a = none := fun {a} e n => c1.none e (by simp [n])
    refine k _ pm dk ds dt t u (((((c2.put (by simp)).new hdt0).put (by simp)))) (off1 hpm npm) (off1 k4 k3) (off1 s4 s3) hdt0 (off1 t4 t3)
      ⟨⟨dx, pp, by rw [upd_same, ← fl_Shelf_made]⟩, ⟨⟨dm2, ?_⟩, ?_, ?_, ?_, nks⟩, ?_, fun q hq => absurd hq (by simp), Ne.symm z2, Ne.symm z3⟩
    · rw [upd_ne npm, upd_ne z1, upd_ne npm]
      exact hm2
    · rw [upd_ne k3, upd_ne z2, upd_ne k3]
      exact M.hk
    · rw [upd_ne s3, upd_ne z3, upd_ne s3]
      exact M.hs
    · intro x hx
      obtain rfl : x = (0, t, []) := by simpa using hx
      have := M.ht (0, t, []) (by simp)
      show upd _ _ _ t = _
      rw [upd_ne t3, upd_ne z4, upd_ne t3]
      exact this
    · rw [upd_ne ndt, upd_same]
theorem ok_Shelf_give (T : Top K mg) : FnOk P w K mg base (L2.CX P w) 5 T.f_Shelf_give T.d_Shelf_give ["self", "word", "number"] (spGive T) := by
  refine T.F_Shelf_give.okX sc_Shelf_give (fun vs H Q E h => ?_) (fun cdv A outer s H vs Q E hr h => ?_)
  · obtain ⟨p, pm, dk, ds, dt, ks, ss, n, kt, wv, k, rfl, _⟩ := h
    rfl
  · obtain ⟨p, pm, dk, ds, dt, ks, ss, n, kt, wv, k, rfl, S, hw, hl, kb, kw⟩ := h
    have hu := hu_of hr
    obtain ⟨dx, pp, h1⟩ := S.ob
    obtain ⟨dm, hm⟩ := S.mm.ob
    refine ⟨_, (pss_cons (ps_if (pt_not (pt_val (pe_call (ok_is_word T) (hr.mono (by decide)) (by rfl) T.m_is_word T.F_is_word.kp T.b_is_word .nil pass0 (pa_cons (pv 1) pa_nil)))) (pss_one (ps_raise rfl (takes_of rfl rfl rfl rfl) (pmk_own0 PySem.F.excBase_ValueError T.x_BadWord T.g_BadWord T.q_BadWord (raises_own T.e_BadWord T.y_BadWord)))) pss_nil)
      (pss_cons (ps_expr (pe_meth (pe_fld (pv 0) rfl) T.C_Makes T.M_Makes_elders (ok_Makes_elders T) (hr.mono (by decide)) T.b_Makes_elders .nil (passes_call (takes_of rfl rfl rfl rfl) (fun _ _ _ _ h => h)) (pa_cons (pv 2) pa_nil)))
      (pss_one (ps_dput hu (pe_fld (pv 0) rfl) (pv 1) (pv 2) rfl)))), ?_⟩
    refine ⟨_, rfl, wv, rfl, hw, _, rfl, ?_⟩
    cases e : wordB wv with
    | false => exact iteT (kb e)
    | true =>
      obtain ⟨z, rfl, hz⟩ := wordB_str e
      obtain ⟨k1, k2⟩ := kw z rfl hz
      refine iteF ⟨_, rfl, p, T.c_Shelf, dx, _, _, rfl, h1, T.C_Shelf, T.n_Shelf_makes, fl_Shelf_makes, pm, dm, _, rfl, hm, fl_Makes_m_elders, _, rfl, pm, dk, ds, ks, ss, n, k, rfl, S.mm, fun x hx => ?_, k2⟩
      have hk : k ∈ ks.map (·.1) := by
        have a := List.mem_of_find?_eq_some hx
        have b := List.find?_some hx
        exact List.mem_map.mpr ⟨x, a, of_decide_eq_true b⟩
      exact ⟨_, rfl, _, rfl, p, T.c_Shelf, dx, _, _, rfl, h1, T.C_Shelf, T.n_Shelf_titles, fl_Shelf_titles, _, rfl, dt, _, rfl, DPut.k (k := Sum.inr z) S.tt (small1000 (by omega)), k1 hk⟩
theorem madeBy_ne {kt : List (Key × V)} {z : Str} (h : valV kt (Sum.inr z) = none) (td : Titles kt) : True := trivial
theorem ok_Shelf_made_by (T : Top K mg) : FnOk P w K mg base (L2.CX P w) 3 T.f_Shelf_made_by T.d_Shelf_made_by ["self", "word"] (spMadeBy T) := by
  refine T.F_Shelf_made_by.okX sc_Shelf_made_by (fun vs H Q E h => ?_) (fun cdv A outer s H vs Q E hr h => ?_)
  · obtain ⟨p, pm, dk, ds, dt, ks, ss, n, kt, wv, rfl, _⟩ := h
    rfl
  · obtain ⟨p, pm, dk, ds, dt, ks, ss, n, kt, wv, rfl, S, hw, kq, ke⟩ := h
    have hu := hu_of hr
    obtain ⟨dx, pp, h1⟩ := S.ob
    refine ⟨_, (pss_cons (ps_if (PW.pt (pw_or (pt_not (pt_val (pe_call (ok_is_word T) (hr.mono (by decide)) (by rfl) T.m_is_word T.F_is_word.kp T.b_is_word .nil pass0 (pa_cons (pv 1) pa_nil)))) (pw_or1 (pt_cmp (pc_dnotin hu (pv 1) (pe_fld (pv 0) rfl)))))) (pss_one (ps_raise rfl (takes_of rfl rfl rfl rfl) (pmk_oex T.O_NoName T.i_NoName T.t_NoName (ok_NoName_init T) (hr.mono (by decide)) T.b_NoName_init .nil pass0 rfl T.g_NoName (pa_cons (pv 1) pa_nil)))) pss_nil)
      (pss_one (ps_ret (pe_dget hu (pe_fld (pv 0) rfl) (pv 1) (fun _ _ => rfl))))), ?_⟩
    refine ⟨_, rfl, wv, rfl, hw, _, rfl, ?_⟩
    cases e : wordB wv with
    | false => exact iteT (iteT (mk_var rfl (ke (.inl e))))
    | true =>
      obtain ⟨z, rfl, hz⟩ := wordB_str e
      refine iteF ⟨_, rfl, _, rfl, p, T.c_Shelf, dx, _, _, rfl, h1, T.C_Shelf, T.n_Shelf_titles, fl_Shelf_titles, dt, _, rfl, DGet.k (k := Sum.inr z) S.tt, _, rfl, ?_⟩
      cases e2 : valV kt (Sum.inr z : Key) with
      | none => exact iteT (mk_var rfl (ke (.inr ⟨z, rfl, e2⟩)))
      | some v =>
        refine iteF ⟨_, rfl, p, T.c_Shelf, dx, _, _, rfl, h1, T.C_Shelf, T.n_Shelf_titles, fl_Shelf_titles, _, rfl, dt, v, rfl, ?_, kq z v rfl e2⟩
        rw [← e2]
        exact DGet.k (k := Sum.inr z) S.tt
theorem ok_Shelf_forget (T : Top K mg) : FnOk P w K mg base (L2.CX P w) 4 T.f_Shelf_forget T.d_Shelf_forget ["self", "word"] (spForget T) := by
  refine T.F_Shelf_forget.okX sc_Shelf_forget (fun vs H Q E h => ?_) (fun cdv A outer s H vs Q E hr h => ?_)
  · obtain ⟨p, pm, dk, ds, dt, ks, ss, n, kt, wv, rfl, _⟩ := h
    rfl
  · obtain ⟨p, pm, dk, ds, dt, ks, ss, n, kt, wv, rfl, S, hw, kq, ke⟩ := h
    obtain ⟨dx, pp, h1⟩ := S.ob
    refine ⟨_, (pss_cons (ps_expr (pe_meth (pv 0) T.C_Shelf T.M_Shelf_made_by (ok_Shelf_made_by T) (hr.mono (by decide)) T.b_Shelf_made_by .nil (passes_call (takes_of rfl rfl rfl rfl) (fun _ _ _ _ h => h)) (pa_cons (pv 1) pa_nil)))
      (pss_one (ps_expr (pe_dpop1 (pe_fld (pv 0) rfl) (pv 1) m1)))), ?_⟩
    refine ⟨_, rfl, p, dx, _, rfl, h1, fl_Shelf_m_made_by, _, rfl, p, pm, dk, ds, dt, ks, ss, n, kt, wv, rfl, S, hw, fun z v hz e2 => ?_, ke⟩
    subst hz
    exact ⟨_, rfl, p, T.c_Shelf, dx, _, _, rfl, h1, T.C_Shelf, T.n_Shelf_titles, fl_Shelf_titles, dt, rfl, .inl ⟨_, .inl S.tt⟩, _, rfl, kt, Sum.inr z, v, S.tt, rfl, e2, kq z v rfl e2⟩
theorem Named.snoc {kt : List (Key × V)} {H H' : Hp} {ts : List Addr} {ys : List Str} {t : Addr} {y : Str} {v : V} (n : Named kt H ts ys) (s : Same H H') (hv : valV kt (Sum.inr y) = some v) (ht : H' t = some (.tup [.str y, v])) : Named kt H' (ts ++ [t]) (ys ++ [y]) := by
  unfold Named at *
  induction n with
  | nil => exact .cons ⟨v, hv, ht⟩ .nil
  | cons a _ ih =>
    obtain ⟨u, h1, h2⟩ := a
    exact .cons ⟨u, h1, s _ _ h2⟩ ih
theorem Named.mono {kt : List (Key × V)} {H H' : Hp} {ts : List Addr} {ys : List Str} (n : Named kt H ts ys) (s : ∀ t ∈ ts, ∀ o, H t = some o → H' t = some o) : Named kt H' ts ys := by
  unfold Named at *
  induction n with
  | nil => exact .nil
  | cons a _ ih =>
    obtain ⟨u, h1, h2⟩ := a
    exact .cons ⟨u, h1, s _ List.mem_cons_self _ h2⟩ (ih fun t ht => s t (List.mem_cons_of_mem _ ht))
theorem ok_Shelf_named (T : Top K mg) : FnOk P w K mg base CX0 1 T.f_Shelf_named T.d_Shelf_named ["self"] (spNamed T) := by
  refine T.F_Shelf_named.ok sc_Shelf_named (fun vs H Q E h => ?_) (fun cdv A outer s H vs Q E hr h => ?_)
  · obtain ⟨p, pm, dk, ds, dt, ks, ss, n, kt, zs, rfl, _⟩ := h
    rfl
  · obtain ⟨p, pm, dk, ds, dt, ks, ss, n, kt, zs, rfl, S, hz, hl, kq⟩ := h
    have hu := hu_of hr
    obtain ⟨dx, pp, h1⟩ := S.ob
    refine ⟨_, (pss_one (ps_ret (pe_lc (own := [("word", 1)]) rfl sc_Shelf_named.nd (pi_list (pe_callB (call_sortedD rfl) (by rfl) T.z_sorted (by decide +kernel) (pa_cons (pe_fld (pv 0) rfl) pa_nil))) (blkOk_by (own := [("word", 1)]) (N := ["self", "word"]) (sc := defScope s_Shelf_named) (by decide +kernel)) (fun _ _ _ _ _ => (pg_name (i := 1) sc_Shelf_named.nd rfl (by first | exact Or.inl rfl | exact Or.inr rfl))) (fun _ _ _ _ _ => pts_nil) (fun _ _ _ _ _ => (pe_tup (pa_cons (pv 1) (pa_cons (pe_dget hu (pe_fldK (K := K) rfl (pv 0) rfl) (pv 1) (fun _ _ => rfl)) pa_nil))))))), ?_⟩
    refine ⟨_, rfl, p, T.c_Shelf, dx, _, _, rfl, h1, T.C_Shelf, T.n_Shelf_titles, fl_Shelf_titles, dt, kt, zs, rfl, .inl S.tt, hz, hl, fun ys q hp hs hq => ?_⟩
    refine ⟨q, rfl, ⟨_, SqL.of upd_same⟩, fun D hD => ?_⟩
    have hDq : D ≠ q := fun z => by rw [z, upd_same] at hD; cases hD
    have hD0 : H D = none := by rw [upd_ne hDq] at hD; exact hD
    have Sq : Same H (upd H q (.lst (ys.map V.str))) := same_upd hq
    refine lc_list (K := K) (a := q) (xs := ys.map V.str) (fun i H2 => ∃ ts, Same (upd H q (.lst (ys.map V.str))) H2 ∧ H2 D = some (.lst (ts.map V.ref)) ∧ (∀ t ∈ ts, H t = none ∧ t ≠ D) ∧ Named kt H2 ts (ys.take i))
      ⟨[], same_upd hD, upd_same, fun t ht => absurd ht (by simp), .nil⟩ (fun i H2 _ ⟨_, s2, _⟩ => s2.seq (SqL.of upd_same)) ?_ ?_
    · rintro i x H2 hi ⟨ts, s2, hD2, hts, nm⟩
      obtain ⟨y, hy, rfl⟩ := map_at hi
      have hym : y ∈ zs := hp.mem_iff.mp (List.mem_of_getElem? hy)
      obtain ⟨v, hv⟩ := valV_mem (kt := kt) (k := Sum.inr y) (by rw [hz]; exact List.mem_map.mpr ⟨y, hym, rfl⟩)
      have s3 : Same H H2 := Sq.trans s2
      refine ⟨rfl, ?_⟩
      refine lc_yes ?_
      refine ⟨_, rfl, _, rfl, p, T.c_Shelf, dx, _, _, rfl, s3 _ _ h1, T.C_Shelf, T.n_Shelf_titles, fl_Shelf_titles, _, rfl, dt, v, rfl, ?_, (by show 2 ≤ sizeLine; decide), fun t ht => ?_⟩
      · rw [← hv]
        exact DGet.k (k := Sum.inr y) (s3 _ _ S.tt)
      have ntD : t ≠ D := fun z => by rw [z, hD2] at ht; cases ht
      refine ⟨_, by rw [upd_ne (Ne.symm ntD)]; exact hD2, by rw [List.length_map]; exact small1000 (by have := nm.length; rw [List.length_take] at this; have := hp.length_eq; omega), ts ++ [t], ?_, ?_, ?_, ?_⟩
      · exact (s2.new (s2.free ht)).new hD
      · rw [upd_same, List.map_append]
        rfl
      · intro t' ht'
        rcases List.mem_append.mp ht' with h' | h'
        · exact hts t' h'
        · obtain rfl : t' = t := by simpa using h'
          exact ⟨s3.free ht, ntD⟩
      · rw [List.take_add_one, hy]
        have nm2 : Named kt (upd H2 t (.tup [.str y, v])) (ts ++ [t]) (ys.take i ++ [y]) := nm.snoc (same_upd ht) hv upd_same
        refine nm2.mono fun t' ht' o e => ?_
        have : t' ≠ D := by
          rcases List.mem_append.mp ht' with h' | h'
          · exact (hts t' h').2
          · obtain rfl : t' = t := by simpa using h'
            exact ntD
        rw [upd_ne this]
        exact e
    · rintro H2 ⟨ts, s2, hD2, hts, nm⟩
      rw [List.length_map, List.take_length] at nm
      exact kq H2 D ts ys (Sq.trans s2) hD0 (fun t ht => (hts t ht).1) hp hs hD2 nm
end
end Z
namespace Z
open PySem PySem.Spec PyProof.Rows L2
/-! ### the law's small words -/
def AllL (z : Str) : Prop := ∀ c ∈ z.cps.toList, c ∈ letters.cps.toList
theorem isWord_of {z : Str} (h1 : 1 ≤ z.length) (h2 : z.length ≤ 12) (h : AllL z) : isWord z = true := by
  unfold isWord
  rw [decide_eq_true h1, decide_eq_true h2, Bool.true_and, Bool.true_and]
  exact List.all_eq_true.mpr fun c hc => decide_eq_true (h c hc)
theorem AllL.cut {z : Str} (h : AllL z) (lo hi : Option Int) : AllL (cutS z lo hi) := fun c hc => by
  have hc' : c ∈ (z.cps.toList.drop (HT.sIx z.length 0 lo)).take (HT.sIx z.length z.length hi - HT.sIx z.length 0 lo) := by simpa [cutS] using hc
  exact h c (List.mem_of_mem_drop (List.mem_of_mem_take hc'))
theorem AllL.add {a b : Str} (h : AllL a) (k : AllL b) : AllL (a ++ b) := fun c hc => by
  have e : (a ++ b).cps.toList = a.cps.toList ++ b.cps.toList := TL.tl_append a b
  rw [e] at hc
  rcases List.mem_append.mp hc with q | q
  · exact h c q
  · exact k c q
theorem len_add (a b : Str) : (a ++ b).length = a.length + b.length := by
  have e : (a ++ b).cps.toList = a.cps.toList ++ b.cps.toList := TL.tl_append a b
  show (a ++ b).cps.size = a.cps.size + b.cps.size
  rw [← Array.length_toList, e, List.length_append, Array.length_toList, Array.length_toList]
theorem cut_to (z : Str) {k : Nat} (h : k ≤ z.length) : (cutS z none (some (k : Int))).length = k := by
  show ((z.cps.toList.drop (HT.sIx z.length 0 none)).take (HT.sIx z.length z.length (some (k : Int)) - HT.sIx z.length 0 none)).toArray.size = k
  rw [HT.sIx_none, HT.sIx_nat, List.size_toArray, List.length_take, List.drop_zero, Array.length_toList]
  have : z.length = z.cps.size := rfl
  omega
theorem cut_from (z : Str) {k : Nat} (h : k ≤ z.length) : (cutS z (some (k : Int)) none).length = z.length - k := by
  show ((z.cps.toList.drop (HT.sIx z.length 0 (some (k : Int)))).take (HT.sIx z.length z.length none - HT.sIx z.length 0 (some (k : Int)))).toArray.size = _
  rw [HT.sIx_none, HT.sIx_nat, List.size_toArray, List.length_take, List.length_drop, Array.length_toList]
  have : z.length = z.cps.size := rfl
  omega
theorem join_len : ∀ ys : List Str, (∀ y ∈ ys, y.length = 1) → (Str.join Str.empty ys).length = ys.length
  | [], _ => rfl
  | [y], h => h y List.mem_cons_self
  | y :: z :: r, h => by
    have e : Str.join Str.empty (y :: z :: r) = y ++ Str.empty ++ Str.join Str.empty (z :: r) := rfl
    rw [e, len_add, len_add, join_len (z :: r) fun a ha => h a (List.mem_cons_of_mem _ ha), h y List.mem_cons_self]
    show 1 + 0 + _ = _
    simp
    omega
theorem join_all : ∀ ys : List Str, (∀ y ∈ ys, AllL y) → AllL (Str.join Str.empty ys)
  | [], _ => fun c hc => absurd hc (by simp [Str.join, Str.empty])
  | [y], h => h y List.mem_cons_self
  | y :: z :: r, h => ((h y List.mem_cons_self).add fun c hc => absurd hc (by simp [Str.empty])).add (join_all (z :: r) fun a ha => h a (List.mem_cons_of_mem _ ha))
theorem sum_ones : ∀ ys : List Str, (∀ y ∈ ys, y.length = 1) → (ys.map (·.length)).sum = ys.length
  | [], _ => rfl
  | y :: r, h => by
    rw [List.map_cons, List.sum_cons, sum_ones r fun a ha => h a (List.mem_cons_of_mem _ ha), h y List.mem_cons_self, List.length_cons]
    omega
/-- a letter at a place -/
theorem letter_at {i : Int} (h0 : 0 ≤ i) (h1 : i < 26) : ∃ c, atI letters.cps.toList i = some c ∧ c ∈ letters.cps.toList := by
  obtain ⟨n, rfl⟩ := Int.eq_ofNat_of_zero_le h0
  have hn : n < letters.cps.toList.length := by show n < 26; omega
  refine ⟨letters.cps.toList[n], ?_, List.getElem_mem hn⟩
  have e : ixN letters.cps.toList.length ((n : Nat) : Int) = some n := by
    unfold ixN
    rw [if_pos (by omega), if_pos (by exact_mod_cast hn), Int.toNat_natCast]
  unfold atI
  show (ixN letters.cps.toList.length ((n : Nat) : Int)).bind _ = _
  rw [e]
  show letters.cps.toList[n]? = _
  rw [List.getElem?_eq_getElem hn]
theorem one_all {c : Nat} (h : c ∈ letters.cps.toList) : AllL ⟨#[c]⟩ := fun x hx => by
  obtain rfl : x = c := by simpa using hx
  exact h
theorem pos47 : (0 : Int) < 2147483647 := by decide
theorem pos29 : (0 : Int) < 2147483629 := by decide
section
variable {K : PySem.W.Frag} {mg : Str → Option Value}
def spCellAt (K : PySem.W.Frag) : Sp := fun vs H Q _ => ∃ (l : Addr) (k : Int) (xs : List Int), vs = [.ref l, .int k] ∧ 0 ≤ k ∧ SqL K H l (xs.map V.int) ∧ ∀ x : Int, Q (.int x) H
def spMix : Sp := fun vs H Q _ => ∃ c k, vs = [.int c, .int k] ∧ ∀ r : Int, 0 ≤ r → Q (.int r) H
def spWords : Sp := fun vs H Q _ => ∃ c, vs = [.int c] ∧ ∀ (H' : Hp) (q : Addr) (ws : List Str), Same H H' → H q = none → H' q = some (.lst (ws.map V.str)) → ws.length = 5 → (∀ z ∈ ws, isWord z = true) → Q (.ref q) H'
/-- no word: what may be asked of it -/
def OddV (K : PySem.W.Frag) (H : Hp) (v : V) : Prop := wordB v = false ∧ WordV K H v ∧ (∃ t b, TyX K H v t ∧ PySem.W.kitOne K t (.type "bool") = some b) ∧ (flatB v = true ∨ ∃ a, v = .ref a)
def spOdd (K : PySem.W.Frag) : Sp := fun vs H Q _ => ∃ k, vs = [.int k] ∧ ∀ H' v, Same H H' → OddV K H' v → (∀ a, v = .ref a → H a = none) → Q v H'
end
section
variable {P : Program} {w : World} {K : PySem.W.Frag} {mg : Str → Option Value} {base : Heap}
theorem ok_lw_cell_at (T : Top K mg) : FnOk P w K mg base CX0 1 T.f_lw_cell_at T.d_lw_cell_at ["_law_script", "_law_k"] (spCellAt K) := by
  refine T.F_lw_cell_at.ok sc_lw_cell_at (fun vs H Q E h => ?_) (fun cdv A outer s H vs Q E hr h => ?_)
  · obtain ⟨l, k, xs, rfl, _⟩ := h
    rfl
  · obtain ⟨l, k, xs, rfl, h0, hl, q⟩ := h
    refine ⟨_, (pss_cons (ps_if (pt_cmpR op_lt (pv 1) (pe_callB call_len_seq (by rfl) T.z_len PySem.boot_len (pa_cons (pv 0) pa_nil)) (nomark _)) (pss_one (ps_ret (pe_ix ix_list (pv 0) (pv 1) (fun _ _ => rfl)))) pss_nil)
      (pss_one (ps_ret pe_int))), ?_⟩
    refine ⟨_, rfl, _, rfl, l, _, rfl, .inl hl, _, _, rfl, rfl, _, rfl, ?_⟩
    refine ite2 (fun hk => ?_) fun hk => ?_
    · have hk' : k < ((xs.map V.int).length : Int) := of_decide_eq_true hk
      obtain ⟨n, rfl⟩ := Int.eq_ofNat_of_zero_le h0
      have hn : n < xs.length := by rw [List.length_map] at hk'; exact_mod_cast hk'
      refine ⟨_, rfl, _, rfl, l, xs.map V.int, (n : Int), .int xs[n], rfl, rfl, hl, ?_, q _⟩
      unfold atI ixN
      rw [if_pos (by omega), if_pos (by rw [List.length_map]; exact_mod_cast hn), Int.toNat_natCast]
      show (xs.map V.int)[n]? = _
      rw [List.getElem?_map, List.getElem?_eq_getElem hn]
      rfl
    · exact q 0
theorem ok_lw_mix (T : Top K mg) : FnOk P w K mg base CX0 1 T.f_lw_mix T.d_lw_mix ["_law_cell", "_law_k"] (spMix) := by
  refine T.F_lw_mix.ok sc_lw_mix (fun vs H Q E h => ?_) (fun cdv A outer s H vs Q E hr h => ?_)
  · obtain ⟨c, k, rfl, _⟩ := h
    rfl
  · obtain ⟨c, k, rfl, q⟩ := h
    refine ⟨_, (pss_cons (ps_set (i := 2) sc_lw_mix.nd rfl (by first | exact Or.inl rfl | exact Or.inr rfl) (pe_op op_mod (pe_op op_mul (pe_op op_add (pe_op op_add (pe_op op_mod (pv 0) pe_int) (pe_op op_mul pe_int (pv 1))) pe_int) pe_int) pe_int))
      (pss_one (ps_ret (pe_op op_mod (pe_op op_add (pe_op op_mul (pv 2) (pv 2)) (pv 1)) pe_int)))), ?_⟩
    refine ⟨_, rfl, _, _, rfl, rfl, pos47, _, rfl, _, _, rfl, rfl, .inl ⟨by decide, by decide⟩, _, _, rfl, rfl, _, _, rfl, rfl, _, _, rfl, rfl, .inr ⟨by decide, by decide⟩, _, _, rfl, rfl, pos47, ?_⟩
    have b1 := Int.emod_nonneg ((c % 2147483647 + 7919 * k + 1) * 48271) (by decide : (2147483647 : Int) ≠ 0)
    have b2 := Int.emod_lt_of_pos ((c % 2147483647 + 7919 * k + 1) * 48271) (by decide : (0 : Int) < 2147483647)
    refine ⟨_, rfl, _, rfl, _, _, rfl, rfl, .inl ⟨by omega, by omega⟩, _, rfl, _, _, rfl, rfl, _, _, rfl, rfl, pos29, ?_⟩
    exact q _ (Int.emod_nonneg _ (by decide))
theorem cut_toI (z : Str) {k : Int} (h0 : 0 ≤ k) (h : k ≤ (z.length : Int)) : ((cutS z none (some k)).length : Int) = k := by
  obtain ⟨n, rfl⟩ := Int.eq_ofNat_of_zero_le h0
  rw [cut_to z (by exact_mod_cast h)]
theorem cut_fromI (z : Str) {k : Int} (h0 : 0 ≤ k) (h : k ≤ (z.length : Int)) : ((cutS z (some k) none).length : Int) = z.length - k := by
  obtain ⟨n, rfl⟩ := Int.eq_ofNat_of_zero_le h0
  have hn : n ≤ z.length := by exact_mod_cast h
  rw [cut_from z hn]
  omega
theorem pos12 : (0 : Int) < 12 := by decide
theorem pos26 : (0 : Int) < 26 := by decide
theorem pos3 : (0 : Int) < 3 := by decide
theorem small12 {n : Nat} (h : n ≤ 24) : n ≤ sizeLine := Nat.le_trans h (by decide)
/-- what the five words are cut from -/
def W71 (c : Int) (b : Str) (sz at_ : Int) (A : Addr) (H : Hp) (i : Nat) (σ : L2.St) (H' : Hp) : Prop :=
  ∃ (ws : List Str) (x y : Option V), σ = [some (.int c), some (.str letters), some (.str b), none, some (.int sz), some (.int at_), some (.ref A), x, y] ∧ Same H H' ∧ H' A = some (.lst (ws.map V.str)) ∧ ws.length = i ∧ ∀ z ∈ ws, isWord z = true
theorem ok_lw_words (T : Top K mg) : FnOk P w K mg base CX0 2 T.f_lw_words T.d_lw_words ["_law_cell"] (spWords) := by
  refine T.F_lw_words.ok sc_lw_words (fun vs H Q E h => ?_) (fun cdv A outer s H vs Q E hr h => ?_)
  · obtain ⟨c, rfl, _⟩ := h
    rfl
  · obtain ⟨c, rfl, q⟩ := h
    refine ⟨_, (pss_cons (ps_set (i := 1) sc_lw_words.nd rfl (by first | exact Or.inl rfl | exact Or.inr rfl) pe_str)
      (pss_cons (ps_set (i := 2) sc_lw_words.nd rfl (by first | exact Or.inl rfl | exact Or.inr rfl) (pe_join pe_str (pe_lc (own := [("_law_j", 3)]) rfl sc_lw_words.nd (pi_range1 (by rfl) T.z_range (pa_cons pe_int pa_nil)) (blkOk_by (own := [("_law_j", 3)]) (N := ["_law_cell", "_law_letters", "_law_base", "_law_j", "_law_size", "_law_at", "_law_some", "_law_k", "_law_word"]) (sc := defScope s_lw_words) (by decide +kernel)) (fun _ _ _ _ _ => (pg_name (i := 3) sc_lw_words.nd rfl (by first | exact Or.inl rfl | exact Or.inr rfl))) (fun _ _ _ _ _ => pts_nil) (fun _ _ _ _ _ => (pe_ix ix_str (pv 1) (pe_op op_mod (pe_call (ok_lw_mix T) (hr.mono (by decide)) (by rfl) T.m_lw_mix T.F_lw_mix.kp T.b_lw_mix .nil pass0 (pa_cons (pv 0) (pa_cons (pv 3) pa_nil))) pe_int) (fun _ _ => rfl))))))
      (pss_cons (ps_set (i := 4) sc_lw_words.nd rfl (by first | exact Or.inl rfl | exact Or.inr rfl) (pe_op op_add pe_int (pe_op op_mod (pv 0) pe_int)))
      (pss_cons (ps_set (i := 5) sc_lw_words.nd rfl (by first | exact Or.inl rfl | exact Or.inr rfl) (pe_op op_mod (pe_call (ok_lw_mix T) (hr.mono (by decide)) (by rfl) T.m_lw_mix T.F_lw_mix.kp T.b_lw_mix .nil pass0 (pa_cons (pv 0) (pa_cons pe_int pa_nil))) (pv 4)))
      (pss_cons (ps_set (i := 6) sc_lw_words.nd rfl (by first | exact Or.inl rfl | exact Or.inr rfl) (pe_lst pa_nil))
      (pss_cons (ps_for PassesOwn.never rfl (pi_range1 (by rfl) T.z_range (pa_cons pe_int pa_nil)) (pg_name (i := 7) sc_lw_words.nd rfl (by first | exact Or.inl rfl | exact Or.inr rfl))
      (pss_cons (ps_set (i := 8) sc_lw_words.nd rfl (by first | exact Or.inl rfl | exact Or.inr rfl) (pe_op op_add_str (pe_op op_add_str (pe_slice sl_str (pv 2) po_none (po_some (pv 5))) (pe_ix ix_str (pv 1) (pe_op op_mod (pe_op op_add (pe_call (ok_lw_mix T) (hr.mono (by decide)) (by rfl) T.m_lw_mix T.F_lw_mix.kp T.b_lw_mix .nil pass0 (pa_cons (pv 0) (pa_cons (pv 5) pa_nil))) (pv 7)) pe_int) (fun _ _ => rfl))) (pe_slice sl_str (pv 2) (po_some (pe_op op_add (pv 5) pe_int)) po_none)))
      (pss_one (ps_if (pt_cmpR op_eq (pe_op op_mod (pe_op op_fdiv (pv 0) pe_int) pe_int) pe_int (nomark _)) (pss_one (ps_expr (pe_bm PySem.F.plainAttrs_list PySem.F.slot_list_append PySem.F.type_list_append mt_append (pv 6) (pa_cons (pe_slice sl_str (pv 8) po_none (po_some (pv 4))) pa_nil)))) (pss_one (ps_if (pt_cmpR op_eq (pe_op op_mod (pe_op op_fdiv (pv 0) pe_int) pe_int) pe_int (nomark _)) (pss_one (ps_expr (pe_bm PySem.F.plainAttrs_list PySem.F.slot_list_append PySem.F.type_list_append mt_append (pv 6) (pa_cons (pe_slice sl_str (pv 2) po_none (po_some (pe_op op_add pe_int (pe_op op_mod (pe_op op_add (pv 0) (pe_op op_mul pe_int (pv 7))) pe_int)))) pa_nil)))) (pss_one (ps_expr (pe_bm PySem.F.plainAttrs_list PySem.F.slot_list_append PySem.F.type_list_append mt_append (pv 6) (pa_cons (pe_slice sl_str (pv 8) po_none (po_some (pe_callB (call_max2 rfl) (by rfl) T.z_max (by decide +kernel) (pa_cons (pe_op op_add (pv 5) pe_int) (pa_cons (pe_op op_add pe_int (pe_op op_mod (pe_op op_add (pv 0) (pe_op op_mul pe_int (pv 7))) pe_int)) pa_nil))))) pa_nil))))))))))
      (pss_one (ps_ret (pv 6))))))))), ?_⟩
    refine ⟨⟨_, rfl⟩, 12, rfl, by decide, by decide, fun D hD => ?_⟩
    refine lc_range (fun i H2 => ∃ ys : List Str, Same H H2 ∧ H2 D = some (.lst (ys.map V.str)) ∧ ys.length = i ∧ (∀ y ∈ ys, y.length = 1) ∧ ∀ y ∈ ys, AllL y) ⟨[], same_upd hD, upd_same, rfl, by simp, by simp⟩ ?_ ?_
    · rintro i H2 hi ⟨ys, s2, hd, hl, h1, h2⟩
      refine ⟨rfl, lc_yes ?_⟩
      refine ⟨_, rfl, _, rfl, _, rfl, c, _, rfl, fun r hr0 => ?_⟩
      obtain ⟨ch, e, m⟩ := letter_at (Int.emod_nonneg r (by decide : (26 : Int) ≠ 0)) (Int.emod_lt_of_pos r pos26)
      refine ⟨_, _, rfl, rfl, pos26, letters, _, ch, rfl, rfl, by show 26 ≤ sizeLine; decide, e, _, hd, by rw [List.length_map]; exact small1000 (by have : i < 12 := hi; omega), ys ++ [⟨#[ch]⟩], s2.new hD, ?_, ?_, ?_, ?_⟩
      · rw [upd_same, List.map_append]
        rfl
      · rw [List.length_append, hl]
        rfl
      · intro y hy
        rcases List.mem_append.mp hy with hy | hy
        · exact h1 y hy
        · obtain rfl : y = ⟨#[ch]⟩ := by simpa using hy
          rfl
      · intro y hy
        rcases List.mem_append.mp hy with hy | hy
        · exact h2 y hy
        · obtain rfl : y = ⟨#[ch]⟩ := by simpa using hy
          exact one_all m
    rintro H2 ⟨ys, s2, hd, hl, h1, h2⟩
    have hl12 : ys.length = 12 := hl
    refine ⟨Str.ofString "", D, ys, rfl, rfl, .inl (SqL.of hd), ?_, ?_⟩
    · rw [sum_ones ys h1, hl12]
      show 12 + 12 * 0 ≤ _
      decide
    have eb : Txt.join (Str.ofString "") ys = Str.join Str.empty ys := TL.join_eq _ ys
    have b1 : (Txt.join (Str.ofString "") ys).length = 12 := by rw [eb, join_len ys h1, hl12]
    have b2 : AllL (Txt.join (Str.ofString "") ys) := by rw [eb]; exact join_all ys h2
    generalize Txt.join (Str.ofString "") ys = b at b1 b2 ⊢
    have s0 := Int.emod_nonneg c (by decide : (12 : Int) ≠ 0)
    have s1 := Int.emod_lt_of_pos c pos12
    refine ⟨_, rfl, _, _, rfl, rfl, pos12, _, _, rfl, rfl, ?_⟩
    refine ⟨_, rfl, c, 60, rfl, fun r hr0 => ⟨_, rfl, _, _, rfl, rfl, (show (0 : Int) < 1 + c % 12 by omega), ?_⟩⟩
    have a0 := Int.emod_nonneg r (show 1 + c % 12 ≠ 0 by omega)
    have a1 := Int.emod_lt_of_pos r (show (0 : Int) < 1 + c % 12 by omega)
    refine ⟨(by show 0 ≤ sizeLine; decide), fun A hA => ?_⟩
    refine ⟨5, rfl, by decide, by decide, ?_⟩
    refine for_range (W71 c b (1 + c % 12) (r % (1 + c % 12)) A H) ⟨[], none, none, rfl, s2.new (s2.free hA), upd_same, rfl, by simp⟩ ?_ ?_
    · rintro i σ H3 hi ⟨ws, x, y, rfl, s3, h3, hlw, hw⟩
      refine ⟨_, rfl, _, rfl, _, rfl, b, rfl, small12 (by omega), _, rfl, _, rfl, _, rfl, c, _, rfl, fun r2 hr2 => ⟨_, rfl, _, _, rfl, rfl, ?_⟩⟩
      obtain ⟨ch, e, m⟩ := letter_at (Int.emod_nonneg (r2 + (0 + (i : Int))) (by decide : (26 : Int) ≠ 0)) (Int.emod_lt_of_pos (r2 + (0 + (i : Int))) pos26)
      have l1 := cut_toI b a0 (by omega)
      have l2 := cut_fromI b (show (0 : Int) ≤ r % (1 + c % 12) + 1 by omega) (by omega)
      refine ⟨_, _, rfl, rfl, pos26, letters, _, ch, rfl, rfl, by show 26 ≤ sizeLine; decide, e, ?_⟩
      refine ⟨_, _, rfl, rfl, small12 (by show _ + 1 ≤ 24; omega), ?_⟩
      have la : (cutS b none (some (r % (1 + c % 12))) ++ ⟨#[ch]⟩).length = (cutS b none (some (r % (1 + c % 12)))).length + 1 := len_add _ _
      refine ⟨_, rfl, _, rfl, _, _, rfl, rfl, _, rfl, b, rfl, small12 (by omega), _, _, rfl, rfl, small12 (by omega), ?_⟩
      have w1 : (cutS b none (some (r % (1 + c % 12))) ++ ⟨#[ch]⟩ ++ cutS b (some (r % (1 + c % 12) + 1)) none).length = 12 := by
        rw [len_add]
        omega
      have w2 : AllL (cutS b none (some (r % (1 + c % 12))) ++ ⟨#[ch]⟩ ++ cutS b (some (r % (1 + c % 12) + 1)) none) := ((b2.cut _ _).add (one_all m)).add (b2.cut _ _)
      generalize cutS b none (some (r % (1 + c % 12))) ++ ⟨#[ch]⟩ ++ cutS b (some (r % (1 + c % 12) + 1)) none = wd at w1 w2 ⊢
      have fin : ∀ (z : Str) (k : Int), AllL z → z.length = 12 → 1 ≤ k → k ≤ 12 → W71 c b (1 + c % 12) (r % (1 + c % 12)) A H (i + 1) [some (.int c), some (.str letters), some (.str b), none, some (.int (1 + c % 12)), some (.int (r % (1 + c % 12))), some (.ref A), some (.int (0 + (i : Int))), some (.str wd)] (upd H3 A (.lst (ws.map V.str ++ [.str (cutS z none (some k))]))) := fun z k hz hzl k1 k2 => by
        have lk := cut_toI z (show (0 : Int) ≤ k by omega) (by omega)
        refine ⟨ws ++ [cutS z none (some k)], _, _, rfl, s3.new ?_, ?_, ?_, ?_⟩
        · exact s2.free hA
        · rw [upd_same, List.map_append]
          rfl
        · rw [List.length_append, hlw]
          rfl
        · intro z' hz'
          rcases List.mem_append.mp hz' with hz' | hz'
          · exact hw z' hz'
          · obtain rfl : z' = cutS z none (some k) := by simpa using hz'
            exact isWord_of (by omega) (by omega) (hz.cut _ _)
      refine ⟨_, rfl, _, _, rfl, rfl, ⟨by show (0:Int) < 12; decide, by show (12:Int) < 1073741824; decide⟩, _, _, rfl, rfl, pos3, ?_⟩
      have hap : (ws.map V.str).length < sizeLine := by rw [List.length_map, hlw]; exact small1000 (by have : i < 5 := hi; omega)
      refine ⟨rfl, _, rfl, ite2 (fun _ => ?_) fun _ => ?_⟩
      · exact ⟨_, rfl, .inl ⟨rfl, _, SqL.of h3⟩, _, rfl, _, rfl, _, rfl, wd, rfl, small12 (by omega), A, _, _, rfl, rfl, h3, hap, fin wd _ w2 w1 (by omega) (by omega)⟩
      refine ⟨_, rfl, _, _, rfl, rfl, ⟨by show (0:Int) < 12; decide, by show (12:Int) < 1073741824; decide⟩, _, _, rfl, rfl, pos3, rfl, _, rfl, ite2 (fun _ => ?_) fun _ => ?_⟩
      · have k0 := Int.emod_nonneg (c + 5 * (0 + (i : Int))) (by decide : (12 : Int) ≠ 0)
        have k1 := Int.emod_lt_of_pos (c + 5 * (0 + (i : Int))) pos12
        exact ⟨_, rfl, .inl ⟨rfl, _, SqL.of h3⟩, _, rfl, _, rfl, _, rfl, _, _, rfl, rfl, .inl ⟨by decide, by decide⟩, _, _, rfl, rfl, _, _, rfl, rfl, pos12, _, _, rfl, rfl, _, rfl, b, rfl, small12 (by omega), A, _, _, rfl, rfl, h3, hap, fin b _ b2 b1 (by omega) (by omega)⟩
      · have k0 := Int.emod_nonneg (c + 5 * (0 + (i : Int))) (by decide : (12 : Int) ≠ 0)
        have k1 := Int.emod_lt_of_pos (c + 5 * (0 + (i : Int))) pos12
        refine ⟨_, rfl, .inl ⟨rfl, _, SqL.of h3⟩, _, rfl, _, rfl, _, _, rfl, rfl, _, rfl, _, rfl, _, _, rfl, rfl, .inl ⟨by decide, by decide⟩, _, _, rfl, rfl, _, _, rfl, rfl, pos12, _, _, rfl, rfl, _, _, rfl, _, rfl, wd, rfl, small12 (by omega), A, _, _, rfl, rfl, h3, hap, fin wd _ w2 w1 ?_ ?_⟩
        · by_cases e : 1 + (c + 5 * (0 + (i : Int))) % 12 > r % (1 + c % 12) + 1
          · rw [if_pos e]; omega
          · rw [if_neg e]; omega
        · by_cases e : 1 + (c + 5 * (0 + (i : Int))) % 12 > r % (1 + c % 12) + 1
          · rw [if_pos e]; omega
          · rw [if_neg e]; omega
    · rintro σ H3 ⟨ws, x, y, rfl, s3, h3, hlw, hw⟩
      exact ⟨_, rfl, q H3 A ws s3 (s2.free hA) h3 hlw hw⟩
theorem odd_at {H : Hp} {p t d : Addr} (ep : H p = some (.lst [.str (Str.ofString "a")])) (et : H t = some (.tup [.str (Str.ofString "a")])) (ed : H d = some (.dK [])) {n : Nat} (hn : n < 11) :
    ∃ v, atI [V.str (Str.ofString ""), .str (Str.ofString "abcdefghijklm"), .str (Str.ofString "Ab"), .str (Str.ofString "a b"), .str (Str.ofString "a1"), .int 5, .non, .bl true, .ref p, .ref t, .ref d] (n : Int) = some v ∧ OddV K H v ∧ ∀ a, v = .ref a → a = p ∨ a = t ∨ a = d := by
  have str : ∀ z : Str, isWord z = false → z.length ≤ sizeLine → OddV K H (.str z) := fun z hz hl => ⟨hz, .inl ⟨z, rfl, hl⟩, ⟨_, _, .base (.str z), kit_ty rfl⟩, .inl rfl⟩
  match n, hn with
  | 0, _ => exact ⟨_, rfl, str _ (by decide +kernel) (by decide +kernel), fun _ z => (nomatch z)⟩
  | 1, _ => exact ⟨_, rfl, str _ (by decide +kernel) (by decide +kernel), fun _ z => (nomatch z)⟩
  | 2, _ => exact ⟨_, rfl, str _ (by decide +kernel) (by decide +kernel), fun _ z => (nomatch z)⟩
  | 3, _ => exact ⟨_, rfl, str _ (by decide +kernel) (by decide +kernel), fun _ z => (nomatch z)⟩
  | 4, _ => exact ⟨_, rfl, str _ (by decide +kernel) (by decide +kernel), fun _ z => (nomatch z)⟩
  | 5, _ => exact ⟨_, rfl, ⟨rfl, .inr ⟨fun z h => (nomatch h), _, .base (.int 5), kit_ty rfl⟩, ⟨_, _, .base (.int 5), kit_ty rfl⟩, .inl rfl⟩, fun _ z => (nomatch z)⟩
  | 6, _ => exact ⟨_, rfl, ⟨rfl, .inr ⟨fun z h => (nomatch h), _, .base .non, kit_ty rfl⟩, ⟨_, _, .base .non, kit_ty rfl⟩, .inl rfl⟩, fun _ z => (nomatch z)⟩
  | 7, _ => exact ⟨_, rfl, ⟨rfl, .inr ⟨fun z h => (nomatch h), _, .base (.bl true), kit_ty rfl⟩, ⟨_, _, .base (.bl true), kit_ty rfl⟩, .inl rfl⟩, fun _ z => (nomatch z)⟩
  | 8, _ => exact ⟨_, rfl, ⟨rfl, .inr ⟨fun z h => (nomatch h), _, .base (.lst ep), kit_ty rfl⟩, ⟨_, _, .base (.lst ep), kit_ty rfl⟩, .inr ⟨_, rfl⟩⟩, fun _ z => by cases z; simp⟩
  | 9, _ => exact ⟨_, rfl, ⟨rfl, .inr ⟨fun z h => (nomatch h), _, .base (.tup et), kit_ty rfl⟩, ⟨_, _, .base (.tup et), kit_ty rfl⟩, .inr ⟨_, rfl⟩⟩, fun _ z => by cases z; simp⟩
  | 10, _ => exact ⟨_, rfl, ⟨rfl, .inr ⟨fun z h => (nomatch h), _, .base (.dK ed), kit_ty rfl⟩, ⟨_, _, .base (.dK ed), kit_ty rfl⟩, .inr ⟨_, rfl⟩⟩, fun _ z => by cases z; simp⟩
  | k + 11, h => omega
theorem ok_lw_odd (T : Top K mg) : FnOk P w K mg base CX0 1 T.f_lw_odd T.d_lw_odd ["_law_number"] (spOdd K) := by
  refine T.F_lw_odd.ok sc_lw_odd (fun vs H Q E h => ?_) (fun cdv A outer s H vs Q E hr h => ?_)
  · obtain ⟨c, rfl, _⟩ := h
    rfl
  · obtain ⟨c, rfl, q⟩ := h
    refine ⟨_, (pss_cons (ps_set (i := 1) sc_lw_odd.nd rfl (by first | exact Or.inl rfl | exact Or.inr rfl) (pe_lst (pa_cons pe_str (pa_cons pe_str (pa_cons pe_str (pa_cons pe_str (pa_cons pe_str (pa_cons pe_int (pa_cons pe_non (pa_cons pe_bl (pa_cons (pe_lst (pa_cons pe_str pa_nil)) (pa_cons (pe_tup (pa_cons pe_str pa_nil)) (pa_cons pe_dnewK pa_nil)))))))))))))
      (pss_one (ps_ret (pe_ix ix_list (pv 1) (pe_op op_mod (pv 0) pe_int) (fun _ _ => rfl))))), ?_⟩
    refine ⟨(by show 1 ≤ sizeLine; decide), fun p hp => ⟨(by show 1 ≤ sizeLine; decide), fun t ht d hd => ⟨(by show 11 ≤ sizeLine; decide), fun l hl => ?_⟩⟩⟩
    have s3 : Same H (upd (upd (upd H p (.lst [.str (Str.ofString "a")])) t (.tup [.str (Str.ofString "a")])) d (.dK [])) := by
      have s1 : Same H (upd H p (.lst [.str (Str.ofString "a")])) := same_upd hp
      have s2 := s1.new (o := .tup [.str (Str.ofString "a")]) (s1.free ht)
      exact s2.new (s2.free hd)
    refine ⟨_, rfl, _, rfl, _, _, rfl, rfl, (show (0 : Int) < 11 by decide), ?_⟩
    have m0 := Int.emod_nonneg c (by decide : (11 : Int) ≠ 0)
    have m1 := Int.emod_lt_of_pos c (show (0 : Int) < 11 by decide)
    obtain ⟨n, en⟩ := Int.eq_ofNat_of_zero_le m0
    have hn : n < 11 := by omega
    have s4 := s3.new (o := .lst [.str (Str.ofString ""), .str (Str.ofString "abcdefghijklm"), .str (Str.ofString "Ab"), .str (Str.ofString "a b"), .str (Str.ofString "a1"), .int 5, .non, .bl true, .ref p, .ref t, .ref d]) (s3.free hl)
    have hpt : p ≠ t := fun z => by rw [← z, upd_same] at ht; cases ht
    have hpd : p ≠ d := fun z => by rw [← z, upd_ne hpt, upd_same] at hd; cases hd
    have htd : t ≠ d := fun z => by rw [← z, upd_same] at hd; cases hd
    have hpl : p ≠ l := fun z => by rw [← z, upd_ne hpd, upd_ne hpt, upd_same] at hl; cases hl
    have htl : t ≠ l := fun z => by rw [← z, upd_ne htd, upd_same] at hl; cases hl
    have hdl : d ≠ l := fun z => by rw [← z, upd_same] at hl; cases hl
    have ep : upd (upd (upd (upd H p (.lst [.str (Str.ofString "a")])) t (.tup [.str (Str.ofString "a")])) d (.dK [])) l (.lst [.str (Str.ofString ""), .str (Str.ofString "abcdefghijklm"), .str (Str.ofString "Ab"), .str (Str.ofString "a b"), .str (Str.ofString "a1"), .int 5, .non, .bl true, .ref p, .ref t, .ref d]) p = some (.lst [.str (Str.ofString "a")]) := by
      rw [upd_ne hpl, upd_ne hpd, upd_ne hpt, upd_same]
    have et : upd (upd (upd (upd H p (.lst [.str (Str.ofString "a")])) t (.tup [.str (Str.ofString "a")])) d (.dK [])) l (.lst [.str (Str.ofString ""), .str (Str.ofString "abcdefghijklm"), .str (Str.ofString "Ab"), .str (Str.ofString "a b"), .str (Str.ofString "a1"), .int 5, .non, .bl true, .ref p, .ref t, .ref d]) t = some (.tup [.str (Str.ofString "a")]) := by
      rw [upd_ne htl, upd_ne htd, upd_same]
    have ed : upd (upd (upd (upd H p (.lst [.str (Str.ofString "a")])) t (.tup [.str (Str.ofString "a")])) d (.dK [])) l (.lst [.str (Str.ofString ""), .str (Str.ofString "abcdefghijklm"), .str (Str.ofString "Ab"), .str (Str.ofString "a b"), .str (Str.ofString "a1"), .int 5, .non, .bl true, .ref p, .ref t, .ref d]) d = some (.dK []) := by
      rw [upd_ne hdl, upd_same]
    obtain ⟨v, e, o, ov⟩ := odd_at (K := K) ep et ed hn
    have ht0 : H t = none := (same_upd hp : Same H (upd H p (.lst [.str (Str.ofString "a")]))).free ht
    have s1 : Same H (upd H p (.lst [.str (Str.ofString "a")])) := same_upd hp
    have s2 := s1.new (o := .tup [.str (Str.ofString "a")]) ht0
    have hd0 := s2.free hd
    exact ⟨l, _, _, v, rfl, rfl, SqL.of upd_same, by rw [en]; exact e, q _ _ s4 o fun a ea => by rcases ov a ea with rfl | rfl | rfl <;> assumption⟩
end
end Z
namespace Z
open PySem PySem.Spec PyProof.Rows L2
/-! ### the law's questions of a shelf -/
def strOf : V → Str
  | .str z => z
  | _ => Str.empty
/-- what a question answers, and the names behind it -/
def res71 (inK : Bool) (kt : List (Key × V)) (way : Int) (wv : V) (k : Int) : Str × V × List (Key × V) :=
  if wordB wv = true then
    if way = 0 then
      if inK = true then ("told", .non, putK kt (Sum.inr (strOf wv)) (.int k)) else ("no make", .int k, kt)
    else
      match valV kt (Sum.inr (strOf wv)) with
      | none => ("no name", wv, kt)
      | some v => if way = 1 then ("told", v, kt) else ("told", .non, dropK kt (Sum.inr (strOf wv)))
  else if way = 0 then ("bad word", .non, kt) else ("no name", wv, kt)
theorem int0 {i j : Int} (h : decide (V.int i = V.int j) = true) : i = j := V.int.inj (of_decide_eq_true h)
theorem int0n {i j : Int} (h : ¬ decide (V.int i = V.int j) = true) : i ≠ j := fun z => h (decide_eq_true (congrArg V.int z))
section
variable {K : PySem.W.Frag} {mg : Str → Option Value}
def spCalled (T : Top K mg) : Sp := fun vs H Q E => ∃ p pm dk ds dt ks ss n kt wv way k, vs = [.ref p, .int way, wv, .int k] ∧ ShelfAt T H p pm dk ds dt ks ss n kt ∧ WordV K H wv ∧ kt.length ≤ 500 ∧
  (way = 0 → (wordB wv = false → E (.ref T.c_BadWord) none H) ∧ ∀ z, wv = .str z → isWord z = true → (k ∈ ks.map (·.1) → Q .non (upd H dt (.dK (putK kt (Sum.inr z) (.int k))))) ∧
    (¬ k ∈ ks.map (·.1) → ∀ d, H d = none → E (.ref T.c_NoMake) (some d) (upd H d (.xd [("number", .int k)])))) ∧
  (way ≠ 0 → (∀ z v, wv = .str z → valV kt (Sum.inr z) = some v → (way = 1 → Q v H) ∧ (way ≠ 1 → Q .non (upd H dt (.dK (dropK kt (Sum.inr z)))))) ∧
    ((wordB wv = false ∨ ∃ z, wv = .str z ∧ valV kt (Sum.inr z) = none) → ∀ d, H d = none → E (.ref T.c_NoName) (some d) (upd H d (.xd [("word", wv)]))))
def spAnswer (T : Top K mg) : Sp := fun vs H Q _ => ∃ p pm dk ds dt ks ss n kt wv way k, vs = [.ref p, .int way, wv, .int k] ∧ ShelfAt T H p pm dk ds dt ks ss n kt ∧ WordV K H wv ∧ kt.length ≤ 500 ∧
  ∀ (H' : Hp) (q : Addr) (inK : Bool), (inK = true ↔ k ∈ ks.map (·.1)) → But [dt] H H' → H q = none → H' q = some (.lst [.str (res71 inK kt way wv k).1, (res71 inK kt way wv k).2.1]) →
    ShelfAt T H' p pm dk ds dt ks ss n (res71 inK kt way wv k).2.2 → Q (.ref q) H'
def spDue : Sp := fun vs H Q _ => ∃ nd kt many way wv k, vs = [.ref nd, .int many, .int way, wv, .bl (wordB wv), .int k] ∧ H nd = some (.dK kt) ∧ kt.length ≤ 500 ∧
  ∀ (H' : Hp) (q : Addr), But [nd] H H' → H q = none → H' q = some (.lst [.str (res71 (decide (k ≤ many)) kt way wv k).1, (res71 (decide (k ≤ many)) kt way wv k).2.1]) →
    H' nd = some (.dK (res71 (decide (k ≤ many)) kt way wv k).2.2) → Q (.ref q) H'
end
section
variable {P : Program} {w : World} {K : PySem.W.Frag} {mg : Str → Option Value} {base : Heap}
theorem ok_lw_called (T : Top K mg) : FnOk P w K mg base (L2.CX P w) 6 T.f_lw_called T.d_lw_called ["_law_shelf", "_law_way", "_law_word", "_law_number"] (spCalled T) := by
  refine T.F_lw_called.okX sc_lw_called (fun vs H Q E h => ?_) (fun cdv A outer s H vs Q E hr h => ?_)
  · obtain ⟨p, pm, dk, ds, dt, ks, ss, n, kt, wv, way, k, rfl, _⟩ := h
    rfl
  · obtain ⟨p, pm, dk, ds, dt, ks, ss, n, kt, wv, way, k, rfl, S, hw, hl, k0, kn⟩ := h
    obtain ⟨dx, pp, h1⟩ := S.ob
    refine ⟨_, (pss_cons (ps_if (pt_cmpR op_eq (pv 1) pe_int (nomark _)) (pss_one (ps_ret (pe_meth (pv 0) T.C_Shelf T.M_Shelf_give (ok_Shelf_give T) (hr.mono (by decide)) T.b_Shelf_give .nil (passes_call (takes_of rfl rfl rfl rfl) (fun _ _ _ _ h => h)) (pa_cons (pv 2) (pa_cons (pv 3) pa_nil))))) pss_nil)
      (pss_cons (ps_if (pt_cmpR op_eq (pv 1) pe_int (nomark _)) (pss_one (ps_ret (pe_meth (pv 0) T.C_Shelf T.M_Shelf_made_by (ok_Shelf_made_by T) (hr.mono (by decide)) T.b_Shelf_made_by .nil (passes_call (takes_of rfl rfl rfl rfl) (fun _ _ _ _ h => h)) (pa_cons (pv 2) pa_nil)))) pss_nil)
      (pss_one (ps_ret (pe_meth (pv 0) T.C_Shelf T.M_Shelf_forget (ok_Shelf_forget T) (hr.mono (by decide)) T.b_Shelf_forget .nil (passes_call (takes_of rfl rfl rfl rfl) (fun _ _ _ _ h => h)) (pa_cons (pv 2) pa_nil)))))), ?_⟩
    refine ⟨_, rfl, rfl, _, rfl, ite2 (fun e => ?_) fun e => ?_⟩
    · obtain ⟨ka, kb⟩ := k0 (int0 e)
      exact ⟨_, rfl, p, dx, _, rfl, h1, fl_Shelf_m_give, _, rfl, _, rfl, p, pm, dk, ds, dt, ks, ss, n, kt, wv, k, rfl, S, hw, hl, ka, kb⟩
    · obtain ⟨ka, kb⟩ := kn (int0n e)
      refine ⟨_, rfl, rfl, _, rfl, ite2 (fun e1 => ?_) fun e1 => ?_⟩
      · exact ⟨_, rfl, p, dx, _, rfl, h1, fl_Shelf_m_made_by, _, rfl, p, pm, dk, ds, dt, ks, ss, n, kt, wv, rfl, S, hw, fun z v hz hv => (ka z v hz hv).1 (int0 e1), kb⟩
      · exact ⟨_, rfl, p, dx, _, rfl, h1, fl_Shelf_m_forget, _, rfl, p, pm, dk, ds, dt, ks, ss, n, kt, wv, rfl, S, hw, fun z v hz hv => (ka z v hz hv).2 (int0n e1), kb⟩
theorem own_cls {C : Addr} (u : Value) (h : RelV (.ref C) u) : u = .ref C := h
theorem is_dn {H : Hp} : rIsD none H := fun _ z => (nomatch z)
theorem is_d {d : Addr} {H : Hp} {fs : List (Str × V)} : rIsD (some d) (upd H d (.xd fs)) := fun dd e => by
  cases e
  exact ⟨_, upd_same⟩
theorem ok_lw_answer (T : Top K mg) : FnOk P w K mg base CX0 7 T.f_lw_answer T.d_lw_answer ["_law_shelf", "_law_way", "_law_word", "_law_number"] (spAnswer T) := by
  refine T.F_lw_answer.ok sc_lw_answer (fun vs H Q E h => ?_) (fun cdv A outer s H vs Q E hr h => ?_)
  · obtain ⟨p, pm, dk, ds, dt, ks, ss, n, kt, wv, way, k, rfl, _⟩ := h
    rfl
  · obtain ⟨p, pm, dk, ds, dt, ks, ss, n, kt, wv, way, k, rfl, S, hw, hl, kq⟩ := h
    refine ⟨_, (pss_cons (ps_set (i := 4) sc_lw_answer.nd rfl (by first | exact Or.inl rfl | exact Or.inr rfl) pe_non)
      (pss_cons (ps_set (i := 5) sc_lw_answer.nd rfl (by first | exact Or.inl rfl | exact Or.inr rfl) pe_non)
      (pss_try_keep (x := "TableError") (i := 6) rfl rfl sc_lw_answer.nd rfl rfl ⟨by rfl, by decide, .inl T.g_TableError⟩
      (fun W pn xe tk po => (pss_one (ps_set (i := 5) sc_lw_answer.nd rfl (by first | exact Or.inl rfl | exact Or.inr rfl) (pe_callS (ok_lw_called T) (hr.mono (by decide)) (by rfl) T.m_lw_called T.F_lw_called.kp T.b_lw_called (fun σ => passAt tk σ) (pa_cons (pv 0) (pa_cons (pv 1) (pa_cons (pv 2) (pa_cons (pv 3) pa_nil))))))))
      (fun a oe cls dd pn hz hf => (pss_one (ps_set (i := 4) sc_lw_answer.nd rfl (by first | exact Or.inl rfl | exact Or.inr rfl) (pv 6))))
      (pss_cons (ps_if (pt_cmpR op_isN (pv 4) pe_non (nomark _)) (pss_one (ps_ret (pe_lst (pa_cons pe_str (pa_cons (pv 5) pa_nil))))) pss_nil)
      (pss_cons (ps_if (pt_val (pe_callB call_isi (by rfl) T.z_isinstance (by decide +kernel) (pa_cons (pv 4) (pa_cons (pe_glob (v := .ref T.c_NoName) (by rfl) T.g_NoName rfl) pa_nil)))) (pss_one (ps_ret (pe_lst (pa_cons pe_str (pa_cons (pe_fld (pv 4) rfl) pa_nil))))) pss_nil)
      (pss_cons (ps_if (pt_val (pe_callB call_isi (by rfl) T.z_isinstance (by decide +kernel) (pa_cons (pv 4) (pa_cons (pe_glob (v := .ref T.c_NoMake) (by rfl) T.g_NoMake rfl) pa_nil)))) (pss_one (ps_ret (pe_lst (pa_cons pe_str (pa_cons (pe_fld (pv 4) rfl) pa_nil))))) pss_nil)
      (pss_one (ps_ret (pe_lst (pa_cons (pe_ix ix_list (pe_lst (pa_cons pe_str (pa_cons pe_str pa_nil))) (pe_callTy call_int1 (by rfl) T.z_int (by decide +kernel) (pa_cons (pe_callB call_isi (by rfl) T.z_isinstance (by decide +kernel) (pa_cons (pv 4) (pa_cons (pe_glob (v := .ref T.c_BadWord) (by rfl) T.g_BadWord rfl) pa_nil))) pa_nil)) (fun _ _ => rfl)) (pa_cons pe_non pa_nil))))))))
      (fun a oe cls dd hz hf => (pss_cons (ps_if (pt_cmpR op_isN (pv 4) pe_non (nomark _)) (pss_one (ps_ret (pe_lst (pa_cons pe_str (pa_cons (pv 5) pa_nil))))) pss_nil)
      (pss_cons (ps_if (pt_val (pe_callB (call_isY hz hf) (by rfl) T.z_isinstance (by decide +kernel) (pa_cons (pv 4) (pa_cons (pe_glob (v := .ref T.c_NoName) (by rfl) T.g_NoName rfl) pa_nil)))) (pss_one (ps_ret (pe_lst (pa_cons pe_str (pa_cons (pe_xfK T.X_NoName T.n_NoName_word hz hf (pv 4)) pa_nil))))) pss_nil)
      (pss_cons (ps_if (pt_val (pe_callB (call_isY hz hf) (by rfl) T.z_isinstance (by decide +kernel) (pa_cons (pv 4) (pa_cons (pe_glob (v := .ref T.c_NoMake) (by rfl) T.g_NoMake rfl) pa_nil)))) (pss_one (ps_ret (pe_lst (pa_cons pe_str (pa_cons (pe_xfK T.X_NoMake T.n_NoMake_number hz hf (pv 4)) pa_nil))))) pss_nil)
      (pss_one (ps_ret (pe_lst (pa_cons (pe_ix (show IxR _ (rIxL K) from ix_list) (pe_lst (pa_cons pe_str (pa_cons pe_str pa_nil))) (pe_callTy call_int1 (by rfl) T.z_int (by decide +kernel) (pa_cons (pe_callB (call_isY hz hf) (by rfl) T.z_isinstance (by decide +kernel) (pa_cons (pv 4) (pa_cons (pe_glob (v := .ref T.c_BadWord) (by rfl) T.g_BadWord rfl) pa_nil))) pa_nil)) (fun _ _ => rfl)) (pa_cons pe_non pa_nil)))))))))))), ?_⟩
    have hI : (decide (k ∈ ks.map (·.1)) = true ↔ k ∈ ks.map (·.1)) := decide_eq_true_iff
    refine ⟨_, rfl, _, rfl, _, rfl, _, rfl, p, pm, dk, ds, dt, ks, ss, n, kt, wv, way, k, rfl, S, hw, hl, fun w0 => ⟨fun hb => ?_, fun z hz hzw => ⟨fun hk => ?_, fun hk d hd => ?_⟩⟩, fun w0 => ⟨fun z v hz hv => ⟨fun w1 => ?_, fun w1 => ?_⟩, fun hb d hd => ?_⟩⟩
    · -- bad word
      refine ⟨true, T.xm_BadWord, rfl, fun a ha => ⟨_, rfl, _, rfl, rfl, _, rfl, iteF ⟨_, rfl, _, rfl, T.E_BadWord, is_dn, _, _, _, rfl, own_cls, T.ko_BadWord_NoName, _, rfl, iteF ⟨_, rfl, _, rfl, T.E_BadWord, is_dn, _, _, _, rfl, own_cls, T.ko_BadWord_NoMake, _, rfl, iteF ?_⟩⟩⟩⟩
      refine ⟨(by show 2 ≤ sizeLine; decide), fun l hl => ⟨_, rfl, _, rfl, T.E_BadWord, is_dn, _, _, _, rfl, own_cls, T.ko_BadWord_BadWord, .inr ⟨_, rfl, l, _, _, _, rfl, rfl, SqL.of upd_same, rfl, (by show 2 ≤ sizeLine; decide), fun q hq => ?_⟩⟩⟩
      have s1 : Same H (upd H l (.lst [.str (Str.ofString "other"), .str (Str.ofString "bad word")])) := same_upd hl
      have s2 := s1.new (o := .lst [.str (Str.ofString "bad word"), .non]) (s1.free hq)
      have er : res71 (decide (k ∈ ks.map (·.1))) kt way wv k = (Str.ofString "bad word", V.non, kt) := by
        unfold res71
        rw [hb, if_neg (by decide), if_pos w0]
      exact kq _ q _ hI (.of s2) (s1.free hq) (by rw [er, upd_same] <;> rfl) (by rw [er]; exact S.same s2)
    · -- given
      subst hz
      have er : res71 (decide (k ∈ ks.map (·.1))) kt way (.str z) k = (Str.ofString "told", V.non, putK kt (Sum.inr z) (.int k)) := by
        unfold res71
        rw [if_pos (show wordB (.str z) = true from hzw), if_pos w0, if_pos (decide_eq_true hk)]
        rfl
      refine ⟨_, rfl, rfl, _, rfl, iteT ⟨_, rfl, (by show 2 ≤ sizeLine; decide), fun q hq => ?_⟩⟩
      have b1 : But [dt] H (upd H dt (.dK (putK kt (Sum.inr z) (.int k)))) := But.refl.put (by simp)
      have hq0 : H q = none := b1.none hq (fun m => by obtain rfl : q = dt := by simpa using m
                                                       rw [upd_same] at hq
                                                       cases hq)
      exact kq _ q _ hI (b1.new hq0) hq0 (by rw [er, upd_same] <;> rfl) (by rw [er]; exact (S.titled (titles_put S.td hzw)).same (same_upd hq))
    · -- no make
      subst hz
      have er : res71 (decide (k ∈ ks.map (·.1))) kt way (.str z) k = (Str.ofString "no make", V.int k, kt) := by
        unfold res71
        rw [if_pos (show wordB (.str z) = true from hzw), if_pos w0, if_neg (fun e => hk (of_decide_eq_true e))]
      refine ⟨true, T.xm_NoMake, rfl, fun a ha => ⟨_, rfl, _, rfl, rfl, _, rfl, iteF ⟨_, rfl, _, rfl, T.E_NoMake, is_d, _, _, _, rfl, own_cls, T.ko_NoMake_NoName, _, rfl, iteF ⟨_, rfl, _, rfl, T.E_NoMake, is_d, _, _, _, rfl, own_cls, T.ko_NoMake_NoMake, _, rfl, iteT ?_⟩⟩⟩⟩
      refine ⟨_, rfl, rfl, rfl, d, _, _, rfl, upd_same, rfl, (by show 2 ≤ sizeLine; decide), fun q hq => ?_⟩
      have s1 : Same H (upd H d (.xd [("number", .int k)])) := same_upd hd
      have s2 := s1.new (o := .lst [.str (Str.ofString "no make"), .int k]) (s1.free hq)
      exact kq _ q _ hI (.of s2) (s1.free hq) (by rw [er, upd_same] <;> rfl) (by rw [er]; exact S.same s2)
    · -- told a number
      subst hz
      obtain ⟨i, rfl, hzw⟩ := titles_get S.td hv
      have er : res71 (decide (k ∈ ks.map (·.1))) kt way (.str z) k = (Str.ofString "told", V.int i, kt) := by
        unfold res71
        rw [if_pos (show wordB (.str z) = true from hzw), if_neg w0]
        show (match valV kt (Sum.inr z) with | none => _ | some v => _) = _
        rw [hv]
        exact if_pos w1
      refine ⟨_, rfl, rfl, _, rfl, iteT ⟨_, rfl, (by show 2 ≤ sizeLine; decide), fun q hq => ?_⟩⟩
      exact kq _ q _ hI (.of (same_upd hq)) hq (by rw [er, upd_same] <;> rfl) (by rw [er]; exact S.same (same_upd hq))
    · -- forgotten
      subst hz
      obtain ⟨i, rfl, hzw⟩ := titles_get S.td hv
      have er : res71 (decide (k ∈ ks.map (·.1))) kt way (.str z) k = (Str.ofString "told", V.non, dropK kt (Sum.inr z)) := by
        unfold res71
        rw [if_pos (show wordB (.str z) = true from hzw), if_neg w0]
        show (match valV kt (Sum.inr z) with | none => _ | some v => _) = _
        rw [hv]
        exact if_neg w1
      refine ⟨_, rfl, rfl, _, rfl, iteT ⟨_, rfl, (by show 2 ≤ sizeLine; decide), fun q hq => ?_⟩⟩
      have b1 : But [dt] H (upd H dt (.dK (dropK kt (Sum.inr z)))) := But.refl.put (by simp)
      have hq0 : H q = none := b1.none hq (fun m => by obtain rfl : q = dt := by simpa using m
                                                       rw [upd_same] at hq
                                                       cases hq)
      exact kq _ q _ hI (b1.new hq0) hq0 (by rw [er, upd_same] <;> rfl) (by rw [er]; exact (S.titled (titles_drop S.td)).same (same_upd hq))
    · -- no name
      have er : res71 (decide (k ∈ ks.map (·.1))) kt way wv k = (Str.ofString "no name", wv, kt) := by
        unfold res71
        rcases hb with hb | ⟨z, rfl, hz⟩
        · rw [hb, if_neg (by decide), if_neg w0]
        · by_cases e : isWord z = true
          · rw [if_pos (show wordB (.str z) = true from e), if_neg w0]
            show (match valV kt (Sum.inr z) with | none => _ | some v => _) = _
            rw [hz]
          · rw [if_neg (show ¬ wordB (.str z) = true from e), if_neg w0]
      refine ⟨true, T.xm_NoName, rfl, fun a ha => ⟨_, rfl, _, rfl, rfl, _, rfl, iteF ⟨_, rfl, _, rfl, T.E_NoName, is_d, _, _, _, rfl, own_cls, T.ko_NoName_NoName, _, rfl, iteT ?_⟩⟩⟩
      refine ⟨_, rfl, rfl, rfl, d, _, _, rfl, upd_same, rfl, (by show 2 ≤ sizeLine; decide), fun q hq => ?_⟩
      have s1 : Same H (upd H d (.xd [("word", wv)])) := same_upd hd
      have s2 := s1.new (o := .lst [.str (Str.ofString "no name"), wv]) (s1.free hq)
      exact kq _ q _ hI (.of s2) (s1.free hq) (by rw [er, upd_same] <;> rfl) (by rw [er]; exact S.same s2)
theorem ok_lw_due (T : Top K mg) : FnOk P w K mg base CX0 1 T.f_lw_due T.d_lw_due ["_law_names", "_law_many", "_law_way", "_law_word", "_law_good", "_law_number"] (spDue) := by
  refine T.F_lw_due.ok sc_lw_due (fun vs H Q E h => ?_) (fun cdv A outer s H vs Q E hr h => ?_)
  · obtain ⟨nd, kt, many, way, wv, k, rfl, _⟩ := h
    rfl
  · obtain ⟨nd, kt, many, way, wv, k, rfl, hn, hl, kq⟩ := h
    have hu := hu_of hr
    refine ⟨_, (pss_cons (ps_if (PW.pt (pw_and (pt_cmpR op_eq (pv 2) pe_int (nomark _)) (pw_and1 (pt_not (pt_val (pv 4)))))) (pss_one (ps_ret (pe_lst (pa_cons pe_str (pa_cons pe_non pa_nil))))) pss_nil)
      (pss_cons (ps_if (PW.pt (pw_and (pt_cmpR op_eq (pv 2) pe_int (nomark _)) (pw_and1 (pt_cmpR op_gt (pv 5) (pv 1) (nomark _))))) (pss_one (ps_ret (pe_lst (pa_cons pe_str (pa_cons (pv 5) pa_nil))))) pss_nil)
      (pss_cons (ps_if (pt_cmpR op_eq (pv 2) pe_int (nomark _)) (pss_cons (ps_dput hu (pv 0) (pv 3) (pv 5) rfl)
      (pss_one (ps_ret (pe_lst (pa_cons pe_str (pa_cons pe_non pa_nil)))))) pss_nil)
      (pss_cons (ps_if (PW.pt (pw_or (pt_not (pt_val (pv 4))) (pw_or1 (pt_cmp (pc_dnotin hu (pv 3) (pv 0)))))) (pss_one (ps_ret (pe_lst (pa_cons pe_str (pa_cons (pv 3) pa_nil))))) pss_nil)
      (pss_cons (ps_set (i := 5) sc_lw_due.nd rfl (by first | exact Or.inl rfl | exact Or.inr rfl) (pe_dget hu (pv 0) (pv 3) (fun _ _ => rfl)))
      (pss_cons (ps_if (pt_cmpR op_eq (pv 2) pe_int (nomark _)) (pss_one (ps_ret (pe_lst (pa_cons pe_str (pa_cons (pv 5) pa_nil))))) pss_nil)
      (pss_cons (ps_expr (pe_dpop1 (pv 0) (pv 3) m1))
      (pss_one (ps_ret (pe_lst (pa_cons pe_str (pa_cons pe_non pa_nil)))))))))))), ?_⟩
    by_cases w0 : way = 0
    · have d0 : decide (V.int way = V.int 0) = true := decide_eq_true (congrArg V.int w0)
      cases hb : wordB wv with
      | false =>
        have er : res71 (decide (k ≤ many)) kt way wv k = (Str.ofString "bad word", V.non, kt) := by
          unfold res71
          rw [hb, if_neg (by decide), if_pos w0]
        refine ⟨_, rfl, rfl, _, rfl, iteP d0 ⟨_, rfl, _, rfl, iteT ⟨(by show 2 ≤ sizeLine; decide), fun q hq => ?_⟩⟩⟩
        exact kq _ q (.of (same_upd hq)) hq (by rw [er, upd_same] <;> rfl) (by rw [er, upd_ne (ne_of_none hn hq)]; exact hn)
      | true =>
        obtain ⟨z, rfl, hz⟩ := wordB_str hb
        refine ⟨_, rfl, rfl, _, rfl, iteP d0 ⟨_, rfl, _, rfl, iteF ⟨_, rfl, rfl, _, rfl, iteP d0 ⟨_, rfl, _, rfl, _, _, rfl, rfl, _, rfl, ite2 (fun e => ?_) fun e => ?_⟩⟩⟩⟩
        · have hk : ¬ k ≤ many := by have := of_decide_eq_true e; omega
          have er : res71 (decide (k ≤ many)) kt way (.str z) k = (Str.ofString "no make", V.int k, kt) := by
            unfold res71
            rw [if_pos hb, if_pos w0, if_neg (fun e => hk (of_decide_eq_true e))]
          refine ⟨_, rfl, (by show 2 ≤ sizeLine; decide), fun q hq => ?_⟩
          exact kq _ q (.of (same_upd hq)) hq (by rw [er, upd_same] <;> rfl) (by rw [er, upd_ne (ne_of_none hn hq)]; exact hn)
        · have hk : k ≤ many := by
            rcases Int.lt_or_le many k with h1 | h1
            · exact (e (decide_eq_true h1)).elim
            · exact h1
          have er : res71 (decide (k ≤ many)) kt way (.str z) k = (Str.ofString "told", V.non, putK kt (Sum.inr z) (.int k)) := by
            unfold res71
            rw [if_pos hb, if_pos w0, if_pos (decide_eq_true hk)]
            rfl
          refine ⟨_, rfl, rfl, _, rfl, iteP d0 ⟨_, rfl, _, rfl, _, rfl, nd, _, rfl, DPut.k (k := Sum.inr z) hn (small1000 (by omega)), (by show 2 ≤ sizeLine; decide), fun q hq => ?_⟩⟩
          have b1 : But [nd] H (upd H nd (.dK (putK kt (Sum.inr z) (.int k)))) := But.refl.put (by simp)
          have nq : nd ≠ q := fun m => by rw [← m, upd_same] at hq; cases hq
          have hq0 : H q = none := b1.none hq (fun m => nq (by simpa using m : q = nd).symm)
          exact kq _ q (b1.new hq0) hq0 (by rw [er, upd_same] <;> rfl) (by rw [er, upd_ne nq, upd_same])
    · have d0 : decide (V.int way = V.int 0) = false := decide_eq_false fun e => w0 (V.int.inj e)
      cases hb : wordB wv with
      | false =>
        have er : res71 (decide (k ≤ many)) kt way wv k = (Str.ofString "no name", wv, kt) := by
          unfold res71
          rw [hb, if_neg (by decide), if_neg w0]
        refine ⟨_, rfl, rfl, _, rfl, iteN d0 (iteF ⟨_, rfl, rfl, _, rfl, iteN d0 (iteF ⟨_, rfl, rfl, _, rfl, iteN d0 ⟨_, rfl, _, rfl, iteT (iteT ⟨_, rfl, (by show 2 ≤ sizeLine; decide), fun q hq => ?_⟩)⟩⟩)⟩)⟩
        exact kq _ q (.of (same_upd hq)) hq (by rw [er, upd_same] <;> rfl) (by rw [er, upd_ne (ne_of_none hn hq)]; exact hn)
      | true =>
        obtain ⟨z, rfl, hz⟩ := wordB_str hb
        refine ⟨_, rfl, rfl, _, rfl, iteN d0 (iteF ⟨_, rfl, rfl, _, rfl, iteN d0 (iteF ⟨_, rfl, rfl, _, rfl, iteN d0 ⟨_, rfl, _, rfl, iteF ⟨_, rfl, _, rfl, nd, _, rfl, DGet.k (k := Sum.inr z) hn, _, rfl, ?_⟩⟩⟩)⟩)⟩
        cases e2 : valV kt (Sum.inr z : Key) with
        | none =>
          have er : res71 (decide (k ≤ many)) kt way (.str z) k = (Str.ofString "no name", V.str z, kt) := by
            unfold res71
            rw [if_pos hb, if_neg w0]
            show (match valV kt (Sum.inr z) with | none => _ | some v => _) = _
            rw [e2]
          refine iteT ⟨_, rfl, (by show 2 ≤ sizeLine; decide), fun q hq => ?_⟩
          exact kq _ q (.of (same_upd hq)) hq (by rw [er, upd_same] <;> rfl) (by rw [er, upd_ne (ne_of_none hn hq)]; exact hn)
        | some v =>
          refine iteF ⟨_, rfl, _, rfl, nd, v, rfl, ?_, ?_⟩
          · rw [← e2]
            exact DGet.k (k := Sum.inr z) hn
          refine ⟨_, rfl, rfl, _, rfl, ite2 (fun w1 => ?_) fun w1 => ?_⟩
          · have er : res71 (decide (k ≤ many)) kt way (.str z) k = (Str.ofString "told", v, kt) := by
              unfold res71
              rw [if_pos hb, if_neg w0]
              show (match valV kt (Sum.inr z) with | none => _ | some v => _) = _
              rw [e2]
              exact if_pos (int0 w1)
            refine ⟨_, rfl, (by show 2 ≤ sizeLine; decide), fun q hq => ?_⟩
            exact kq _ q (.of (same_upd hq)) hq (by rw [er, upd_same] <;> rfl) (by rw [er, upd_ne (ne_of_none hn hq)]; exact hn)
          · have er : res71 (decide (k ≤ many)) kt way (.str z) k = (Str.ofString "told", V.non, dropK kt (Sum.inr z)) := by
              unfold res71
              rw [if_pos hb, if_neg w0]
              show (match valV kt (Sum.inr z) with | none => _ | some v => _) = _
              rw [e2]
              exact if_neg (int0n w1)
            refine ⟨_, rfl, nd, rfl, .inl ⟨_, .inl hn⟩, _, rfl, kt, Sum.inr z, v, hn, rfl, e2, (by show 2 ≤ sizeLine; decide), fun q hq => ?_⟩
            have b1 : But [nd] H (upd H nd (.dK (dropK kt (Sum.inr z)))) := But.refl.put (by simp)
            have nq : nd ≠ q := fun m => by rw [← m, upd_same] at hq; cases hq
            have hq0 : H q = none := b1.none hq (fun m => nq (by simpa using m : q = nd).symm)
            exact kq _ q (b1.new hq0) hq0 (by rw [er, upd_same] <;> rfl) (by rw [er, upd_ne nq, upd_same])
end
end Z
namespace Z
open PySem PySem.Spec PyProof.Rows L2
/-! ### what is told, and what is due -/
section
variable {K : PySem.W.Frag} {mg : Str → Option Value}
def spSame (K : PySem.W.Frag) : Sp := fun vs H Q _ => ∃ a b s v, vs = [.ref a, .ref b] ∧ H a = some (.lst [.str s, v]) ∧ H b = some (.lst [.str s, v]) ∧ (flatB v = true ∨ ∃ r, v = .ref r) ∧ (∃ t k, TyX K H v t ∧ PySem.W.kitOne K t (.type "bool") = some k) ∧ Q (.bl true) H
def spNamedL (T : Top K mg) : Sp := fun vs H Q _ => ∃ p pm dk ds dt ks ss n kt nd, vs = [.ref p, .ref nd] ∧ ShelfAt T H p pm dk ds dt ks ss n kt ∧ H nd = some (.dK kt) ∧ kt.length < 64 ∧ ∀ H', Same H H' → Q (.bl true) H'
end
section
variable {P : Program} {w : World} {K : PySem.W.Frag} {mg : Str → Option Value} {base : Heap}
theorem ok_lw_same (T : Top K mg) : FnOk P w K mg base CX0 1 T.f_lw_same T.d_lw_same ["_law_found", "_law_due_here"] (spSame K) := by
  refine T.F_lw_same.ok sc_lw_same (fun vs H Q E h => ?_) (fun cdv A outer s H vs Q E hr h => ?_)
  · obtain ⟨a, b, s, v, rfl, _⟩ := h
    rfl
  · obtain ⟨a, b, z, v, rfl, ha, hb, hf, ⟨t, k, ht, hk⟩, q⟩ := h
    refine ⟨_, (pss_one (ps_ret (pe_and (pe_cmpR (op_eqV hr.units) (pv 0) (pv 1) (nomark _)) (pe_one (pe_cmpR op_eq (pe_callB call_isi (by rfl) T.z_isinstance (by decide +kernel) (pa_cons (pe_ix ix_list (pv 0) pe_int (fun _ _ => rfl)) (pa_cons (pe_bltn (v := .ty "bool") (by rfl) T.z_bool (by decide +kernel) rfl) pa_nil))) (pe_callB call_isi (by rfl) T.z_isinstance (by decide +kernel) (pa_cons (pe_ix ix_list (pv 1) pe_int (fun _ _ => rfl)) (pa_cons (pe_bltn (v := .ty "bool") (by rfl) T.z_bool (by decide +kernel) rfl) pa_nil))) (nomark _)))))), ?_⟩
    have ev : EqV K H 1 v v := by
      rcases hf with hf | ⟨r, rfl⟩
      · exact .inl ⟨rfl, hf⟩
      · exact .inr (.inl ⟨r, rfl, rfl⟩)
    refine ⟨_, rfl, _, rfl, 1, by decide, .inl ⟨a, b, _, _, rfl, rfl, SqL.of ha, SqL.of hb, .cons (.inl ⟨rfl, rfl⟩) (.cons ev .nil)⟩, _, rfl, iteT ?_⟩
    refine ⟨_, rfl, a, _, 1, v, rfl, rfl, SqL.of ha, rfl, _, _, _, _, k, rfl, .ty "bool", ht, hk, ?_⟩
    refine ⟨_, rfl, b, _, 1, v, rfl, rfl, SqL.of hb, rfl, _, _, _, _, k, rfl, .ty "bool", ht, hk, rfl, ?_⟩
    rw [decide_eq_true rfl]
    exact q
theorem named_at {kt : List (Key × V)} {H : Hp} {ts : List Addr} {ys : List Str} (n : Named kt H ts ys) : ∀ {i : Nat} {t : Addr} {y : Str}, ts[i]? = some t → ys[i]? = some y → ∃ v, valV kt (Sum.inr y) = some v ∧ H t = some (.tup [.str y, v]) := by
  unfold Named at n
  induction n with
  | nil => intro i t y h; cases h
  | cons a _ ih =>
    intro i t y h1 h2
    cases i with
    | zero =>
      cases h1
      cases h2
      exact a
    | succ i => exact ih h1 h2
theorem shaped_two {y : Str} {m : Int} (h : isWord y = true) : SeqAt.shaped (.tuple [.str y, .int m]) = true := by
  have hy : PyData.strOk y = true := by
    obtain ⟨_, h2⟩ := Bool.and_eq_true_iff.mp h
    obtain ⟨_, h3⟩ := Bool.and_eq_true_iff.mp h2
    have hl : ∀ c ∈ letters.cps.toList, c < 0x110000 := by decide +kernel
    show y.cps.all (fun c => decide (c < 0x110000)) = true
    rw [← Array.all_toList]
    exact List.all_eq_true.mpr fun c hc => decide_eq_true (hl c (of_decide_eq_true (List.all_eq_true.mp h3 c hc)))
  have h1 : PyData.canLay0 (.tuple [.str y, .int m]) = true := by
    simp [PyData.canLay0, PyData.canLayAll0]
    exact hy
  have h2 : PyData.depth (.tuple [.str y, .int m]) ≤ 64 := by
    simp [PyData.depth, PyData.depthAll]
  show (PyData.canLay0 _ && decide (PyData.depth _ ≤ 64)) = true
  rw [h1, decide_eq_true h2]
  rfl
theorem ok_lw_named (T : Top K mg) : FnOk P w K mg base CX0 2 T.f_lw_named T.d_lw_named ["_law_shelf", "_law_names"] (spNamedL T) := by
  refine T.F_lw_named.ok sc_lw_named (fun vs H Q E h => ?_) (fun cdv A outer s H vs Q E hr h => ?_)
  · obtain ⟨p, pm, dk, ds, dt, ks, ss, n, kt, nd, rfl, _⟩ := h
    rfl
  · obtain ⟨p, pm, dk, ds, dt, ks, ss, n, kt, nd, rfl, S, hn, hl, kq⟩ := h
    have hu := hu_of hr
    obtain ⟨dx, pp, h1⟩ := S.ob
    obtain ⟨zs, hz⟩ := titles_keys S.td
    have hzl : zs.length = kt.length := by
      have := congrArg List.length hz
      rw [List.length_map, List.length_map] at this
      exact this.symm
    refine ⟨_, (pss_cons (ps_set (i := 2) sc_lw_named.nd rfl (by first | exact Or.inl rfl | exact Or.inr rfl) (pe_meth0 (pv 0) T.C_Shelf T.M_Shelf_named (ok_Shelf_named T) (hr.mono (by decide)) T.b_Shelf_named .nil pass0))
      (pss_cons (ps_if (PW.pt (pw_or (pt_not (pt_val (pe_callB call_isi (by rfl) T.z_isinstance (by decide +kernel) (pa_cons (pv 2) (pa_cons (pe_bltn (v := .ty "list") (by rfl) T.z_list (by decide +kernel) rfl) pa_nil))))) (pw_or1 (pt_cmpR op_ne (pe_callB call_len_seq (by rfl) T.z_len PySem.boot_len (pa_cons (pv 2) pa_nil)) (pe_callB call_lenD (by rfl) T.z_len PySem.boot_len (pa_cons (pv 1) pa_nil)) (nomark _))))) (pss_one (ps_ret pe_bl)) pss_nil)
      (pss_cons (ps_for PassesOwn.never rfl (pi_zip (by rfl) T.z_zip (pa_cons (pv 2) (pa_cons (pe_callB (call_sortedD rfl) (by rfl) T.z_sorted (by decide +kernel) (pa_cons (pv 1) pa_nil)) pa_nil))) (pg_tup rfl (pgs_cons (pg_name (i := 3) sc_lw_named.nd rfl (by first | exact Or.inl rfl | exact Or.inr rfl)) (pgs_cons (pg_name (i := 4) sc_lw_named.nd rfl (by first | exact Or.inl rfl | exact Or.inr rfl)) pgs_nil)))
      (pss_cons (ps_if (PW.pt (pw_or (pt_not (pt_val (pe_callB call_isi (by rfl) T.z_isinstance (by decide +kernel) (pa_cons (pv 3) (pa_cons (pe_bltn (v := .ty "tuple") (by rfl) T.z_tuple (by decide +kernel) rfl) pa_nil))))) (pw_or (pt_cmpR op_ne (pe_callB call_len_seq (by rfl) T.z_len PySem.boot_len (pa_cons (pv 3) pa_nil)) pe_int (nomark _)) (pw_or1 (pt_not (pt_val (pe_callB call_isi (by rfl) T.z_isinstance (by decide +kernel) (pa_cons (pe_ix ix_tup (pv 3) pe_int (fun _ _ => rfl)) (pa_cons (pe_bltn (v := .ty "str") (by rfl) T.z_str (by decide +kernel) rfl) pa_nil))))))))) (pss_one (ps_ret pe_bl)) pss_nil)
      (pss_one (ps_if (PW.pt (pw_or (pt_not (pt_val (pe_callB call_isi (by rfl) T.z_isinstance (by decide +kernel) (pa_cons (pe_ix ix_tup (pv 3) pe_int (fun _ _ => rfl)) (pa_cons (pe_bltn (v := .ty "int") (by rfl) T.z_int (by decide +kernel) rfl) pa_nil))))) (pw_or (pt_val (pe_callB call_isi (by rfl) T.z_isinstance (by decide +kernel) (pa_cons (pe_ix ix_tup (pv 3) pe_int (fun _ _ => rfl)) (pa_cons (pe_bltn (v := .ty "bool") (by rfl) T.z_bool (by decide +kernel) rfl) pa_nil)))) (pw_or1 (pt_cmpR (op_neD hr.units) (pv 3) (pe_tup (pa_cons (pv 4) (pa_cons (pe_dget hu (pv 1) (pv 4) (fun _ _ => rfl)) pa_nil))) (nomark _)))))) (pss_one (ps_ret pe_bl)) pss_nil))))
      (pss_cons (ps_expr (pe_bm PySem.F.plainAttrs_list PySem.F.slot_list_append PySem.F.type_list_append mt_append (pv 2) (pa_cons (pe_tup (pa_cons pe_str (pa_cons pe_int pa_nil))) pa_nil)))
      (pss_one (ps_ret pe_bl)))))), ?_⟩
    refine ⟨_, rfl, p, dx, _, rfl, h1, fl_Shelf_m_named, p, pm, dk, ds, dt, ks, ss, n, kt, zs, rfl, S, hz, by omega, fun H1 q ts ys s1 hq hts hp hs hq1 hnm => ?_⟩
    have hyl : ys.length = kt.length := by rw [← hzl]; exact hp.length_eq
    have htl : ts.length = kt.length := by rw [← hyl]; exact Paired.length hnm
    refine ⟨_, rfl, _, _, _, _, true, rfl, .ty "list", .base (.lst hq1), kit_ty rfl, _, rfl, iteF ?_⟩
    refine ⟨_, rfl, q, _, rfl, .inl (SqL.of hq1), _, rfl, nd, kt, rfl, s1 _ _ hn, rfl, _, rfl, iteN (by rw [List.length_map, htl, decide_eq_true rfl]; rfl) ?_⟩
    refine ⟨_, rfl, _, rfl, nd, kt, zs, rfl, .inl (s1 _ _ hn), hz, by omega, fun ys2 q2 hp2 hs2 hq2 => ?_⟩
    obtain rfl := sortedS_one hs2 hs (hp2.trans hp.symm)
    refine ⟨q, q2, ts.map V.ref, ys2.map V.str, rfl, SqL.of ((same_upd hq2) _ _ hq1), SqL.of upd_same, ?_⟩
    refine RZ.for_zipL (by rw [List.length_map, List.length_map]; omega) (fun i σ H3 => ∃ x y, σ = [some (.ref p), some (.ref nd), some (.ref q), x, y] ∧ Same (upd H1 q2 (.lst (ys2.map V.str))) H3) ⟨none, none, rfl, Same.refl _⟩ (fun i σ H3 ⟨_, _, _, s3⟩ => ⟨SqL.of (s3 _ _ ((same_upd hq2) _ _ hq1)), SqL.of (s3 _ _ upd_same)⟩) ?_ ?_
    · rintro i x y t0 σ H3 hx hy ⟨x0, y0, rfl, s3⟩ ht0
      obtain ⟨t, ht, rfl⟩ := map_at hx
      obtain ⟨y, hy', rfl⟩ := map_at hy
      obtain ⟨v, hv, htup⟩ := named_at hnm ht hy'
      obtain ⟨m, rfl, hyw⟩ := titles_get S.td hv
      have s13 : Same H1 H3 := (same_upd hq2).trans s3
      have s14 : Same H1 (upd H3 t0 (.tup [.ref t, .str y])) := s13.new (s13.free ht0)
      have htu := s14 _ _ htup
      have hnu := s14 _ _ (s1 _ _ hn)
      refine ⟨t0, _, rfl, SqT.of upd_same, rfl, ?_⟩
      refine ⟨_, _, rfl, _, _, rfl, rfl, ?_⟩
      refine ⟨_, rfl, _, _, _, _, true, rfl, .ty "tuple", .base (.tup htu), kit_ty rfl, _, rfl, iteF ?_⟩
      refine ⟨_, rfl, t, _, rfl, .inr (SqT.of htu), rfl, _, rfl, iteN (congrArg (!·) (decide_eq_true rfl)) ?_⟩
      refine ⟨_, rfl, t, _, 0, .str y, rfl, rfl, SqT.of htu, rfl, _, _, _, _, true, rfl, .ty "str", .base (.str _), kit_ty rfl, _, rfl, iteF ?_⟩
      refine ⟨_, rfl, t, _, 1, .int m, rfl, rfl, SqT.of htu, rfl, _, _, _, _, true, rfl, .ty "int", .base (.int _), kit_ty rfl, _, rfl, iteF ?_⟩
      refine ⟨_, rfl, t, _, 1, .int m, rfl, rfl, SqT.of htu, rfl, _, _, _, _, false, rfl, .ty "bool", .base (.int _), kit_ty rfl, _, rfl, iteF ?_⟩
      refine ⟨_, rfl, _, rfl, _, rfl, _, rfl, nd, .int m, rfl, ?_, (by show 2 ≤ sizeLine; decide), fun t2 ht2 => ?_⟩
      · rw [← hv]
        exact DGet.k (k := Sum.inr y) hnu
      refine ⟨.tuple [.str y, .int m], .tuple [.str y, .int m], .tup (SqT.of ((same_upd ht2) _ _ htu)) (.cons (.str _) (.cons (.int _) .nil)), .tup (SqT.of upd_same) (.cons (.str _) (.cons (.int _) .nil)), shaped_two hyw, shaped_two hyw, _, rfl, iteN (by simp [PyData.eqv, PyData.eqvAll]) ?_⟩
      have s5 := (s3.new (o := .tup [.ref t, .str y]) (s3.free ht0))
      exact ⟨_, _, rfl, s5.new (s5.free ht2)⟩
    · rintro σ H3 ⟨x, y, rfl, s3⟩
      have s13 : Same H1 H3 := (same_upd hq2).trans s3
      refine ⟨_, rfl, .inl ⟨rfl, _, SqL.of (s13 _ _ hq1)⟩, (by show 2 ≤ sizeLine; decide), fun t ht => ⟨q, _, _, rfl, rfl, (same_upd ht) _ _ (s13 _ _ hq1), ?_, ?_⟩⟩
      · rw [List.length_map]
        exact small1000 (by omega)
      · have s15 := s1.trans s13
        exact kq _ ((s15.new (s15.free ht)).new hq)
end
end Z
namespace Z
open PySem PySem.Spec PyProof.Rows L2
theorem ShelfAt.but {K : PySem.W.Frag} {mg : Str → Option Value} {T : Top K mg} {H H' : Hp} {p pm dk ds dt : Addr} {ks : List (Int × Addr × List Int)} {ss : List (Int × V)} {n : Int} {kt : List (Key × V)} (S : ShelfAt T H p pm dk ds dt ks ss n kt) {l : List Addr}
    (b : But l H H') (h : ∀ x ∈ [p, pm, dk, ds, dt], x ∉ l) (ht : ∀ x ∈ l, ∀ xs, H x ≠ some (.tup xs)) : ShelfAt T H' p pm dk ds dt ks ss n kt := by
  obtain ⟨dx, pp, ho⟩ := S.ob
  obtain ⟨dm, hm⟩ := S.mm.ob
  refine ⟨⟨dx, pp, b _ _ ho (h _ (by simp))⟩, ⟨⟨dm, b _ _ hm (h _ (by simp))⟩, b _ _ S.mm.hk (h _ (by simp)), b _ _ S.mm.hs (h _ (by simp)), fun k hk => b _ _ (S.mm.ht k hk) fun m => ht _ m _ (S.mm.ht k hk), S.mm.ne⟩, b _ _ S.tt (h _ (by simp)), S.td, S.nk, S.ns⟩
theorem ShelfAt.made {K : PySem.W.Frag} {mg : Str → Option Value} {T : Top K mg} {H H' : Hp} {p pm dk ds dt : Addr} {ks ks' : List (Int × Addr × List Int)} {ss ss' : List (Int × V)} {n n' : Int} {kt : List (Key × V)} (S : ShelfAt T H p pm dk ds dt ks ss n kt)
    (b : But [pm, dk, ds] H H') (np : p ≠ pm) (M : MakesAt T.c_Makes H' pm dk ds ks' ss' n') : ShelfAt T H' p pm dk ds dt ks' ss' n' kt := by
  obtain ⟨dx, pp, ho⟩ := S.ob
  obtain ⟨dm, hm⟩ := S.mm.ob
  refine ⟨⟨dx, pp, b _ _ ho ?_⟩, M, b _ _ S.tt ?_, S.td, S.nk, S.ns⟩
  · simp only [List.mem_cons, List.not_mem_nil, or_false, not_or]
    exact ⟨np, ne_of ho S.mm.hk (by intro z; cases z), ne_of ho S.mm.hs (by intro z; cases z)⟩
  · simp only [List.mem_cons, List.not_mem_nil, or_false, not_or]
    exact ⟨ne_of S.tt hm (by intro z; cases z), S.nk, S.ns⟩
/-- the objects of a shelf stand -/
theorem ShelfAt.stands {K : PySem.W.Frag} {mg : Str → Option Value} {T : Top K mg} {H : Hp} {p pm dk ds dt : Addr} {ks : List (Int × Addr × List Int)} {ss : List (Int × V)} {n : Int} {kt : List (Key × V)} (S : ShelfAt T H p pm dk ds dt ks ss n kt) : ∀ x ∈ [p, pm, dk, ds, dt], H x ≠ none ∧ ∀ xs, H x ≠ some (.tup xs) := by
  obtain ⟨dx, pp, ho⟩ := S.ob
  obtain ⟨dm, hm⟩ := S.mm.ob
  intro x hx
  simp only [List.mem_cons, List.not_mem_nil, or_false] at hx
  rcases hx with rfl | rfl | rfl | rfl | rfl
  · rw [ho]; exact ⟨by simp, by intro xs z; cases z⟩
  · rw [hm]; exact ⟨by simp, by intro xs z; cases z⟩
  · rw [S.mm.hk]; exact ⟨by simp, by intro xs z; cases z⟩
  · rw [S.mm.hs]; exact ⟨by simp, by intro xs z; cases z⟩
  · rw [S.tt]; exact ⟨by simp, by intro xs z; cases z⟩
/-- all that the loop knows -/
structure L71 {K : PySem.W.Frag} {mg : Str → Option Value} (T : Top K mg) (H0 H : Hp) (p pm dk ds dt p2 pm2 dk2 ds2 dt2 nd q s t2 u2 : Addr) (ks : List (Int × Addr × List Int)) (ss : List (Int × V)) (n : Int) (xs : List V) (ws : List Str) (kt kn : List (Key × V)) : Prop where
  s0 : Same H0 H
  a : ShelfAt T H p pm dk ds dt ks ss n kt
  b : ShelfAt T H p2 pm2 dk2 ds2 dt2 [(0, t2, [])] [(0, .ref u2)] 1 []
  hn : H nd = some (.dK kn)
  hq : H q = some (.lst (ws.map V.str))
  hs : H s = some (.lst xs)
  d1 : nd ∉ [p, pm, dk, ds, dt]
  d3 : nd ∉ [p2, pm2, dk2, ds2, dt2]
  d2 : dt ∉ [p2, pm2, dk2, ds2, dt2]
  f1 : H0 nd = none
  f2 : H0 dt = none
section
variable {K : PySem.W.Frag} {mg : Str → Option Value} {T : Top K mg} {H0 H H' : Hp} {p pm dk ds dt p2 pm2 dk2 ds2 dt2 nd q s t2 u2 : Addr} {ks : List (Int × Addr × List Int)} {ss : List (Int × V)} {n : Int} {xs : List V} {ws : List Str} {kt kn kt' : List (Key × V)}
theorem L71.same (L : L71 T H0 H p pm dk ds dt p2 pm2 dk2 ds2 dt2 nd q s t2 u2 ks ss n xs ws kt kn) (e : Same H H') : L71 T H0 H' p pm dk ds dt p2 pm2 dk2 ds2 dt2 nd q s t2 u2 ks ss n xs ws kt kn :=
  ⟨L.s0.trans e, L.a.same e, L.b.same e, e _ _ L.hn, e _ _ L.hq, e _ _ L.hs, L.d1, L.d3, L.d2, L.f1, L.f2⟩
theorem same_but {H0 H H' : Hp} {x : Addr} (s : Same H0 H) (b : But [x] H H') (h : H0 x = none) : Same H0 H' := fun c o e => b c o (s c o e) (by
  simp only [List.mem_cons, List.not_mem_nil, or_false]
  exact ne_of_none e h)
theorem L71.due (L : L71 T H0 H p pm dk ds dt p2 pm2 dk2 ds2 dt2 nd q s t2 u2 ks ss n xs ws kt kn) (e : But [nd] H H') (hn : H' nd = some (.dK kt')) : L71 T H0 H' p pm dk ds dt p2 pm2 dk2 ds2 dt2 nd q s t2 u2 ks ss n xs ws kt kt' := by
  have o : ∀ x ∈ [nd], ∀ xs, H x ≠ some (.tup xs) := fun x hx xs => by
    obtain rfl : x = nd := by simpa using hx
    rw [L.hn]
    intro z
    cases z
  refine ⟨same_but L.s0 e L.f1, L.a.but e (fun x hx m => ?_) o, L.b.but e (fun x hx m => ?_) o, hn, e _ _ L.hq ?_, e _ _ L.hs ?_, L.d1, L.d3, L.d2, L.f1, L.f2⟩
  · obtain rfl : x = nd := by simpa using m
    exact L.d1 hx
  · obtain rfl : x = nd := by simpa using m
    exact L.d3 hx
  · simp only [List.mem_cons, List.not_mem_nil, or_false]
    exact ne_of L.hq L.hn (by intro z; cases z)
  · simp only [List.mem_cons, List.not_mem_nil, or_false]
    exact ne_of L.hs L.hn (by intro z; cases z)
theorem L71.ans (L : L71 T H0 H p pm dk ds dt p2 pm2 dk2 ds2 dt2 nd q s t2 u2 ks ss n xs ws kt kn) (e : But [dt] H H') (S : ShelfAt T H' p pm dk ds dt ks ss n kt') : L71 T H0 H' p pm dk ds dt p2 pm2 dk2 ds2 dt2 nd q s t2 u2 ks ss n xs ws kt' kn := by
  have o : ∀ x ∈ [dt], ∀ xs, H x ≠ some (.tup xs) := fun x hx xs => by
    obtain rfl : x = dt := by simpa using hx
    rw [L.a.tt]
    intro z
    cases z
  refine ⟨same_but L.s0 e L.f2, S, L.b.but e (fun x hx m => ?_) o, e _ _ L.hn ?_, e _ _ L.hq ?_, e _ _ L.hs ?_, L.d1, L.d3, L.d2, L.f1, L.f2⟩
  · obtain rfl : x = dt := by simpa using m
    exact L.d2 hx
  · simp only [List.mem_cons, List.not_mem_nil, or_false]
    exact fun z => L.d1 (by simp [z])
  · simp only [List.mem_cons, List.not_mem_nil, or_false]
    exact ne_of L.hq L.a.tt (by intro z; cases z)
  · simp only [List.mem_cons, List.not_mem_nil, or_false]
    exact ne_of L.hs L.a.tt (by intro z; cases z)
/-- what may be asked of a value -/
def ValV (K : PySem.W.Frag) (H : Hp) (v : V) : Prop := WordV K H v ∧ (∃ t b, TyX K H v t ∧ PySem.W.kitOne K t (.type "bool") = some b) ∧ (flatB v = true ∨ ∃ a, v = .ref a)
theorem ValV.but {v : V} {l : List Addr} (h : ValV K H v) (b : But l H H') (n : ∀ a, v = .ref a → a ∉ l) : ValV K H' v := by
  obtain ⟨h1, ⟨t, k, h2, h3⟩, h4⟩ := h
  have m : ∀ {t}, TyX K H v t → TyX K H' v t := fun x => tyX_but x fun a o e ho => b a o ho (n a e)
  refine ⟨?_, ⟨t, k, m h2, h3⟩, h4⟩
  rcases h1 with h1 | ⟨h5, t', h6, h7⟩
  · exact .inl h1
  · exact .inr ⟨h5, t', m h6, h7⟩
theorem valV_str {z : Str} (h : z.length ≤ sizeLine) : ValV K H (.str z) := ⟨.inl ⟨z, rfl, h⟩, ⟨_, _, .base (.str z), kit_ty rfl⟩, .inl rfl⟩
theorem res71_val {inK : Bool} {way : Int} {wv : V} {k : Int} (td : Titles kt) (h : ValV K H wv) : (flatB (res71 inK kt way wv k).2.1 = true ∨ ∃ r, (res71 inK kt way wv k).2.1 = .ref r) ∧ ∃ t b, TyX K H (res71 inK kt way wv k).2.1 t ∧ PySem.W.kitOne K t (.type "bool") = some b := by
  have a1 : ∀ i : Int, (flatB (V.int i) = true ∨ ∃ r, V.int i = .ref r) ∧ ∃ t b, TyX K H (V.int i) t ∧ PySem.W.kitOne K t (.type "bool") = some b := fun i => ⟨.inl rfl, _, _, .base (.int i), kit_ty rfl⟩
  have a2 : (flatB V.non = true ∨ ∃ r, V.non = .ref r) ∧ ∃ t b, TyX K H V.non t ∧ PySem.W.kitOne K t (.type "bool") = some b := ⟨.inl rfl, _, _, .base .non, kit_ty rfl⟩
  unfold res71
  split
  · split
    · split
      · exact a2
      · exact a1 k
    · split
      · exact ⟨h.2.2, h.2.1⟩
      · rename_i v e
        split
        · obtain ⟨i, rfl, _⟩ := titles_get td e
          exact a1 i
        · exact a2
  · split
    · exact a2
    · exact ⟨h.2.2, h.2.1⟩
theorem res71_len {inK : Bool} {way : Int} {wv : V} {k : Int} : (res71 inK kt way wv k).2.2.length ≤ kt.length + 1 := by
  unfold res71
  split
  · split
    · split
      · exact putK_le
      · exact Nat.le_succ _
    · split
      · exact Nat.le_succ _
      · split
        · exact Nat.le_succ _
        · exact Nat.le_trans (by unfold dropK; exact List.length_filter_le _ _) (Nat.le_succ _)
  · split
    · exact Nat.le_succ _
    · exact Nat.le_succ _
end
def nums (m : Nat) : List Int := (List.range (m + 1)).map fun (i : Nat) => (i : Int)
theorem nums_succ (m : Nat) : nums (m + 1) = nums m ++ [((m + 1 : Nat) : Int)] := by
  unfold nums
  rw [List.range_succ, List.map_append]
  rfl
theorem mem_nums {m : Nat} {k : Int} : k ∈ nums m ↔ 0 ≤ k ∧ k ≤ m := by
  unfold nums
  rw [List.mem_map]
  constructor
  · rintro ⟨a, ha, rfl⟩
    have := List.mem_range.mp ha
    omega
  · rintro ⟨h1, h2⟩
    exact ⟨k.toNat, List.mem_range.mpr (by omega), Int.toNat_of_nonneg h1⟩
theorem nums_up (m : Nat) : (nums m).Pairwise (· ≤ ·) := by
  unfold nums
  rw [List.pairwise_map]
  exact (List.pairwise_lt_range (n := m + 1)).imp fun h => by omega
theorem at_mem {α : Type} {xs : List α} {i : Int} (h0 : 0 ≤ i) (h1 : i < xs.length) : ∃ x, atI xs i = some x ∧ x ∈ xs := by
  obtain ⟨n, rfl⟩ := Int.eq_ofNat_of_zero_le h0
  have hn : n < xs.length := by exact_mod_cast h1
  refine ⟨xs[n], ?_, List.getElem_mem hn⟩
  unfold atI ixN
  rw [if_pos (by omega), if_pos (by exact_mod_cast hn), Int.toNat_natCast]
  show xs[n]? = _
  rw [List.getElem?_eq_getElem hn]
theorem if_nx {c : Bool} {A B : TS} {D : Ends} {σ : L2.St} {H : Hp} (R : L2.St → Hp → Prop) (rest : ∀ σ H, R σ H → D.nx σ H) (h1 : (∀ σ H, R σ H → D.nx σ H) → c = true → A D σ H) (h2 : (∀ σ H, R σ H → D.nx σ H) → c = false → B D σ H) : if c = true then A D σ H else B D σ H := by
  cases c with
  | true => exact iteT (h1 rest rfl)
  | false => exact iteF (h2 rest rfl)
theorem new_same {H H' : Hp} {p dx : Addr} {o o' : HO} (hp : H p = none) (hd : H dx = none) (b : But [p] (upd (upd H dx o) p o') H') : Same H H' := fun c u e => b c u (by rw [upd_ne (ne_of_none e hp), upd_ne (ne_of_none e hd)]; exact e) (by
  simp only [List.mem_cons, List.not_mem_nil, or_false]
  exact ne_of_none e hp)
theorem isWord_len {z : Str} (h : isWord z = true) : z.length ≤ 12 := by
  obtain ⟨_, h2⟩ := Bool.and_eq_true_iff.mp h
  exact of_decide_eq_true (Bool.and_eq_true_iff.mp h2).1
theorem cut_mem {xs : List V} {lo hi : Option Int} {x : V} (h : x ∈ cutV xs lo hi) : x ∈ xs := List.mem_of_mem_drop (List.mem_of_mem_take h)
theorem cut_len {xs : List V} : (cutV xs (some 2) (some 60)).length ≤ 58 := by
  unfold cutV
  rw [List.length_take, List.length_drop, show (some (2 : Int)) = some ((2 : Nat) : Int) from rfl, show (some (60 : Int)) = some ((60 : Nat) : Int) from rfl, HT.sIx_nat, HT.sIx_nat]
  omega
section
variable {P : Program} {w : World} {K : PySem.W.Frag} {mg : Str → Option Value} {base : Heap}
def spLaw (K : PySem.W.Frag) : Sp := fun vs H Q _ => ∃ (l : Addr) (ns : List Int), vs = [.ref l] ∧ SqL K H l (ns.map V.int) ∧ ns.length ≤ 1000 ∧ ∀ H', Q (.bl true) H'
theorem ok_law (T : Top K mg) : FnOk P w K mg base CX0 8 T.f_law T.d_law ["_law_script"] (spLaw K) := by
  refine T.F_law.ok sc_law (fun vs H Q E h => ?_) (fun cdv A outer s H vs Q E hr h => ?_)
  · obtain ⟨l, ns, rfl, _⟩ := h
    rfl
  · obtain ⟨l, ns, rfl, hl, hlen, kq⟩ := h
    refine ⟨_, (pss_cons (ps_set (i := 1) sc_law.nd rfl (by first | exact Or.inl rfl | exact Or.inr rfl) (pe_make0 T.K_Shelf (ok_Shelf_init T) (hr.mono (by decide)) rfl T.g_Shelf T.b_Shelf_init .nil pass0))
      (pss_cons (ps_set (i := 2) sc_law.nd rfl (by first | exact Or.inl rfl | exact Or.inr rfl) (pe_make0 T.K_Shelf (ok_Shelf_init T) (hr.mono (by decide)) rfl T.g_Shelf T.b_Shelf_init .nil pass0))
      (pss_cons (ps_set (i := 3) sc_law.nd rfl (by first | exact Or.inl rfl | exact Or.inr rfl) (pe_op op_mod (pe_call (ok_lw_cell_at T) (hr.mono (by decide)) (by rfl) T.m_lw_cell_at T.F_lw_cell_at.kp T.b_lw_cell_at .nil pass0 (pa_cons (pv 0) (pa_cons pe_int pa_nil))) pe_int))
      (pss_cons (ps_for PassesOwn.never rfl (pi_range1 (by rfl) T.z_range (pa_cons (pv 3) pa_nil)) (pg_name (i := 4) sc_law.nd rfl (by first | exact Or.inl rfl | exact Or.inr rfl))
      (pss_one (ps_expr (pe_meth (pe_fld (pv 1) rfl) T.C_Makes T.M_Makes_made (ok_Makes_made T) (hr.mono (by decide)) T.b_Makes_made .nil pass0 (pa_cons (pe_lst (pa_cons pe_int pa_nil)) (pa_cons (pe_call0 (ok_no_table T) (hr.mono (by decide)) (by rfl) T.m_no_table T.F_no_table.kp T.b_no_table .nil pass0) pa_nil))))))
      (pss_cons (ps_set (i := 5) sc_law.nd rfl (by first | exact Or.inl rfl | exact Or.inr rfl) (pe_call (ok_lw_words T) (hr.mono (by decide)) (by rfl) T.m_lw_words T.F_lw_words.kp T.b_lw_words .nil pass0 (pa_cons (pe_call (ok_lw_cell_at T) (hr.mono (by decide)) (by rfl) T.m_lw_cell_at T.F_lw_cell_at.kp T.b_lw_cell_at .nil pass0 (pa_cons (pv 0) (pa_cons pe_int pa_nil))) pa_nil)))
      (pss_cons (ps_set (i := 6) sc_law.nd rfl (by first | exact Or.inl rfl | exact Or.inr rfl) pe_dnewK)
      (pss_cons (ps_for PassesOwn.never rfl (pi_list (pe_slice sl_list (pv 0) (po_some pe_int) (po_some pe_int))) (pg_name (i := 7) sc_law.nd rfl (by first | exact Or.inl rfl | exact Or.inr rfl))
      (pss_cons (ps_set (i := 8) sc_law.nd rfl (by first | exact Or.inl rfl | exact Or.inr rfl) (pe_ix ix_list (pe_lst (pa_cons pe_int (pa_cons pe_int (pa_cons pe_int (pa_cons pe_int (pa_cons pe_int pa_nil)))))) (pe_op op_mod (pv 7) pe_int) (fun _ _ => rfl)))
      (pss_cons (ps_set (i := 9) sc_law.nd rfl (by first | exact Or.inl rfl | exact Or.inr rfl) (pe_ix ix_list (pv 5) (pe_op op_mod (pe_op op_fdiv (pv 7) pe_int) pe_int) (fun _ _ => rfl)))
      (pss_cons (ps_set (i := 10) sc_law.nd rfl (by first | exact Or.inl rfl | exact Or.inr rfl) (pe_cmpR op_gt (pe_op op_mod (pe_op op_fdiv (pv 7) pe_int) pe_int) pe_int (nomark _)))
      (pss_cons (ps_if (pt_not (pt_val (pv 10))) (pss_one (ps_set (i := 9) sc_law.nd rfl (by first | exact Or.inl rfl | exact Or.inr rfl) (pe_call (ok_lw_odd T) (hr.mono (by decide)) (by rfl) T.m_lw_odd T.F_lw_odd.kp T.b_lw_odd .nil pass0 (pa_cons (pe_op op_fdiv (pv 7) pe_int) pa_nil)))) pss_nil)
      (pss_cons (ps_set (i := 11) sc_law.nd rfl (by first | exact Or.inl rfl | exact Or.inr rfl) (pe_op op_mod (pe_op op_fdiv (pv 7) pe_int) (pe_op op_add (pv 3) pe_int)))
      (pss_cons (ps_set (i := 12) sc_law.nd rfl (by first | exact Or.inl rfl | exact Or.inr rfl) (pe_call (ok_lw_due T) (hr.mono (by decide)) (by rfl) T.m_lw_due T.F_lw_due.kp T.b_lw_due .nil pass0 (pa_cons (pv 6) (pa_cons (pv 3) (pa_cons (pv 8) (pa_cons (pv 9) (pa_cons (pv 10) (pa_cons (pv 11) pa_nil))))))))
      (pss_cons (ps_if (PW.pt (pw_or (pt_not (pt_val (pe_call (ok_lw_same T) (hr.mono (by decide)) (by rfl) T.m_lw_same T.F_lw_same.kp T.b_lw_same .nil pass0 (pa_cons (pe_call (ok_lw_answer T) (hr.mono (by decide)) (by rfl) T.m_lw_answer T.F_lw_answer.kp T.b_lw_answer .nil pass0 (pa_cons (pv 1) (pa_cons (pv 8) (pa_cons (pv 9) (pa_cons (pv 11) pa_nil))))) (pa_cons (pv 12) pa_nil))))) (pw_or1 (pt_not (pt_val (pe_call (ok_lw_named T) (hr.mono (by decide)) (by rfl) T.m_lw_named T.F_lw_named.kp T.b_lw_named .nil pass0 (pa_cons (pv 1) (pa_cons (pv 6) pa_nil)))))))) (pss_one (ps_ret pe_bl)) pss_nil)
      (pss_one (ps_if (pt_cmpR (op_neD hr.units) (pe_meth0 (pe_fld (pv 1) rfl) T.C_Makes T.M_Makes_numbers (ok_Makes_numbers T) (hr.mono (by decide)) T.b_Makes_numbers .nil pass0) (pe_listRg rfl (by rfl) T.z_list (prg_1 (by rfl) T.z_range (pe_op op_add (pv 3) pe_int))) (nomark _)) (pss_one (ps_ret pe_bl)) pss_nil))))))))))
      (pss_cons (ps_set (i := 12) sc_law.nd rfl (by first | exact Or.inl rfl | exact Or.inr rfl) (pe_lst (pa_cons pe_str (pa_cons (pe_ix ix_list (pv 5) pe_int (fun _ _ => rfl)) pa_nil))))
      (pss_one (ps_ret (pe_and (pe_call (ok_lw_named T) (hr.mono (by decide)) (by rfl) T.m_lw_named T.F_lw_named.kp T.b_lw_named .nil pass0 (pa_cons (pv 1) (pa_cons (pv 6) pa_nil))) (pe_and (pe_cmpR (op_eqV hr.units) (pe_meth0 (pv 2) T.C_Shelf T.M_Shelf_named (ok_Shelf_named T) (hr.mono (by decide)) T.b_Shelf_named .nil pass0) (pe_lst pa_nil) (nomark _)) (pe_one (pe_cmpR (op_eqV hr.units) (pe_call (ok_lw_answer T) (hr.mono (by decide)) (by rfl) T.m_lw_answer T.F_lw_answer.kp T.b_lw_answer .nil pass0 (pa_cons (pv 2) (pa_cons pe_int (pa_cons (pe_ix ix_list (pv 5) pe_int (fun _ _ => rfl)) (pa_cons pe_int pa_nil))))) (pv 12) (nomark _))))))))))))))), ?_⟩
    -- two shelves
    intro p dx hp hdx ne
    refine ⟨p, dx, rfl, upd_same, fun H1 pm dk ds dt t u B1 hpm hdk hds hdt ht S1 => ⟨rfl, ?_⟩⟩
    have s1 : Same H H1 := new_same hp hdx B1
    have fr : ∀ {a : Addr}, upd (upd H dx (.own p)) p (.ins T.c_Shelf dx []) a = none → H a = none ∧ p ≠ a := fun {a} e => by
      have n1 : p ≠ a := fun z => by rw [← z, upd_same] at e; cases e
      have n2 : dx ≠ a := fun z => by rw [← z, upd_ne ne, upd_same] at e; cases e
      rw [upd_ne (Ne.symm n1), upd_ne (Ne.symm n2)] at e
      exact ⟨e, n1⟩
    have npm : p ≠ pm := (fr hpm).2
    have hdt0 : H dt = none := (fr hdt).1
    intro p2 dx2 hp2 hdx2 ne2
    refine ⟨p2, dx2, rfl, upd_same, fun H2 pm2 dk2 ds2 dt2 t2 u2 B2 hpm2 hdk2 hds2 hdt2 ht2 S2 => ⟨rfl, ?_⟩⟩
    have s2 : Same H1 H2 := new_same hp2 hdx2 B2
    have fr2 : ∀ {a : Addr}, upd (upd H1 dx2 (.own p2)) p2 (.ins T.c_Shelf dx2 []) a = none → H1 a = none := fun {a} e => by
      have n1 : p2 ≠ a := fun z => by rw [← z, upd_same] at e; cases e
      have n2 : dx2 ≠ a := fun z => by rw [← z, upd_ne ne2, upd_same] at e; cases e
      rw [upd_ne (Ne.symm n1), upd_ne (Ne.symm n2)] at e
      exact e
    have far : ∀ x ∈ [p2, pm2, dk2, ds2, dt2], x ∉ [p, pm, dk, ds, dt] := fun x hx m => by
      have e : H1 x = none := by
        simp only [List.mem_cons, List.not_mem_nil, or_false] at hx
        rcases hx with rfl | rfl | rfl | rfl | rfl
        · exact hp2
        · exact fr2 hpm2
        · exact fr2 hdk2
        · exact fr2 hds2
        · exact fr2 hdt2
      exact (S1.stands x m).1 e
    have s02 : Same H H2 := s1.trans s2
    -- the makes
    refine ⟨_, rfl, l, 0, ns, rfl, by decide, s02.seq hl, fun x => ⟨_, _, rfl, rfl, (show (0 : Int) < 5 by decide), ?_⟩⟩
    have m0 := Int.emod_nonneg x (by decide : (5 : Int) ≠ 0)
    have m1 := Int.emod_lt_of_pos x (show (0 : Int) < 5 by decide)
    refine ⟨_, rfl, x % 5, rfl, by omega, by omega, ?_⟩
    refine for_range (fun i σ H3 => ∃ y ks ss, σ = [some (.ref l), some (.ref p), some (.ref p2), some (.int (x % 5)), y, none, none, none, none, none, none, none, none] ∧ Same H H3 ∧ ShelfAt T H3 p pm dk ds dt ks ss ((i : Int) + 1) [] ∧ ks.map (·.1) = nums i ∧ ss.map (·.1) = nums i ∧
      ShelfAt T H3 p2 pm2 dk2 ds2 dt2 [(0, t2, [])] [(0, .ref u2)] 1 []) ⟨none, _, _, rfl, s02, S1.same s2, rfl, rfl, S2⟩ ?_ ?_
    · rintro i σ H3 hi ⟨y, ks, ss, rfl, s3, S3, k3, v3, Z3⟩
      have hi' : i < 5 := by omega
      obtain ⟨dx3, pp3, ho3⟩ := S3.ob
      obtain ⟨dm3, hm3⟩ := S3.mm.ob
      refine ⟨_, rfl, p, T.c_Shelf, dx3, _, _, rfl, ho3, T.C_Shelf, T.n_Shelf_makes, fl_Shelf_makes, pm, dm3, _, rfl, hm3, fl_Makes_m_made, (by show 1 ≤ sizeLine; decide), fun a ha => ⟨rfl, fun H4 e u4 s4 he hu4 h4e h4u => ?_⟩⟩
      have s34 : Same H3 H4 := (same_upd ha).trans s4
      have M4 := S3.mm.same s34
      have ll : ks.length = i + 1 := by have := congrArg List.length k3; rw [List.length_map] at this; rw [this]; unfold nums; rw [List.length_map, List.length_range]
      have lv : ss.length = i + 1 := by have := congrArg List.length v3; rw [List.length_map] at this; rw [this]; unfold nums; rw [List.length_map, List.length_range]
      have no : ¬ ((i : Int) + 1) ∈ nums i := fun m => by have := mem_nums.mp m; omega
      refine ⟨pm, dk, ds, ks, ss, (i : Int) + 1, a, [0], .ref u4, rfl, M4, SqL.of (s4 _ _ upd_same), by simp, by simp, ⟨0, 0, fun x hx => .inl (by simpa using hx)⟩, fun x hx => ?_, by omega, by omega, by rw [k3]; exact no, by rw [v3]; exact no, fun H5 t so hso hmem b5 ht5 M5 => ?_⟩
      · rw [k3]
        obtain rfl : x = 0 := by simpa using hx
        exact mem_nums.mpr ⟨by omega, by omega⟩
      have st := (S3.same s34).stands
      refine ⟨_, _, _, rfl, ?_, (S3.same s34).made b5 npm M5, ?_, ?_, (Z3.same s34).but b5 (fun x hx m => far x hx (by simp only [List.mem_cons, List.not_mem_nil, or_false] at m ⊢; rcases m with h | h | h <;> simp [h])) fun x hx => (st x (by simp only [List.mem_cons, List.not_mem_nil, or_false] at hx ⊢; rcases hx with h | h | h <;> simp [h])).2⟩
      · intro c o e
        refine b5 _ _ (s34 _ _ (s3 _ _ e)) ?_
        simp only [List.mem_cons, List.not_mem_nil, or_false, not_or]
        exact ⟨ne_of_none e (fr hpm).1, ne_of_none e (fr hdk).1, ne_of_none e (fr hds).1⟩
      · rw [List.map_append, k3, nums_succ]
        simp
      · rw [List.map_append, v3, nums_succ]
        simp
    rintro σ H3 ⟨y, ks, ss, rfl, s3, S3, k3, v3, Z3⟩
    generalize hn' : ((((x % 5).toNat : Nat) : Int) + 1) = n at S3
    have hm : ((x % 5).toNat : Int) = x % 5 := Int.toNat_of_nonneg m0
    -- the words, the names
    refine ⟨_, rfl, l, 1, ns, rfl, by decide, s3.seq hl, fun c0 => ⟨c0, rfl, fun H4 q ws s4 hq hq4 hwl hww => ?_⟩⟩
    intro nd hnd
    have s34 : Same H (upd H4 nd (.dK [])) := (s3.trans s4).new ((s3.trans s4).free hnd)
    refine ⟨_, rfl, _, rfl, _, rfl, l, _, rfl, s34.seq hl, fun sl hsl => ⟨sl, rfl, ⟨_, SqL.of upd_same⟩, ?_⟩⟩
    have nq : nd ≠ q := fun z => by rw [z, hq4] at hnd; cases hnd
    have nsl : nd ≠ sl := fun z => by rw [← z, upd_same] at hsl; cases hsl
    have L0 : L71 T H (upd (upd H4 nd (.dK [])) sl (.lst (cutV (ns.map V.int) (some 2) (some 60)))) p pm dk ds dt p2 pm2 dk2 ds2 dt2 nd q sl t2 u2 ks ss n (cutV (ns.map V.int) (some 2) (some 60)) ws [] [] := by
      have e1 : Same H4 (upd H4 nd (.dK [])) := same_upd hnd
      have e2 : Same H4 (upd (upd H4 nd (.dK [])) sl (.lst (cutV (ns.map V.int) (some 2) (some 60)))) := e1.new (e1.free hsl)
      refine ⟨(s3.trans s4).trans e2, (S3.same s4).same e2, (Z3.same s4).same e2, by rw [upd_ne nsl, upd_same], e2 _ _ hq4, upd_same, fun m => ((S3.same s4).stands _ m).1 hnd, fun m => ((Z3.same s4).stands _ m).1 hnd, fun m => far _ m (by simp), (s3.trans s4).free hnd, hdt0⟩
    refine for_list (fun i σ H5 => ∃ x7 x8 x9 x10 x11 x12 kt, σ = [some (.ref l), some (.ref p), some (.ref p2), some (.int (x % 5)), y, some (.ref q), some (.ref nd), x7, x8, x9, x10, x11, x12] ∧ L71 T H H5 p pm dk ds dt p2 pm2 dk2 ds2 dt2 nd q sl t2 u2 ks ss n (cutV (ns.map V.int) (some 2) (some 60)) ws kt kt ∧ kt.length ≤ i)
      ⟨none, none, none, none, none, none, [], rfl, L0, Nat.le_refl 0⟩ (fun i σ H5 _ ⟨_, _, _, _, _, _, _, _, L, _⟩ => SqL.of L.hs) ?_ ?_
    · rintro i cv σ H5 hi ⟨x7, x8, x9, x10, x11, x12, kt, rfl, L, hkt⟩
      obtain ⟨c, hc, rfl⟩ := List.mem_map.mp (cut_mem (List.mem_of_getElem? hi))
      have hi58 : i < 58 := Nat.lt_of_lt_of_le (List.getElem?_eq_some_iff.mp hi).1 cut_len
      have cm : ∀ z : Int, 0 ≤ z % 5 ∧ z % 5 < 5 := fun z => ⟨Int.emod_nonneg z (by decide), Int.emod_lt_of_pos z (by decide)⟩
      obtain ⟨wy, hwy, hwm⟩ := at_mem (xs := [V.int 0, .int 0, .int 0, .int 1, .int 2]) (cm c).1 (by show c % 5 < ((5 : Nat) : Int); have := (cm c).2; omega)
      obtain ⟨way, rfl⟩ : ∃ w, wy = V.int w := by
        simp only [List.mem_cons, List.not_mem_nil, or_false] at hwm
        rcases hwm with h | h | h | h | h <;> exact ⟨_, h⟩
      refine ⟨(by show 5 ≤ sizeLine; decide), fun wl hwl0 => ⟨_, rfl, _, _, rfl, rfl, (show (0 : Int) < 5 by decide), wl, _, _, _, rfl, rfl, SqL.of upd_same, hwy, ?_⟩⟩
      have L1 := L.same (same_upd (o := .lst [V.int 0, .int 0, .int 0, .int 1, .int 2]) hwl0)
      obtain ⟨wd, hwd, hwdm⟩ := at_mem (xs := ws.map V.str) (cm (c / 5)).1 (by rw [List.length_map, hwl]; have := (cm (c / 5)).2; omega)
      obtain ⟨wz, hwz, rfl⟩ := List.mem_map.mp hwdm
      have hwzw := hww wz hwz
      refine ⟨_, rfl, _, rfl, _, _, rfl, rfl, ⟨by show (0:Int) < 5; decide, by show (5:Int) < 1073741824; decide⟩, _, _, rfl, rfl, (show (0 : Int) < 5 by decide), q, _, _, _, rfl, rfl, SqL.of L1.hq, hwd, ?_⟩
      refine ⟨_, rfl, _, _, rfl, rfl, ⟨by show (0:Int) < 25; decide, by show (25:Int) < 1073741824; decide⟩, _, _, rfl, rfl, (show (0 : Int) < 5 by decide), _, _, rfl, rfl, ?_⟩
      refine ⟨_, rfl, _, rfl, ?_⟩
      refine if_nx (fun σ' H' => ∃ wv, σ' = [some (.ref l), some (.ref p), some (.ref p2), some (.int (x % 5)), y, some (.ref q), some (.ref nd), some (.int c), some (.int way), some wv, some (.bl (wordB wv)), x11, x12] ∧
        L71 T H H' p pm dk ds dt p2 pm2 dk2 ds2 dt2 nd q sl t2 u2 ks ss n (cutV (ns.map V.int) (some 2) (some 60)) ws kt kt ∧ ValV K H' wv ∧ ∀ a, wv = .ref a → a ≠ nd ∧ a ≠ dt) ?_ (fun k e => ?_) fun k e => ?_
      rotate_left
      · have e' : decide (0 < c / 25 % 5) = false := by simpa using e
        refine ⟨_, rfl, _, _, rfl, rfl, ⟨by show (0:Int) < 125; decide, by show (125:Int) < 1073741824; decide⟩, _, rfl, fun H6 wv s6 ov fv => ?_⟩
        refine k _ _ ⟨wv, by rw [ov.1, ← e']; rfl, L1.same s6, ov.2, fun a ha => ?_⟩
        have := fv a ha
        exact ⟨fun z => (by rw [z, L1.hn] at this; cases this), fun z => (by rw [z, L1.a.tt] at this; cases this)⟩
      · have e' : decide (0 < c / 25 % 5) = true := by simpa using e
        exact k _ _ ⟨.str wz, by rw [show wordB (.str wz) = true from hwzw, ← e']; rfl, L1, valV_str (Nat.le_trans (isWord_len hwzw) (by decide)), fun a ha => by cases ha⟩
      rintro σ6 H6 ⟨wv, rfl, L6, hv6, fv⟩
      refine ⟨_, rfl, _, _, rfl, rfl, ⟨by show (0:Int) < 125; decide, by show (125:Int) < 1073741824; decide⟩, _, rfl, _, _, rfl, rfl, _, _, rfl, rfl, (show (0 : Int) < x % 5 + 2 by omega), ?_⟩
      refine ⟨_, rfl, _, rfl, _, rfl, _, rfl, _, rfl, _, rfl, nd, kt, x % 5, way, wv, _, rfl, L6.hn, by omega, fun H7 dd b7 hdd hdd7 hn7 => ?_⟩
      have j0 := Int.emod_nonneg (c / 125) (show x % 5 + 2 ≠ 0 by omega)
      have L7 := L6.due b7 hn7
      have hv7 := hv6.but b7 fun a ha m => (fv a ha).1 (by simpa using m)
      refine ⟨_, rfl, _, rfl, _, rfl, _, rfl, p, pm, dk, ds, dt, ks, ss, n, kt, wv, way, _, rfl, L7.a, hv7.1, by omega, fun H8 q8 inK hI b8 hq8 hq88 S8 => ?_⟩
      have hinK : inK = decide (c / 125 % (x % 5 + 2) ≤ x % 5) := by
        rw [Bool.eq_iff_iff, hI, decide_eq_true_iff, k3, mem_nums, hm]
        exact ⟨fun z => z.2, fun z => ⟨j0, z⟩⟩
      subst hinK
      have L8 := L7.ans b8 S8
      have ddt : dd ≠ dt := ne_of hdd7 L7.a.tt (by intro z; cases z)
      have hv8 := hv7.but b8 fun a ha m => (fv a ha).2 (by simpa using m)
      obtain ⟨rv1, rv2⟩ := res71_val (inK := decide (c / 125 % (x % 5 + 2) ≤ x % 5)) (way := way) (k := c / 125 % (x % 5 + 2)) L7.a.td hv8
      refine ⟨_, rfl, q8, dd, _, _, rfl, hq88, b8 _ _ hdd7 (by simpa using ddt), rv1, rv2, _, rfl, iteF ?_⟩
      have rl := res71_len (inK := decide (c / 125 % (x % 5 + 2) ≤ x % 5)) (kt := kt) (way := way) (wv := wv) (k := c / 125 % (x % 5 + 2))
      refine ⟨_, rfl, _, rfl, p, pm, dk, ds, dt, ks, ss, n, _, nd, rfl, L8.a, L8.hn, by omega, fun H9 s9 => ⟨_, rfl, iteF ?_⟩⟩
      have L9 := L8.same s9
      obtain ⟨dx9, pp9, ho9⟩ := L9.a.ob
      obtain ⟨dm9, hm9⟩ := L9.a.mm.ob
      have kl : ks.length = (x % 5).toNat + 1 := by have := congrArg List.length k3; rw [List.length_map] at this; rw [this]; unfold nums; rw [List.length_map, List.length_range]
      refine ⟨_, rfl, p, T.c_Shelf, dx9, _, _, rfl, ho9, T.C_Shelf, T.n_Shelf_makes, fl_Shelf_makes, pm, dm9, _, rfl, hm9, fl_Makes_m_numbers, pm, dk, ds, ks, ss, n, rfl, L9.a.mm, by omega, fun ys r hyp hys hr => ?_⟩
      have ey : ys = nums (x % 5).toNat := sortedI_one hys (nums_up _) (by rw [← k3]; exact hyp)
      subst ey
      have L10 := L9.same (same_upd (o := .lst ((nums (x % 5).toNat).map V.int)) hr)
      refine ⟨_, rfl, _, _, rfl, rfl, _, rfl, RgOk.of_le (by decide) (by omega) (by decide) (by omega), fun r2 hr2 => ?_⟩
      have L11 := L10.same (same_upd (o := .lst (rgV 0 (x % 5 + 1))) hr2)
      have er : rgV 0 (x % 5 + 1) = (nums (x % 5).toNat).map V.int := by
        unfold rgV nums
        rw [List.map_map, show (x % 5 + 1 - 0).toNat = (x % 5).toNat + 1 from by omega]
        refine List.map_congr_left fun a _ => ?_
        show V.int (0 + (a : Int)) = V.int (a : Int)
        rw [Int.zero_add]
      have dp : ∀ {H : Hp} (a : List Int), DpAll K H (a.map V.int) (a.map PyData.int) := fun a => by
        induction a with
        | nil => exact .nil
        | cons x r ih => exact .cons (.int x) ih
      refine ⟨.list ((nums (x % 5).toNat).map PyData.int), .list ((nums (x % 5).toNat).map PyData.int), .lst (SqL.of ((same_upd hr2) _ _ upd_same)) (dp _), .lst (SqL.of (by rw [upd_same, er])) (dp _), PySem.W.ke_shaped_ints _, PySem.W.ke_shaped_ints _, _, rfl, iteN ?_ ?_⟩
      · rw [PySem.SeqAt.eqv_refl]
        · rfl
        · have := PySem.W.ke_shaped_ints (nums (x % 5).toNat)
          exact (Bool.and_eq_true_iff.mp this).1
      · exact ⟨_, _, _, _, _, _, _, rfl, L11, by omega⟩
    · rintro σ H5 ⟨x7, x8, x9, x10, x11, x12, kt, rfl, L, hkt⟩
      have hk58 : kt.length ≤ 58 := Nat.le_trans hkt cut_len
      obtain ⟨w0, hw0, hwm0⟩ := at_mem (xs := ws.map V.str) (show (0 : Int) ≤ 0 by decide) (by rw [List.length_map, hwl]; decide)
      obtain ⟨z0, hz0, rfl⟩ := List.mem_map.mp hwm0
      have hz0w := hww z0 hz0
      refine ⟨_, rfl, q, _, 0, _, rfl, rfl, SqL.of L.hq, hw0, (by show 2 ≤ sizeLine; decide), fun d hd => ?_⟩
      have L1 := L.same (same_upd (o := .lst [.str (Str.ofString "no name"), .str z0]) hd)
      refine ⟨_, rfl, _, rfl, p, pm, dk, ds, dt, ks, ss, n, kt, nd, rfl, L1.a, L1.hn, by omega, fun H6 s6 => ⟨_, rfl, iteT ?_⟩⟩
      have L2 := L1.same s6
      obtain ⟨dx6, pp6, ho6⟩ := L2.b.ob
      refine ⟨_, rfl, p2, dx6, _, rfl, ho6, fl_Shelf_m_named, p2, pm2, dk2, ds2, dt2, _, _, _, [], [], rfl, L2.b, rfl, by decide, fun H7 q7 ts ys s7 hq7 hts hp hs hq77 nm => ⟨(by show 0 ≤ sizeLine; decide), fun e he => ?_⟩⟩
      have ey : ys = [] := List.Perm.eq_nil hp
      subst ey
      have et : ts = [] := List.length_eq_zero_iff.mp (by have := Paired.length nm; simpa using this)
      subst et
      have L3 := (L2.same s7).same (same_upd (o := .lst []) he)
      refine ⟨1, by decide, .inl ⟨q7, e, [], [], rfl, rfl, SqL.of ((same_upd he) _ _ hq77), SqL.of upd_same, .nil⟩, _, rfl, iteT ?_⟩
      have hd3 : (upd H7 e (.lst [])) d = some (.lst [.str (Str.ofString "no name"), .str z0]) := (same_upd he) _ _ (s7 _ _ (s6 _ _ upd_same))
      have ddt : d ≠ dt2 := ne_of hd3 L3.b.tt (by intro z; cases z)
      refine ⟨_, rfl, _, rfl, q, _, 0, _, rfl, rfl, SqL.of L3.hq, hw0, p2, pm2, dk2, ds2, dt2, _, _, _, [], .str z0, 1, 0, rfl, L3.b, .inl ⟨z0, rfl, Nat.le_trans (isWord_len hz0w) (by decide)⟩, by decide, fun H8 q8 inK hI b8 hq8 hq88 S8 => ?_⟩
      have er : res71 inK [] 1 (.str z0) 0 = (Str.ofString "no name", V.str z0, []) := by
        unfold res71
        rw [if_pos (show wordB (.str z0) = true from hz0w), if_neg (by decide)]
        rfl
      rw [er] at hq88
      exact ⟨_, rfl, 1, by decide, .inl ⟨q8, d, _, _, rfl, rfl, SqL.of hq88, SqL.of (b8 _ _ hd3 (by simpa using ddt)), .cons (.inl ⟨rfl, rfl⟩) (.cons (.inl ⟨rfl, rfl⟩) .nil)⟩, kq _⟩
end
end Z
namespace Z
open PySem PySem.Spec PyProof.Rows L2
theorem all_mk {l : PySem.W.OpenLaw} {w : World} {K : PySem.W.Frag} {h : Heap} {mg : Str → Option Value} {fa : Addr} (X : K.In h) (G : h.Ns mainGlobals mg) (hfa : mg "law" = some (.ref fa)) {c_TableError : Addr} {c_BadWord : Addr} {c_NoMake : Addr} {nm_NoMake : Str} {qn_NoMake : Str} {N_NoMake : Addr} {bs_NoMake : List Value} {bm_NoMake : List Value} {sn_NoMake : List Str} {sub_NoMake : List Value} {ab_NoMake : Bool} {col_NoMake : Option Bool} {dd_NoMake : Option Addr} {k0_NoMake : Option Value} {k1_NoMake : Option Value} {k2_NoMake : Option Value} {k3_NoMake : Option Value} {k5_NoMake : Option Value} {c_NoName : Addr} {nm_NoName : Str} {qn_NoName : Str} {N_NoName : Addr} {bs_NoName : List Value} {bm_NoName : List Value} {sn_NoName : List Str} {sub_NoName : List Value} {ab_NoName : Bool} {col_NoName : Option Bool} {dd_NoName : Option Addr} {k0_NoName : Option Value} {k1_NoName : Option Value} {k2_NoName : Option Value} {k3_NoName : Option Value} {k5_NoName : Option Value} {c_Pages : Addr} {c_Makes : Addr} {c_Shelf : Addr} {f_NoMake_init : Addr} {od_NoMake_init : Option Addr} {an_NoMake_init : Option Addr} {sl_NoMake_init : Array (Option Value)} {oc_NoMake_init : Value} {kV_NoMake_init : Value} {dc_NoMake_init : Value} {pm_NoMake_init : Value} {cd_NoMake_init : Value} {ct_NoMake_init : Value} {f_NoName_init : Addr} {od_NoName_init : Option Addr} {an_NoName_init : Option Addr} {sl_NoName_init : Array (Option Value)} {oc_NoName_init : Value} {kV_NoName_init : Value} {dc_NoName_init : Value} {pm_NoName_init : Value} {cd_NoName_init : Value} {ct_NoName_init : Value} {f_Pages_init : Addr} {od_Pages_init : Option Addr} {an_Pages_init : Option Addr} {sl_Pages_init : Array (Option Value)} {oc_Pages_init : Value} {kV_Pages_init : Value} {dc_Pages_init : Value} {pm_Pages_init : Value} {cd_Pages_init : Value} {ct_Pages_init : Value} {f_is_word : Addr} {od_is_word : Option Addr} {an_is_word : Option Addr} {sl_is_word : Array (Option Value)} {oc_is_word : Value} {kV_is_word : Value} {dc_is_word : Value} {pm_is_word : Value} {cd_is_word : Value} {ct_is_word : Value} {f_no_table : Addr} {od_no_table : Option Addr} {an_no_table : Option Addr} {sl_no_table : Array (Option Value)} {oc_no_table : Value} {kV_no_table : Value} {dc_no_table : Value} {pm_no_table : Value} {cd_no_table : Value} {ct_no_table : Value} {f_Makes_init : Addr} {od_Makes_init : Option Addr} {an_Makes_init : Option Addr} {sl_Makes_init : Array (Option Value)} {oc_Makes_init : Value} {kV_Makes_init : Value} {dc_Makes_init : Value} {pm_Makes_init : Value} {cd_Makes_init : Value} {ct_Makes_init : Value} {f_Makes_need : Addr} {od_Makes_need : Option Addr} {an_Makes_need : Option Addr} {sl_Makes_need : Array (Option Value)} {oc_Makes_need : Value} {kV_Makes_need : Value} {dc_Makes_need : Value} {pm_Makes_need : Value} {cd_Makes_need : Value} {ct_Makes_need : Value} {f_Makes_made : Addr} {od_Makes_made : Option Addr} {an_Makes_made : Option Addr} {sl_Makes_made : Array (Option Value)} {oc_Makes_made : Value} {kV_Makes_made : Value} {dc_Makes_made : Value} {pm_Makes_made : Value} {cd_Makes_made : Value} {ct_Makes_made : Value} {f_Makes_elders : Addr} {od_Makes_elders : Option Addr} {an_Makes_elders : Option Addr} {sl_Makes_elders : Array (Option Value)} {oc_Makes_elders : Value} {kV_Makes_elders : Value} {dc_Makes_elders : Value} {pm_Makes_elders : Value} {cd_Makes_elders : Value} {ct_Makes_elders : Value} {f_Makes_numbers : Addr} {od_Makes_numbers : Option Addr} {an_Makes_numbers : Option Addr} {sl_Makes_numbers : Array (Option Value)} {oc_Makes_numbers : Value} {kV_Makes_numbers : Value} {dc_Makes_numbers : Value} {pm_Makes_numbers : Value} {cd_Makes_numbers : Value} {ct_Makes_numbers : Value} {f_Shelf_init : Addr} {od_Shelf_init : Option Addr} {an_Shelf_init : Option Addr} {sl_Shelf_init : Array (Option Value)} {oc_Shelf_init : Value} {kV_Shelf_init : Value} {dc_Shelf_init : Value} {pm_Shelf_init : Value} {cd_Shelf_init : Value} {ct_Shelf_init : Value} {f_Shelf_give : Addr} {od_Shelf_give : Option Addr} {an_Shelf_give : Option Addr} {sl_Shelf_give : Array (Option Value)} {oc_Shelf_give : Value} {kV_Shelf_give : Value} {dc_Shelf_give : Value} {pm_Shelf_give : Value} {cd_Shelf_give : Value} {ct_Shelf_give : Value} {f_Shelf_made_by : Addr} {od_Shelf_made_by : Option Addr} {an_Shelf_made_by : Option Addr} {sl_Shelf_made_by : Array (Option Value)} {oc_Shelf_made_by : Value} {kV_Shelf_made_by : Value} {dc_Shelf_made_by : Value} {pm_Shelf_made_by : Value} {cd_Shelf_made_by : Value} {ct_Shelf_made_by : Value} {f_Shelf_forget : Addr} {od_Shelf_forget : Option Addr} {an_Shelf_forget : Option Addr} {sl_Shelf_forget : Array (Option Value)} {oc_Shelf_forget : Value} {kV_Shelf_forget : Value} {dc_Shelf_forget : Value} {pm_Shelf_forget : Value} {cd_Shelf_forget : Value} {ct_Shelf_forget : Value} {f_Shelf_named : Addr} {od_Shelf_named : Option Addr} {an_Shelf_named : Option Addr} {sl_Shelf_named : Array (Option Value)} {oc_Shelf_named : Value} {kV_Shelf_named : Value} {dc_Shelf_named : Value} {pm_Shelf_named : Value} {cd_Shelf_named : Value} {ct_Shelf_named : Value} {f_lw_cell_at : Addr} {od_lw_cell_at : Option Addr} {an_lw_cell_at : Option Addr} {sl_lw_cell_at : Array (Option Value)} {oc_lw_cell_at : Value} {kV_lw_cell_at : Value} {dc_lw_cell_at : Value} {pm_lw_cell_at : Value} {cd_lw_cell_at : Value} {ct_lw_cell_at : Value} {f_lw_mix : Addr} {od_lw_mix : Option Addr} {an_lw_mix : Option Addr} {sl_lw_mix : Array (Option Value)} {oc_lw_mix : Value} {kV_lw_mix : Value} {dc_lw_mix : Value} {pm_lw_mix : Value} {cd_lw_mix : Value} {ct_lw_mix : Value} {f_lw_words : Addr} {od_lw_words : Option Addr} {an_lw_words : Option Addr} {sl_lw_words : Array (Option Value)} {oc_lw_words : Value} {kV_lw_words : Value} {dc_lw_words : Value} {pm_lw_words : Value} {cd_lw_words : Value} {ct_lw_words : Value} {f_lw_odd : Addr} {od_lw_odd : Option Addr} {an_lw_odd : Option Addr} {sl_lw_odd : Array (Option Value)} {oc_lw_odd : Value} {kV_lw_odd : Value} {dc_lw_odd : Value} {pm_lw_odd : Value} {cd_lw_odd : Value} {ct_lw_odd : Value} {f_lw_called : Addr} {od_lw_called : Option Addr} {an_lw_called : Option Addr} {sl_lw_called : Array (Option Value)} {oc_lw_called : Value} {kV_lw_called : Value} {dc_lw_called : Value} {pm_lw_called : Value} {cd_lw_called : Value} {ct_lw_called : Value} {f_lw_answer : Addr} {od_lw_answer : Option Addr} {an_lw_answer : Option Addr} {sl_lw_answer : Array (Option Value)} {oc_lw_answer : Value} {kV_lw_answer : Value} {dc_lw_answer : Value} {pm_lw_answer : Value} {cd_lw_answer : Value} {ct_lw_answer : Value} {f_lw_due : Addr} {od_lw_due : Option Addr} {an_lw_due : Option Addr} {sl_lw_due : Array (Option Value)} {oc_lw_due : Value} {kV_lw_due : Value} {dc_lw_due : Value} {pm_lw_due : Value} {cd_lw_due : Value} {ct_lw_due : Value} {f_lw_same : Addr} {od_lw_same : Option Addr} {an_lw_same : Option Addr} {sl_lw_same : Array (Option Value)} {oc_lw_same : Value} {kV_lw_same : Value} {dc_lw_same : Value} {pm_lw_same : Value} {cd_lw_same : Value} {ct_lw_same : Value} {f_lw_named : Addr} {od_lw_named : Option Addr} {an_lw_named : Option Addr} {sl_lw_named : Array (Option Value)} {oc_lw_named : Value} {kV_lw_named : Value} {dc_lw_named : Value} {pm_lw_named : Value} {cd_lw_named : Value} {ct_lw_named : Value} {f_law : Addr} {od_law : Option Addr} {an_law : Option Addr} {sl_law : Array (Option Value)} {oc_law : Value} {kV_law : Value} {dc_law : Value} {pm_law : Value} {cd_law : Value} {ct_law : Value} {tk_LETTERS : Tok}
    (aC_TableError : PySem.W.nsIn K mainGlobals "TableError" = some (some (.ref c_TableError)))
    (q_TableError : PySem.W.keepIn K (.ref c_TableError) = true)
    (e_TableError : PySem.W.subIn K (.ref c_TableError) (.type "BaseException") = some true)
    (y_TableError : PySem.W.typeIn K (.ref c_TableError) = some (.type "type"))
    (x_TableError : PySem.W.excIn K c_TableError [.type "ValueError", .type "Exception", .type "BaseException", .type "object"] "ValueError.__new__" = true)
    (aC_BadWord : PySem.W.nsIn K mainGlobals "BadWord" = some (some (.ref c_BadWord)))
    (q_BadWord : PySem.W.keepIn K (.ref c_BadWord) = true)
    (e_BadWord : PySem.W.subIn K (.ref c_BadWord) (.type "BaseException") = some true)
    (y_BadWord : PySem.W.typeIn K (.ref c_BadWord) = some (.type "type"))
    (x_BadWord : PySem.W.excIn K c_BadWord [.type "ValueError", .type "Exception", .type "BaseException", .type "object"] "ValueError.__new__" = true)
    (aC_NoMake : PySem.W.nsIn K mainGlobals "NoMake" = some (some (.ref c_NoMake)))
    (q_NoMake : PySem.W.keepIn K (.ref c_NoMake) = true)
    (e_NoMake : PySem.W.subIn K (.ref c_NoMake) (.type "BaseException") = some true)
    (y_NoMake : PySem.W.typeIn K (.ref c_NoMake) = some (.type "type"))
    (i_NoMake : PySem.W.findIn K (.ref c_NoMake) "__init__" = some (some (.ref f_NoMake_init)))
    (t_NoMake : PySem.W.typeIn K (.ref f_NoMake_init) = some (.type "function"))
    (l_NoMake : K.lookup c_NoMake = some (excClassObj nm_NoMake qn_NoMake c_NoMake N_NoMake bs_NoMake bm_NoMake true sn_NoMake sub_NoMake ab_NoMake col_NoMake dd_NoMake k0_NoMake k1_NoMake k2_NoMake k3_NoMake k5_NoMake "ValueError.__new__"))
    (r_NoMake : PySem.HandSPX.refsVE bm_NoMake = true)
    (sa_NoMake : PySem.W.findIn K (.ref c_NoMake) "__setattr__" = some (some (.builtin "object.__setattr__")))
    (n_NoMake_number : PySem.W.findIn K (.ref c_NoMake) "number" = some none)
    (aC_NoName : PySem.W.nsIn K mainGlobals "NoName" = some (some (.ref c_NoName)))
    (q_NoName : PySem.W.keepIn K (.ref c_NoName) = true)
    (e_NoName : PySem.W.subIn K (.ref c_NoName) (.type "BaseException") = some true)
    (y_NoName : PySem.W.typeIn K (.ref c_NoName) = some (.type "type"))
    (i_NoName : PySem.W.findIn K (.ref c_NoName) "__init__" = some (some (.ref f_NoName_init)))
    (t_NoName : PySem.W.typeIn K (.ref f_NoName_init) = some (.type "function"))
    (l_NoName : K.lookup c_NoName = some (excClassObj nm_NoName qn_NoName c_NoName N_NoName bs_NoName bm_NoName true sn_NoName sub_NoName ab_NoName col_NoName dd_NoName k0_NoName k1_NoName k2_NoName k3_NoName k5_NoName "ValueError.__new__"))
    (r_NoName : PySem.HandSPX.refsVE bm_NoName = true)
    (sa_NoName : PySem.W.findIn K (.ref c_NoName) "__setattr__" = some (some (.builtin "object.__setattr__")))
    (n_NoName_word : PySem.W.findIn K (.ref c_NoName) "word" = some none)
    (aC_Pages : PySem.W.nsIn K mainGlobals "Pages" = some (some (.ref c_Pages)))
    (pg_Pages : PySem.W.plainGet K c_Pages Str.empty = true)
    (hd_Pages : PySem.W.hasDictIn K c_Pages = true)
    (po_Pages : PySem.W.plainOver K c_Pages = true)
    (sa_Pages : PySem.W.findIn K (.ref c_Pages) "__setattr__" = some (some (.builtin "object.__setattr__")))
    (mk_Pages : PySem.W.makesIn K c_Pages = true)
    (kc_Pages : PySem.W.keepIn K (.ref c_Pages) = true)
    (ai_Pages : PySem.W.findIn K (.ref c_Pages) "__init__" = some (some (.ref f_Pages_init)))
    (ii_Pages : PySem.W.isFn K (.ref f_Pages_init) = true)
    (n_Pages_standing : PySem.W.findIn K (.ref c_Pages) "standing" = some none)
    (n_Pages_known : PySem.W.findIn K (.ref c_Pages) "known" = some none)
    (n_Pages_coming : PySem.W.findIn K (.ref c_Pages) "coming" = some none)
    (aC_Makes : PySem.W.nsIn K mainGlobals "Makes" = some (some (.ref c_Makes)))
    (pg_Makes : PySem.W.plainGet K c_Makes Str.empty = true)
    (hd_Makes : PySem.W.hasDictIn K c_Makes = true)
    (po_Makes : PySem.W.plainOver K c_Makes = true)
    (sa_Makes : PySem.W.findIn K (.ref c_Makes) "__setattr__" = some (some (.builtin "object.__setattr__")))
    (mk_Makes : PySem.W.makesIn K c_Makes = true)
    (kc_Makes : PySem.W.keepIn K (.ref c_Makes) = true)
    (ai_Makes : PySem.W.findIn K (.ref c_Makes) "__init__" = some (some (.ref f_Makes_init)))
    (ii_Makes : PySem.W.isFn K (.ref f_Makes_init) = true)
    (am_Makes_need : PySem.W.findIn K (.ref c_Makes) "need" = some (some (.ref f_Makes_need)))
    (im_Makes_need : PySem.W.isFn K (.ref f_Makes_need) = true)
    (am_Makes_made : PySem.W.findIn K (.ref c_Makes) "made" = some (some (.ref f_Makes_made)))
    (im_Makes_made : PySem.W.isFn K (.ref f_Makes_made) = true)
    (am_Makes_elders : PySem.W.findIn K (.ref c_Makes) "elders" = some (some (.ref f_Makes_elders)))
    (im_Makes_elders : PySem.W.isFn K (.ref f_Makes_elders) = true)
    (am_Makes_numbers : PySem.W.findIn K (.ref c_Makes) "numbers" = some (some (.ref f_Makes_numbers)))
    (im_Makes_numbers : PySem.W.isFn K (.ref f_Makes_numbers) = true)
    (n_Makes_kin : PySem.W.findIn K (.ref c_Makes) "kin" = some none)
    (n_Makes_states : PySem.W.findIn K (.ref c_Makes) "states" = some none)
    (n_Makes_count : PySem.W.findIn K (.ref c_Makes) "count" = some none)
    (aC_Shelf : PySem.W.nsIn K mainGlobals "Shelf" = some (some (.ref c_Shelf)))
    (pg_Shelf : PySem.W.plainGet K c_Shelf Str.empty = true)
    (hd_Shelf : PySem.W.hasDictIn K c_Shelf = true)
    (po_Shelf : PySem.W.plainOver K c_Shelf = true)
    (sa_Shelf : PySem.W.findIn K (.ref c_Shelf) "__setattr__" = some (some (.builtin "object.__setattr__")))
    (mk_Shelf : PySem.W.makesIn K c_Shelf = true)
    (kc_Shelf : PySem.W.keepIn K (.ref c_Shelf) = true)
    (ai_Shelf : PySem.W.findIn K (.ref c_Shelf) "__init__" = some (some (.ref f_Shelf_init)))
    (ii_Shelf : PySem.W.isFn K (.ref f_Shelf_init) = true)
    (am_Shelf_give : PySem.W.findIn K (.ref c_Shelf) "give" = some (some (.ref f_Shelf_give)))
    (im_Shelf_give : PySem.W.isFn K (.ref f_Shelf_give) = true)
    (am_Shelf_made_by : PySem.W.findIn K (.ref c_Shelf) "made_by" = some (some (.ref f_Shelf_made_by)))
    (im_Shelf_made_by : PySem.W.isFn K (.ref f_Shelf_made_by) = true)
    (am_Shelf_forget : PySem.W.findIn K (.ref c_Shelf) "forget" = some (some (.ref f_Shelf_forget)))
    (im_Shelf_forget : PySem.W.isFn K (.ref f_Shelf_forget) = true)
    (am_Shelf_named : PySem.W.findIn K (.ref c_Shelf) "named" = some (some (.ref f_Shelf_named)))
    (im_Shelf_named : PySem.W.isFn K (.ref f_Shelf_named) = true)
    (n_Shelf_pages : PySem.W.findIn K (.ref c_Shelf) "pages" = some none)
    (n_Shelf_makes : PySem.W.findIn K (.ref c_Shelf) "makes" = some none)
    (n_Shelf_titles : PySem.W.findIn K (.ref c_Shelf) "titles" = some none)
    (l_NoMake_init : K.lookup f_NoMake_init = some ⟨oc_NoMake_init, od_NoMake_init, .func (PySem.W.fnOf "__init__" "NoMake.__init__" (defArgs s_NoMake_init) (defBody s_NoMake_init) (defScope s_NoMake_init) .none kV_NoMake_init dc_NoMake_init pm_NoMake_init an_NoMake_init cd_NoMake_init ct_NoMake_init), sl_NoMake_init⟩)
    (cc_NoMake_init : PySem.W.codeIn K cd_NoMake_init "NoMake.__init__" = true)
    (kp_NoMake_init : PySem.W.keepIn K (.ref f_NoMake_init) = true)
    (l_NoName_init : K.lookup f_NoName_init = some ⟨oc_NoName_init, od_NoName_init, .func (PySem.W.fnOf "__init__" "NoName.__init__" (defArgs s_NoName_init) (defBody s_NoName_init) (defScope s_NoName_init) .none kV_NoName_init dc_NoName_init pm_NoName_init an_NoName_init cd_NoName_init ct_NoName_init), sl_NoName_init⟩)
    (cc_NoName_init : PySem.W.codeIn K cd_NoName_init "NoName.__init__" = true)
    (kp_NoName_init : PySem.W.keepIn K (.ref f_NoName_init) = true)
    (l_Pages_init : K.lookup f_Pages_init = some ⟨oc_Pages_init, od_Pages_init, .func (PySem.W.fnOf "__init__" "Pages.__init__" (defArgs s_Pages_init) (defBody s_Pages_init) (defScope s_Pages_init) .none kV_Pages_init dc_Pages_init pm_Pages_init an_Pages_init cd_Pages_init ct_Pages_init), sl_Pages_init⟩)
    (cc_Pages_init : PySem.W.codeIn K cd_Pages_init "Pages.__init__" = true)
    (kp_Pages_init : PySem.W.keepIn K (.ref f_Pages_init) = true)
    (am_is_word : PySem.W.nsIn K mainGlobals "is_word" = some (some (.ref f_is_word)))
    (l_is_word : K.lookup f_is_word = some ⟨oc_is_word, od_is_word, .func (PySem.W.fnOf "is_word" "is_word" (defArgs s_is_word) (defBody s_is_word) (defScope s_is_word) .none kV_is_word dc_is_word pm_is_word an_is_word cd_is_word ct_is_word), sl_is_word⟩)
    (cc_is_word : PySem.W.codeIn K cd_is_word "is_word" = true)
    (kp_is_word : PySem.W.keepIn K (.ref f_is_word) = true)
    (am_no_table : PySem.W.nsIn K mainGlobals "no_table" = some (some (.ref f_no_table)))
    (l_no_table : K.lookup f_no_table = some ⟨oc_no_table, od_no_table, .func (PySem.W.fnOf "no_table" "no_table" (defArgs s_no_table) (defBody s_no_table) (defScope s_no_table) .none kV_no_table dc_no_table pm_no_table an_no_table cd_no_table ct_no_table), sl_no_table⟩)
    (cc_no_table : PySem.W.codeIn K cd_no_table "no_table" = true)
    (kp_no_table : PySem.W.keepIn K (.ref f_no_table) = true)
    (l_Makes_init : K.lookup f_Makes_init = some ⟨oc_Makes_init, od_Makes_init, .func (PySem.W.fnOf "__init__" "Makes.__init__" (defArgs s_Makes_init) (defBody s_Makes_init) (defScope s_Makes_init) .none kV_Makes_init dc_Makes_init pm_Makes_init an_Makes_init cd_Makes_init ct_Makes_init), sl_Makes_init⟩)
    (cc_Makes_init : PySem.W.codeIn K cd_Makes_init "Makes.__init__" = true)
    (kp_Makes_init : PySem.W.keepIn K (.ref f_Makes_init) = true)
    (l_Makes_need : K.lookup f_Makes_need = some ⟨oc_Makes_need, od_Makes_need, .func (PySem.W.fnOf "need" "Makes.need" (defArgs s_Makes_need) (defBody s_Makes_need) (defScope s_Makes_need) .none kV_Makes_need dc_Makes_need pm_Makes_need an_Makes_need cd_Makes_need ct_Makes_need), sl_Makes_need⟩)
    (cc_Makes_need : PySem.W.codeIn K cd_Makes_need "Makes.need" = true)
    (kp_Makes_need : PySem.W.keepIn K (.ref f_Makes_need) = true)
    (l_Makes_made : K.lookup f_Makes_made = some ⟨oc_Makes_made, od_Makes_made, .func (PySem.W.fnOf "made" "Makes.made" (defArgs s_Makes_made) (defBody s_Makes_made) (defScope s_Makes_made) .none kV_Makes_made dc_Makes_made pm_Makes_made an_Makes_made cd_Makes_made ct_Makes_made), sl_Makes_made⟩)
    (cc_Makes_made : PySem.W.codeIn K cd_Makes_made "Makes.made" = true)
    (kp_Makes_made : PySem.W.keepIn K (.ref f_Makes_made) = true)
    (l_Makes_elders : K.lookup f_Makes_elders = some ⟨oc_Makes_elders, od_Makes_elders, .func (PySem.W.fnOf "elders" "Makes.elders" (defArgs s_Makes_elders) (defBody s_Makes_elders) (defScope s_Makes_elders) .none kV_Makes_elders dc_Makes_elders pm_Makes_elders an_Makes_elders cd_Makes_elders ct_Makes_elders), sl_Makes_elders⟩)
    (cc_Makes_elders : PySem.W.codeIn K cd_Makes_elders "Makes.elders" = true)
    (kp_Makes_elders : PySem.W.keepIn K (.ref f_Makes_elders) = true)
    (l_Makes_numbers : K.lookup f_Makes_numbers = some ⟨oc_Makes_numbers, od_Makes_numbers, .func (PySem.W.fnOf "numbers" "Makes.numbers" (defArgs s_Makes_numbers) (defBody s_Makes_numbers) (defScope s_Makes_numbers) .none kV_Makes_numbers dc_Makes_numbers pm_Makes_numbers an_Makes_numbers cd_Makes_numbers ct_Makes_numbers), sl_Makes_numbers⟩)
    (cc_Makes_numbers : PySem.W.codeIn K cd_Makes_numbers "Makes.numbers" = true)
    (kp_Makes_numbers : PySem.W.keepIn K (.ref f_Makes_numbers) = true)
    (l_Shelf_init : K.lookup f_Shelf_init = some ⟨oc_Shelf_init, od_Shelf_init, .func (PySem.W.fnOf "__init__" "Shelf.__init__" (defArgs s_Shelf_init) (defBody s_Shelf_init) (defScope s_Shelf_init) .none kV_Shelf_init dc_Shelf_init pm_Shelf_init an_Shelf_init cd_Shelf_init ct_Shelf_init), sl_Shelf_init⟩)
    (cc_Shelf_init : PySem.W.codeIn K cd_Shelf_init "Shelf.__init__" = true)
    (kp_Shelf_init : PySem.W.keepIn K (.ref f_Shelf_init) = true)
    (l_Shelf_give : K.lookup f_Shelf_give = some ⟨oc_Shelf_give, od_Shelf_give, .func (PySem.W.fnOf "give" "Shelf.give" (defArgs s_Shelf_give) (defBody s_Shelf_give) (defScope s_Shelf_give) .none kV_Shelf_give dc_Shelf_give pm_Shelf_give an_Shelf_give cd_Shelf_give ct_Shelf_give), sl_Shelf_give⟩)
    (cc_Shelf_give : PySem.W.codeIn K cd_Shelf_give "Shelf.give" = true)
    (kp_Shelf_give : PySem.W.keepIn K (.ref f_Shelf_give) = true)
    (l_Shelf_made_by : K.lookup f_Shelf_made_by = some ⟨oc_Shelf_made_by, od_Shelf_made_by, .func (PySem.W.fnOf "made_by" "Shelf.made_by" (defArgs s_Shelf_made_by) (defBody s_Shelf_made_by) (defScope s_Shelf_made_by) .none kV_Shelf_made_by dc_Shelf_made_by pm_Shelf_made_by an_Shelf_made_by cd_Shelf_made_by ct_Shelf_made_by), sl_Shelf_made_by⟩)
    (cc_Shelf_made_by : PySem.W.codeIn K cd_Shelf_made_by "Shelf.made_by" = true)
    (kp_Shelf_made_by : PySem.W.keepIn K (.ref f_Shelf_made_by) = true)
    (l_Shelf_forget : K.lookup f_Shelf_forget = some ⟨oc_Shelf_forget, od_Shelf_forget, .func (PySem.W.fnOf "forget" "Shelf.forget" (defArgs s_Shelf_forget) (defBody s_Shelf_forget) (defScope s_Shelf_forget) .none kV_Shelf_forget dc_Shelf_forget pm_Shelf_forget an_Shelf_forget cd_Shelf_forget ct_Shelf_forget), sl_Shelf_forget⟩)
    (cc_Shelf_forget : PySem.W.codeIn K cd_Shelf_forget "Shelf.forget" = true)
    (kp_Shelf_forget : PySem.W.keepIn K (.ref f_Shelf_forget) = true)
    (l_Shelf_named : K.lookup f_Shelf_named = some ⟨oc_Shelf_named, od_Shelf_named, .func (PySem.W.fnOf "named" "Shelf.named" (defArgs s_Shelf_named) (defBody s_Shelf_named) (defScope s_Shelf_named) .none kV_Shelf_named dc_Shelf_named pm_Shelf_named an_Shelf_named cd_Shelf_named ct_Shelf_named), sl_Shelf_named⟩)
    (cc_Shelf_named : PySem.W.codeIn K cd_Shelf_named "Shelf.named" = true)
    (kp_Shelf_named : PySem.W.keepIn K (.ref f_Shelf_named) = true)
    (am_lw_cell_at : PySem.W.nsIn K mainGlobals "_law_cell_at" = some (some (.ref f_lw_cell_at)))
    (l_lw_cell_at : K.lookup f_lw_cell_at = some ⟨oc_lw_cell_at, od_lw_cell_at, .func (PySem.W.fnOf "_law_cell_at" "_law_cell_at" (defArgs s_lw_cell_at) (defBody s_lw_cell_at) (defScope s_lw_cell_at) .none kV_lw_cell_at dc_lw_cell_at pm_lw_cell_at an_lw_cell_at cd_lw_cell_at ct_lw_cell_at), sl_lw_cell_at⟩)
    (cc_lw_cell_at : PySem.W.codeIn K cd_lw_cell_at "_law_cell_at" = true)
    (kp_lw_cell_at : PySem.W.keepIn K (.ref f_lw_cell_at) = true)
    (am_lw_mix : PySem.W.nsIn K mainGlobals "_law_mix" = some (some (.ref f_lw_mix)))
    (l_lw_mix : K.lookup f_lw_mix = some ⟨oc_lw_mix, od_lw_mix, .func (PySem.W.fnOf "_law_mix" "_law_mix" (defArgs s_lw_mix) (defBody s_lw_mix) (defScope s_lw_mix) .none kV_lw_mix dc_lw_mix pm_lw_mix an_lw_mix cd_lw_mix ct_lw_mix), sl_lw_mix⟩)
    (cc_lw_mix : PySem.W.codeIn K cd_lw_mix "_law_mix" = true)
    (kp_lw_mix : PySem.W.keepIn K (.ref f_lw_mix) = true)
    (am_lw_words : PySem.W.nsIn K mainGlobals "_law_words" = some (some (.ref f_lw_words)))
    (l_lw_words : K.lookup f_lw_words = some ⟨oc_lw_words, od_lw_words, .func (PySem.W.fnOf "_law_words" "_law_words" (defArgs s_lw_words) (defBody s_lw_words) (defScope s_lw_words) .none kV_lw_words dc_lw_words pm_lw_words an_lw_words cd_lw_words ct_lw_words), sl_lw_words⟩)
    (cc_lw_words : PySem.W.codeIn K cd_lw_words "_law_words" = true)
    (kp_lw_words : PySem.W.keepIn K (.ref f_lw_words) = true)
    (am_lw_odd : PySem.W.nsIn K mainGlobals "_law_odd" = some (some (.ref f_lw_odd)))
    (l_lw_odd : K.lookup f_lw_odd = some ⟨oc_lw_odd, od_lw_odd, .func (PySem.W.fnOf "_law_odd" "_law_odd" (defArgs s_lw_odd) (defBody s_lw_odd) (defScope s_lw_odd) .none kV_lw_odd dc_lw_odd pm_lw_odd an_lw_odd cd_lw_odd ct_lw_odd), sl_lw_odd⟩)
    (cc_lw_odd : PySem.W.codeIn K cd_lw_odd "_law_odd" = true)
    (kp_lw_odd : PySem.W.keepIn K (.ref f_lw_odd) = true)
    (am_lw_called : PySem.W.nsIn K mainGlobals "_law_called" = some (some (.ref f_lw_called)))
    (l_lw_called : K.lookup f_lw_called = some ⟨oc_lw_called, od_lw_called, .func (PySem.W.fnOf "_law_called" "_law_called" (defArgs s_lw_called) (defBody s_lw_called) (defScope s_lw_called) .none kV_lw_called dc_lw_called pm_lw_called an_lw_called cd_lw_called ct_lw_called), sl_lw_called⟩)
    (cc_lw_called : PySem.W.codeIn K cd_lw_called "_law_called" = true)
    (kp_lw_called : PySem.W.keepIn K (.ref f_lw_called) = true)
    (am_lw_answer : PySem.W.nsIn K mainGlobals "_law_answer" = some (some (.ref f_lw_answer)))
    (l_lw_answer : K.lookup f_lw_answer = some ⟨oc_lw_answer, od_lw_answer, .func (PySem.W.fnOf "_law_answer" "_law_answer" (defArgs s_lw_answer) (defBody s_lw_answer) (defScope s_lw_answer) .none kV_lw_answer dc_lw_answer pm_lw_answer an_lw_answer cd_lw_answer ct_lw_answer), sl_lw_answer⟩)
    (cc_lw_answer : PySem.W.codeIn K cd_lw_answer "_law_answer" = true)
    (kp_lw_answer : PySem.W.keepIn K (.ref f_lw_answer) = true)
    (am_lw_due : PySem.W.nsIn K mainGlobals "_law_due" = some (some (.ref f_lw_due)))
    (l_lw_due : K.lookup f_lw_due = some ⟨oc_lw_due, od_lw_due, .func (PySem.W.fnOf "_law_due" "_law_due" (defArgs s_lw_due) (defBody s_lw_due) (defScope s_lw_due) .none kV_lw_due dc_lw_due pm_lw_due an_lw_due cd_lw_due ct_lw_due), sl_lw_due⟩)
    (cc_lw_due : PySem.W.codeIn K cd_lw_due "_law_due" = true)
    (kp_lw_due : PySem.W.keepIn K (.ref f_lw_due) = true)
    (am_lw_same : PySem.W.nsIn K mainGlobals "_law_same" = some (some (.ref f_lw_same)))
    (l_lw_same : K.lookup f_lw_same = some ⟨oc_lw_same, od_lw_same, .func (PySem.W.fnOf "_law_same" "_law_same" (defArgs s_lw_same) (defBody s_lw_same) (defScope s_lw_same) .none kV_lw_same dc_lw_same pm_lw_same an_lw_same cd_lw_same ct_lw_same), sl_lw_same⟩)
    (cc_lw_same : PySem.W.codeIn K cd_lw_same "_law_same" = true)
    (kp_lw_same : PySem.W.keepIn K (.ref f_lw_same) = true)
    (am_lw_named : PySem.W.nsIn K mainGlobals "_law_named" = some (some (.ref f_lw_named)))
    (l_lw_named : K.lookup f_lw_named = some ⟨oc_lw_named, od_lw_named, .func (PySem.W.fnOf "_law_named" "_law_named" (defArgs s_lw_named) (defBody s_lw_named) (defScope s_lw_named) .none kV_lw_named dc_lw_named pm_lw_named an_lw_named cd_lw_named ct_lw_named), sl_lw_named⟩)
    (cc_lw_named : PySem.W.codeIn K cd_lw_named "_law_named" = true)
    (kp_lw_named : PySem.W.keepIn K (.ref f_lw_named) = true)
    (am_law : PySem.W.nsIn K mainGlobals "law" = some (some (.ref f_law)))
    (l_law : K.lookup f_law = some ⟨oc_law, od_law, .func (PySem.W.fnOf "law" "law" (defArgs s_law) (defBody s_law) (defScope s_law) .none kV_law dc_law pm_law an_law cd_law ct_law), sl_law⟩)
    (cc_law : PySem.W.codeIn K cd_law "law" = true)
    (kp_law : PySem.W.keepIn K (.ref f_law) = true)
    (z_bool : PySem.W.nsIn K mainGlobals "bool" = some none)
    (z_int : PySem.W.nsIn K mainGlobals "int" = some none)
    (z_isinstance : PySem.W.nsIn K mainGlobals "isinstance" = some none)
    (z_len : PySem.W.nsIn K mainGlobals "len" = some none)
    (z_list : PySem.W.nsIn K mainGlobals "list" = some none)
    (z_max : PySem.W.nsIn K mainGlobals "max" = some none)
    (z_range : PySem.W.nsIn K mainGlobals "range" = some none)
    (z_set : PySem.W.nsIn K mainGlobals "set" = some none)
    (z_sorted : PySem.W.nsIn K mainGlobals "sorted" = some none)
    (z_str : PySem.W.nsIn K mainGlobals "str" = some none)
    (z_tuple : PySem.W.nsIn K mainGlobals "tuple" = some none)
    (z_zip : PySem.W.nsIn K mainGlobals "zip" = some none)
    (k_LETTERS : PySem.W.nsIn K mainGlobals "LETTERS" = some (some (.str "abcdefghijklmnopqrstuvwxyz" tk_LETTERS)))
    (xhn : PySem.W.specialIn K (.builtin "object.__class__") "__get__" = some (some (.builtin "getset_descriptor.__get__")))
    (xht : PySem.W.takesIn K (.builtin "object.__class__") = some true)
    (xga_NoName : PySem.W.findIn K (.ref c_NoName) "__getattribute__" = some (some (.builtin "BaseException.__getattribute__")))
    (xgg_NoName : PySem.W.findIn K (.ref c_NoName) "__getattr__" = some none)
    (xhd_NoName : PySem.W.hasDictIn K c_NoName = true)
    (xha_NoName : PySem.W.findIn K (.ref c_NoName) "__class__" = some (some (.builtin "object.__class__")))
    (xhm_NoName : PySem.W.mroIn K c_NoName (.type "object") = some true)
    (xs_NoName : PySem.W.subIn K (.ref c_NoName) (.ref c_TableError) = some true)
    (xga_NoMake : PySem.W.findIn K (.ref c_NoMake) "__getattribute__" = some (some (.builtin "BaseException.__getattribute__")))
    (xgg_NoMake : PySem.W.findIn K (.ref c_NoMake) "__getattr__" = some none)
    (xhd_NoMake : PySem.W.hasDictIn K c_NoMake = true)
    (xha_NoMake : PySem.W.findIn K (.ref c_NoMake) "__class__" = some (some (.builtin "object.__class__")))
    (xhm_NoMake : PySem.W.mroIn K c_NoMake (.type "object") = some true)
    (xs_NoMake : PySem.W.subIn K (.ref c_NoMake) (.ref c_TableError) = some true)
    (xga_BadWord : PySem.W.findIn K (.ref c_BadWord) "__getattribute__" = some (some (.builtin "BaseException.__getattribute__")))
    (xgg_BadWord : PySem.W.findIn K (.ref c_BadWord) "__getattr__" = some none)
    (xhd_BadWord : PySem.W.hasDictIn K c_BadWord = true)
    (xha_BadWord : PySem.W.findIn K (.ref c_BadWord) "__class__" = some (some (.builtin "object.__class__")))
    (xhm_BadWord : PySem.W.mroIn K c_BadWord (.type "object") = some true)
    (xs_BadWord : PySem.W.subIn K (.ref c_BadWord) (.ref c_TableError) = some true)
    (xhd_TableError : PySem.W.hasDictIn K c_TableError = true)
    (kn_NoMake_NoName : (Value.ref c_NoMake == Value.ref c_NoName) = false)
    (ks_NoMake_NoName : PySem.W.subIn K (.ref c_NoMake) (.ref c_NoName) = some false)
    (kn_BadWord_NoName : (Value.ref c_BadWord == Value.ref c_NoName) = false)
    (ks_BadWord_NoName : PySem.W.subIn K (.ref c_BadWord) (.ref c_NoName) = some false)
    (kn_BadWord_NoMake : (Value.ref c_BadWord == Value.ref c_NoMake) = false)
    (ks_BadWord_NoMake : PySem.W.subIn K (.ref c_BadWord) (.ref c_NoMake) = some false) :
    ∃ fd : FuncData, (∀ (s : Shared) (v : Value), BindsTo s fd ⟨[v], []⟩ [("_law_script", v)]) ∧ ∀ base : Heap, K.In base → base.Ns mainGlobals mg → FnOk l.prog w K mg base CX0 8 fa fd ["_law_script"] (spLaw K) := by
  have e := hfa.symm.trans (PySem.W.mg_of X G am_law)
  cases e
  let T : Top K mg := {
    c_TableError := c_TableError,
    c_BadWord := c_BadWord,
    c_NoMake := c_NoMake,
    c_NoName := c_NoName,
    c_Pages := c_Pages,
    c_Makes := c_Makes,
    c_Shelf := c_Shelf,
    f_NoMake_init := f_NoMake_init,
    d_NoMake_init := PySem.W.fnOf "__init__" "NoMake.__init__" (defArgs s_NoMake_init) (defBody s_NoMake_init) (defScope s_NoMake_init) .none kV_NoMake_init dc_NoMake_init pm_NoMake_init an_NoMake_init cd_NoMake_init ct_NoMake_init,
    f_NoName_init := f_NoName_init,
    d_NoName_init := PySem.W.fnOf "__init__" "NoName.__init__" (defArgs s_NoName_init) (defBody s_NoName_init) (defScope s_NoName_init) .none kV_NoName_init dc_NoName_init pm_NoName_init an_NoName_init cd_NoName_init ct_NoName_init,
    f_Pages_init := f_Pages_init,
    d_Pages_init := PySem.W.fnOf "__init__" "Pages.__init__" (defArgs s_Pages_init) (defBody s_Pages_init) (defScope s_Pages_init) .none kV_Pages_init dc_Pages_init pm_Pages_init an_Pages_init cd_Pages_init ct_Pages_init,
    f_is_word := f_is_word,
    d_is_word := PySem.W.fnOf "is_word" "is_word" (defArgs s_is_word) (defBody s_is_word) (defScope s_is_word) .none kV_is_word dc_is_word pm_is_word an_is_word cd_is_word ct_is_word,
    f_no_table := f_no_table,
    d_no_table := PySem.W.fnOf "no_table" "no_table" (defArgs s_no_table) (defBody s_no_table) (defScope s_no_table) .none kV_no_table dc_no_table pm_no_table an_no_table cd_no_table ct_no_table,
    f_Makes_init := f_Makes_init,
    d_Makes_init := PySem.W.fnOf "__init__" "Makes.__init__" (defArgs s_Makes_init) (defBody s_Makes_init) (defScope s_Makes_init) .none kV_Makes_init dc_Makes_init pm_Makes_init an_Makes_init cd_Makes_init ct_Makes_init,
    f_Makes_need := f_Makes_need,
    d_Makes_need := PySem.W.fnOf "need" "Makes.need" (defArgs s_Makes_need) (defBody s_Makes_need) (defScope s_Makes_need) .none kV_Makes_need dc_Makes_need pm_Makes_need an_Makes_need cd_Makes_need ct_Makes_need,
    f_Makes_made := f_Makes_made,
    d_Makes_made := PySem.W.fnOf "made" "Makes.made" (defArgs s_Makes_made) (defBody s_Makes_made) (defScope s_Makes_made) .none kV_Makes_made dc_Makes_made pm_Makes_made an_Makes_made cd_Makes_made ct_Makes_made,
    f_Makes_elders := f_Makes_elders,
    d_Makes_elders := PySem.W.fnOf "elders" "Makes.elders" (defArgs s_Makes_elders) (defBody s_Makes_elders) (defScope s_Makes_elders) .none kV_Makes_elders dc_Makes_elders pm_Makes_elders an_Makes_elders cd_Makes_elders ct_Makes_elders,
    f_Makes_numbers := f_Makes_numbers,
    d_Makes_numbers := PySem.W.fnOf "numbers" "Makes.numbers" (defArgs s_Makes_numbers) (defBody s_Makes_numbers) (defScope s_Makes_numbers) .none kV_Makes_numbers dc_Makes_numbers pm_Makes_numbers an_Makes_numbers cd_Makes_numbers ct_Makes_numbers,
    f_Shelf_init := f_Shelf_init,
    d_Shelf_init := PySem.W.fnOf "__init__" "Shelf.__init__" (defArgs s_Shelf_init) (defBody s_Shelf_init) (defScope s_Shelf_init) .none kV_Shelf_init dc_Shelf_init pm_Shelf_init an_Shelf_init cd_Shelf_init ct_Shelf_init,
    f_Shelf_give := f_Shelf_give,
    d_Shelf_give := PySem.W.fnOf "give" "Shelf.give" (defArgs s_Shelf_give) (defBody s_Shelf_give) (defScope s_Shelf_give) .none kV_Shelf_give dc_Shelf_give pm_Shelf_give an_Shelf_give cd_Shelf_give ct_Shelf_give,
    f_Shelf_made_by := f_Shelf_made_by,
    d_Shelf_made_by := PySem.W.fnOf "made_by" "Shelf.made_by" (defArgs s_Shelf_made_by) (defBody s_Shelf_made_by) (defScope s_Shelf_made_by) .none kV_Shelf_made_by dc_Shelf_made_by pm_Shelf_made_by an_Shelf_made_by cd_Shelf_made_by ct_Shelf_made_by,
    f_Shelf_forget := f_Shelf_forget,
    d_Shelf_forget := PySem.W.fnOf "forget" "Shelf.forget" (defArgs s_Shelf_forget) (defBody s_Shelf_forget) (defScope s_Shelf_forget) .none kV_Shelf_forget dc_Shelf_forget pm_Shelf_forget an_Shelf_forget cd_Shelf_forget ct_Shelf_forget,
    f_Shelf_named := f_Shelf_named,
    d_Shelf_named := PySem.W.fnOf "named" "Shelf.named" (defArgs s_Shelf_named) (defBody s_Shelf_named) (defScope s_Shelf_named) .none kV_Shelf_named dc_Shelf_named pm_Shelf_named an_Shelf_named cd_Shelf_named ct_Shelf_named,
    f_lw_cell_at := f_lw_cell_at,
    d_lw_cell_at := PySem.W.fnOf "_law_cell_at" "_law_cell_at" (defArgs s_lw_cell_at) (defBody s_lw_cell_at) (defScope s_lw_cell_at) .none kV_lw_cell_at dc_lw_cell_at pm_lw_cell_at an_lw_cell_at cd_lw_cell_at ct_lw_cell_at,
    f_lw_mix := f_lw_mix,
    d_lw_mix := PySem.W.fnOf "_law_mix" "_law_mix" (defArgs s_lw_mix) (defBody s_lw_mix) (defScope s_lw_mix) .none kV_lw_mix dc_lw_mix pm_lw_mix an_lw_mix cd_lw_mix ct_lw_mix,
    f_lw_words := f_lw_words,
    d_lw_words := PySem.W.fnOf "_law_words" "_law_words" (defArgs s_lw_words) (defBody s_lw_words) (defScope s_lw_words) .none kV_lw_words dc_lw_words pm_lw_words an_lw_words cd_lw_words ct_lw_words,
    f_lw_odd := f_lw_odd,
    d_lw_odd := PySem.W.fnOf "_law_odd" "_law_odd" (defArgs s_lw_odd) (defBody s_lw_odd) (defScope s_lw_odd) .none kV_lw_odd dc_lw_odd pm_lw_odd an_lw_odd cd_lw_odd ct_lw_odd,
    f_lw_called := f_lw_called,
    d_lw_called := PySem.W.fnOf "_law_called" "_law_called" (defArgs s_lw_called) (defBody s_lw_called) (defScope s_lw_called) .none kV_lw_called dc_lw_called pm_lw_called an_lw_called cd_lw_called ct_lw_called,
    f_lw_answer := f_lw_answer,
    d_lw_answer := PySem.W.fnOf "_law_answer" "_law_answer" (defArgs s_lw_answer) (defBody s_lw_answer) (defScope s_lw_answer) .none kV_lw_answer dc_lw_answer pm_lw_answer an_lw_answer cd_lw_answer ct_lw_answer,
    f_lw_due := f_lw_due,
    d_lw_due := PySem.W.fnOf "_law_due" "_law_due" (defArgs s_lw_due) (defBody s_lw_due) (defScope s_lw_due) .none kV_lw_due dc_lw_due pm_lw_due an_lw_due cd_lw_due ct_lw_due,
    f_lw_same := f_lw_same,
    d_lw_same := PySem.W.fnOf "_law_same" "_law_same" (defArgs s_lw_same) (defBody s_lw_same) (defScope s_lw_same) .none kV_lw_same dc_lw_same pm_lw_same an_lw_same cd_lw_same ct_lw_same,
    f_lw_named := f_lw_named,
    d_lw_named := PySem.W.fnOf "_law_named" "_law_named" (defArgs s_lw_named) (defBody s_lw_named) (defScope s_lw_named) .none kV_lw_named dc_lw_named pm_lw_named an_lw_named cd_lw_named ct_lw_named,
    f_law := fa,
    d_law := PySem.W.fnOf "law" "law" (defArgs s_law) (defBody s_law) (defScope s_law) .none kV_law dc_law pm_law an_law cd_law ct_law,
    g_TableError := PySem.W.mg_of X G aC_TableError,
    q_TableError := q_TableError,
    e_TableError := e_TableError,
    y_TableError := y_TableError,
    x_TableError := x_TableError,
    g_BadWord := PySem.W.mg_of X G aC_BadWord,
    q_BadWord := q_BadWord,
    e_BadWord := e_BadWord,
    y_BadWord := y_BadWord,
    x_BadWord := x_BadWord,
    g_NoMake := PySem.W.mg_of X G aC_NoMake,
    q_NoMake := q_NoMake,
    e_NoMake := e_NoMake,
    y_NoMake := y_NoMake,
    O_NoMake := ⟨⟨_, _, _, _, _, _, _, _, _, _, _, _, _, _, _, l_NoMake, r_NoMake⟩, sa_NoMake, e_NoMake, y_NoMake, q_NoMake⟩,
    i_NoMake := i_NoMake,
    t_NoMake := t_NoMake,
    n_NoMake_number := n_NoMake_number,
    g_NoName := PySem.W.mg_of X G aC_NoName,
    q_NoName := q_NoName,
    e_NoName := e_NoName,
    y_NoName := y_NoName,
    O_NoName := ⟨⟨_, _, _, _, _, _, _, _, _, _, _, _, _, _, _, l_NoName, r_NoName⟩, sa_NoName, e_NoName, y_NoName, q_NoName⟩,
    i_NoName := i_NoName,
    t_NoName := t_NoName,
    n_NoName_word := n_NoName_word,
    g_Pages := PySem.W.mg_of X G aC_Pages,
    C_Pages := ⟨pg_Pages, hd_Pages, po_Pages, sa_Pages⟩,
    K_Pages := ⟨mk_Pages, ai_Pages, ii_Pages, kc_Pages⟩,
    n_Pages_standing := n_Pages_standing,
    n_Pages_known := n_Pages_known,
    n_Pages_coming := n_Pages_coming,
    g_Makes := PySem.W.mg_of X G aC_Makes,
    C_Makes := ⟨pg_Makes, hd_Makes, po_Makes, sa_Makes⟩,
    K_Makes := ⟨mk_Makes, ai_Makes, ii_Makes, kc_Makes⟩,
    M_Makes_need := ⟨am_Makes_need, im_Makes_need, kp_Makes_need⟩,
    M_Makes_made := ⟨am_Makes_made, im_Makes_made, kp_Makes_made⟩,
    M_Makes_elders := ⟨am_Makes_elders, im_Makes_elders, kp_Makes_elders⟩,
    M_Makes_numbers := ⟨am_Makes_numbers, im_Makes_numbers, kp_Makes_numbers⟩,
    n_Makes_kin := n_Makes_kin,
    n_Makes_states := n_Makes_states,
    n_Makes_count := n_Makes_count,
    g_Shelf := PySem.W.mg_of X G aC_Shelf,
    C_Shelf := ⟨pg_Shelf, hd_Shelf, po_Shelf, sa_Shelf⟩,
    K_Shelf := ⟨mk_Shelf, ai_Shelf, ii_Shelf, kc_Shelf⟩,
    M_Shelf_give := ⟨am_Shelf_give, im_Shelf_give, kp_Shelf_give⟩,
    M_Shelf_made_by := ⟨am_Shelf_made_by, im_Shelf_made_by, kp_Shelf_made_by⟩,
    M_Shelf_forget := ⟨am_Shelf_forget, im_Shelf_forget, kp_Shelf_forget⟩,
    M_Shelf_named := ⟨am_Shelf_named, im_Shelf_named, kp_Shelf_named⟩,
    n_Shelf_pages := n_Shelf_pages,
    n_Shelf_makes := n_Shelf_makes,
    n_Shelf_titles := n_Shelf_titles,
    F_NoMake_init := fun_mk (st := s_NoMake_init) l_NoMake_init cc_NoMake_init kp_NoMake_init,
    b_NoMake_init := (fun_mk (st := s_NoMake_init) l_NoMake_init cc_NoMake_init kp_NoMake_init).binds (ps := ["self", "number"]) fun _ _ _ _ _ _ us hl => match us, hl with | [_, _], _ => rfl,
    F_NoName_init := fun_mk (st := s_NoName_init) l_NoName_init cc_NoName_init kp_NoName_init,
    b_NoName_init := (fun_mk (st := s_NoName_init) l_NoName_init cc_NoName_init kp_NoName_init).binds (ps := ["self", "word"]) fun _ _ _ _ _ _ us hl => match us, hl with | [_, _], _ => rfl,
    F_Pages_init := fun_mk (st := s_Pages_init) l_Pages_init cc_Pages_init kp_Pages_init,
    b_Pages_init := (fun_mk (st := s_Pages_init) l_Pages_init cc_Pages_init kp_Pages_init).binds (ps := ["self"]) fun _ _ _ _ _ _ us hl => match us, hl with | [_], _ => rfl,
    F_is_word := fun_mk (st := s_is_word) l_is_word cc_is_word kp_is_word,
    b_is_word := (fun_mk (st := s_is_word) l_is_word cc_is_word kp_is_word).binds (ps := ["thing"]) fun _ _ _ _ _ _ us hl => match us, hl with | [_], _ => rfl,
    m_is_word := PySem.W.mg_of X G am_is_word,
    F_no_table := fun_mk (st := s_no_table) l_no_table cc_no_table kp_no_table,
    b_no_table := (fun_mk (st := s_no_table) l_no_table cc_no_table kp_no_table).binds (ps := []) fun _ _ _ _ _ _ us hl => match us, hl with | [], _ => rfl,
    m_no_table := PySem.W.mg_of X G am_no_table,
    F_Makes_init := fun_mk (st := s_Makes_init) l_Makes_init cc_Makes_init kp_Makes_init,
    b_Makes_init := (fun_mk (st := s_Makes_init) l_Makes_init cc_Makes_init kp_Makes_init).binds (ps := ["self"]) fun _ _ _ _ _ _ us hl => match us, hl with | [_], _ => rfl,
    F_Makes_need := fun_mk (st := s_Makes_need) l_Makes_need cc_Makes_need kp_Makes_need,
    b_Makes_need := (fun_mk (st := s_Makes_need) l_Makes_need cc_Makes_need kp_Makes_need).binds (ps := ["self", "number"]) fun _ _ _ _ _ _ us hl => match us, hl with | [_, _], _ => rfl,
    F_Makes_made := fun_mk (st := s_Makes_made) l_Makes_made cc_Makes_made kp_Makes_made,
    b_Makes_made := (fun_mk (st := s_Makes_made) l_Makes_made cc_Makes_made kp_Makes_made).binds (ps := ["self", "elders", "table"]) fun _ _ _ _ _ _ us hl => match us, hl with | [_, _, _], _ => rfl,
    F_Makes_elders := fun_mk (st := s_Makes_elders) l_Makes_elders cc_Makes_elders kp_Makes_elders,
    b_Makes_elders := (fun_mk (st := s_Makes_elders) l_Makes_elders cc_Makes_elders kp_Makes_elders).binds (ps := ["self", "number"]) fun _ _ _ _ _ _ us hl => match us, hl with | [_, _], _ => rfl,
    F_Makes_numbers := fun_mk (st := s_Makes_numbers) l_Makes_numbers cc_Makes_numbers kp_Makes_numbers,
    b_Makes_numbers := (fun_mk (st := s_Makes_numbers) l_Makes_numbers cc_Makes_numbers kp_Makes_numbers).binds (ps := ["self"]) fun _ _ _ _ _ _ us hl => match us, hl with | [_], _ => rfl,
    F_Shelf_init := fun_mk (st := s_Shelf_init) l_Shelf_init cc_Shelf_init kp_Shelf_init,
    b_Shelf_init := (fun_mk (st := s_Shelf_init) l_Shelf_init cc_Shelf_init kp_Shelf_init).binds (ps := ["self"]) fun _ _ _ _ _ _ us hl => match us, hl with | [_], _ => rfl,
    F_Shelf_give := fun_mk (st := s_Shelf_give) l_Shelf_give cc_Shelf_give kp_Shelf_give,
    b_Shelf_give := (fun_mk (st := s_Shelf_give) l_Shelf_give cc_Shelf_give kp_Shelf_give).binds (ps := ["self", "word", "number"]) fun _ _ _ _ _ _ us hl => match us, hl with | [_, _, _], _ => rfl,
    F_Shelf_made_by := fun_mk (st := s_Shelf_made_by) l_Shelf_made_by cc_Shelf_made_by kp_Shelf_made_by,
    b_Shelf_made_by := (fun_mk (st := s_Shelf_made_by) l_Shelf_made_by cc_Shelf_made_by kp_Shelf_made_by).binds (ps := ["self", "word"]) fun _ _ _ _ _ _ us hl => match us, hl with | [_, _], _ => rfl,
    F_Shelf_forget := fun_mk (st := s_Shelf_forget) l_Shelf_forget cc_Shelf_forget kp_Shelf_forget,
    b_Shelf_forget := (fun_mk (st := s_Shelf_forget) l_Shelf_forget cc_Shelf_forget kp_Shelf_forget).binds (ps := ["self", "word"]) fun _ _ _ _ _ _ us hl => match us, hl with | [_, _], _ => rfl,
    F_Shelf_named := fun_mk (st := s_Shelf_named) l_Shelf_named cc_Shelf_named kp_Shelf_named,
    b_Shelf_named := (fun_mk (st := s_Shelf_named) l_Shelf_named cc_Shelf_named kp_Shelf_named).binds (ps := ["self"]) fun _ _ _ _ _ _ us hl => match us, hl with | [_], _ => rfl,
    F_lw_cell_at := fun_mk (st := s_lw_cell_at) l_lw_cell_at cc_lw_cell_at kp_lw_cell_at,
    b_lw_cell_at := (fun_mk (st := s_lw_cell_at) l_lw_cell_at cc_lw_cell_at kp_lw_cell_at).binds (ps := ["_law_script", "_law_k"]) fun _ _ _ _ _ _ us hl => match us, hl with | [_, _], _ => rfl,
    m_lw_cell_at := PySem.W.mg_of X G am_lw_cell_at,
    F_lw_mix := fun_mk (st := s_lw_mix) l_lw_mix cc_lw_mix kp_lw_mix,
    b_lw_mix := (fun_mk (st := s_lw_mix) l_lw_mix cc_lw_mix kp_lw_mix).binds (ps := ["_law_cell", "_law_k"]) fun _ _ _ _ _ _ us hl => match us, hl with | [_, _], _ => rfl,
    m_lw_mix := PySem.W.mg_of X G am_lw_mix,
    F_lw_words := fun_mk (st := s_lw_words) l_lw_words cc_lw_words kp_lw_words,
    b_lw_words := (fun_mk (st := s_lw_words) l_lw_words cc_lw_words kp_lw_words).binds (ps := ["_law_cell"]) fun _ _ _ _ _ _ us hl => match us, hl with | [_], _ => rfl,
    m_lw_words := PySem.W.mg_of X G am_lw_words,
    F_lw_odd := fun_mk (st := s_lw_odd) l_lw_odd cc_lw_odd kp_lw_odd,
    b_lw_odd := (fun_mk (st := s_lw_odd) l_lw_odd cc_lw_odd kp_lw_odd).binds (ps := ["_law_number"]) fun _ _ _ _ _ _ us hl => match us, hl with | [_], _ => rfl,
    m_lw_odd := PySem.W.mg_of X G am_lw_odd,
    F_lw_called := fun_mk (st := s_lw_called) l_lw_called cc_lw_called kp_lw_called,
    b_lw_called := (fun_mk (st := s_lw_called) l_lw_called cc_lw_called kp_lw_called).binds (ps := ["_law_shelf", "_law_way", "_law_word", "_law_number"]) fun _ _ _ _ _ _ us hl => match us, hl with | [_, _, _, _], _ => rfl,
    m_lw_called := PySem.W.mg_of X G am_lw_called,
    F_lw_answer := fun_mk (st := s_lw_answer) l_lw_answer cc_lw_answer kp_lw_answer,
    b_lw_answer := (fun_mk (st := s_lw_answer) l_lw_answer cc_lw_answer kp_lw_answer).binds (ps := ["_law_shelf", "_law_way", "_law_word", "_law_number"]) fun _ _ _ _ _ _ us hl => match us, hl with | [_, _, _, _], _ => rfl,
    m_lw_answer := PySem.W.mg_of X G am_lw_answer,
    F_lw_due := fun_mk (st := s_lw_due) l_lw_due cc_lw_due kp_lw_due,
    b_lw_due := (fun_mk (st := s_lw_due) l_lw_due cc_lw_due kp_lw_due).binds (ps := ["_law_names", "_law_many", "_law_way", "_law_word", "_law_good", "_law_number"]) fun _ _ _ _ _ _ us hl => match us, hl with | [_, _, _, _, _, _], _ => rfl,
    m_lw_due := PySem.W.mg_of X G am_lw_due,
    F_lw_same := fun_mk (st := s_lw_same) l_lw_same cc_lw_same kp_lw_same,
    b_lw_same := (fun_mk (st := s_lw_same) l_lw_same cc_lw_same kp_lw_same).binds (ps := ["_law_found", "_law_due_here"]) fun _ _ _ _ _ _ us hl => match us, hl with | [_, _], _ => rfl,
    m_lw_same := PySem.W.mg_of X G am_lw_same,
    F_lw_named := fun_mk (st := s_lw_named) l_lw_named cc_lw_named kp_lw_named,
    b_lw_named := (fun_mk (st := s_lw_named) l_lw_named cc_lw_named kp_lw_named).binds (ps := ["_law_shelf", "_law_names"]) fun _ _ _ _ _ _ us hl => match us, hl with | [_, _], _ => rfl,
    m_lw_named := PySem.W.mg_of X G am_lw_named,
    F_law := fun_mk (st := s_law) l_law cc_law kp_law,
    b_law := (fun_mk (st := s_law) l_law cc_law kp_law).binds (ps := ["_law_script"]) fun _ _ _ _ _ _ us hl => match us, hl with | [_], _ => rfl,
    m_law := PySem.W.mg_of X G am_law,
    z_bool := PySem.W.mg_none_of X G z_bool,
    z_int := PySem.W.mg_none_of X G z_int,
    z_isinstance := PySem.W.mg_none_of X G z_isinstance,
    z_len := PySem.W.mg_none_of X G z_len,
    z_list := PySem.W.mg_none_of X G z_list,
    z_max := PySem.W.mg_none_of X G z_max,
    z_range := PySem.W.mg_none_of X G z_range,
    z_set := PySem.W.mg_none_of X G z_set,
    z_sorted := PySem.W.mg_none_of X G z_sorted,
    z_str := PySem.W.mg_none_of X G z_str,
    z_tuple := PySem.W.mg_none_of X G z_tuple,
    z_zip := PySem.W.mg_none_of X G z_zip,
    tk_LETTERS := tk_LETTERS,
    k_LETTERS := PySem.W.mg_of X G k_LETTERS,
    X_NoName := ⟨xga_NoName, xgg_NoName, e_NoName, xhd_NoName⟩,
    E_NoName := ⟨xga_NoName, xgg_NoName, e_NoName, xhd_NoName, xha_NoName, xhn, xht, xhm_NoName⟩,
    xm_NoName := PySem.W.exm_ref e_TableError xhd_TableError y_TableError xs_NoName,
    X_NoMake := ⟨xga_NoMake, xgg_NoMake, e_NoMake, xhd_NoMake⟩,
    E_NoMake := ⟨xga_NoMake, xgg_NoMake, e_NoMake, xhd_NoMake, xha_NoMake, xhn, xht, xhm_NoMake⟩,
    xm_NoMake := PySem.W.exm_ref e_TableError xhd_TableError y_TableError xs_NoMake,
    X_BadWord := ⟨xga_BadWord, xgg_BadWord, e_BadWord, xhd_BadWord⟩,
    E_BadWord := ⟨xga_BadWord, xgg_BadWord, e_BadWord, xhd_BadWord, xha_BadWord, xhn, xht, xhm_BadWord⟩,
    xm_BadWord := PySem.W.exm_ref e_TableError xhd_TableError y_TableError xs_BadWord,
    ko_NoName_NoName := kit_self,
    ko_NoMake_NoName := kit_ne kn_NoMake_NoName xhd_NoName y_NoName ks_NoMake_NoName,
    ko_BadWord_NoName := kit_ne kn_BadWord_NoName xhd_NoName y_NoName ks_BadWord_NoName,
    ko_NoMake_NoMake := kit_self,
    ko_BadWord_NoMake := kit_ne kn_BadWord_NoMake xhd_NoMake y_NoMake ks_BadWord_NoMake,
    ko_BadWord_BadWord := kit_self }
  exact ⟨_, fun s v => .of_eq rfl, fun base _ _ => ok_law T⟩
theorem walk {l : PySem.W.OpenLaw} {q : Program} {loose : List Str} {XP : (Str → Option Value) → Heap → Prop} {YP : World → Heap → Prop} {d : DefRec} {K : Params → PySem.W.Frag} (hn : l.most = some 63) (hdf : d.params.defaults = [])
    (hY : ∀ (w : World) (h : Heap), YP w h → (K w.params).In h)
    (F : ∀ (w : World) (mg : Str → Option Value) (fa : Addr) (h : Heap), (K w.params).In h → h.Ns mainGlobals mg → mg d.name = some (.ref fa) →
      ∃ fd : FuncData, (∀ (s : Shared) (u : Value), BindsTo s fd ⟨[u], []⟩ [("_law_script", u)]) ∧ ∀ base : Heap, (K w.params).In base → base.Ns mainGlobals mg → FnOk l.prog w (K w.params) mg base CX0 8 fa fd ["_law_script"] (spLaw (K w.params))) :
    PySem.W.WalkO q loose XP YP l.row.toRowW d [] (fun f vs => PySem.call f vs) :=
  L2.walk_of (n := 63) (k := 8) (x := "_law_script") (CX := fun _ => CX0) (sp := fun w => spLaw (K w.params)) hn (by decide) hdf ⟨rfl, by decide, by decide⟩ hY F (fun _ _ a ns hl _ hS => ⟨a, ns, rfl, hS, Nat.le_trans hl (by decide), fun _ => rfl⟩) fun _ _ _ _ _ z => z
end Z
open PySem PySem.W PyProof.Rows
set_option maxRecDepth 100000 in
set_option maxHeartbeats 0 in
theorem PySem.Challenge.cw_twigtable_k71_names_holds : PySem.Challenge.rw_twigtable_k71_names.Holds := by
  w_on; o_law; k_head; (case hw => w_witness2)
  k_fill
  refine Z.walk (l := PySem.Challenge.rw_twigtable_k71_names) rfl rfl (fun w h Y => PySem.W.kIn_of Y) ?F
  case F =>
    intro w mg fa h KX G hmg
    refine' Z.all_mk KX G hmg ?aC_TableError ?q_TableError ?e_TableError ?y_TableError ?x_TableError ?aC_BadWord ?q_BadWord ?e_BadWord ?y_BadWord ?x_BadWord ?aC_NoMake ?q_NoMake ?e_NoMake ?y_NoMake ?i_NoMake ?t_NoMake ?l_NoMake ?r_NoMake ?sa_NoMake ?n_NoMake_number ?aC_NoName ?q_NoName ?e_NoName ?y_NoName ?i_NoName ?t_NoName ?l_NoName ?r_NoName ?sa_NoName ?n_NoName_word ?aC_Pages ?pg_Pages ?hd_Pages ?po_Pages ?sa_Pages ?mk_Pages ?kc_Pages ?ai_Pages ?ii_Pages ?n_Pages_standing ?n_Pages_known ?n_Pages_coming ?aC_Makes ?pg_Makes ?hd_Makes ?po_Makes ?sa_Makes ?mk_Makes ?kc_Makes ?ai_Makes ?ii_Makes ?am_Makes_need ?im_Makes_need ?am_Makes_made ?im_Makes_made ?am_Makes_elders ?im_Makes_elders ?am_Makes_numbers ?im_Makes_numbers ?n_Makes_kin ?n_Makes_states ?n_Makes_count ?aC_Shelf ?pg_Shelf ?hd_Shelf ?po_Shelf ?sa_Shelf ?mk_Shelf ?kc_Shelf ?ai_Shelf ?ii_Shelf ?am_Shelf_give ?im_Shelf_give ?am_Shelf_made_by ?im_Shelf_made_by ?am_Shelf_forget ?im_Shelf_forget ?am_Shelf_named ?im_Shelf_named ?n_Shelf_pages ?n_Shelf_makes ?n_Shelf_titles ?l_NoMake_init ?cc_NoMake_init ?kp_NoMake_init ?l_NoName_init ?cc_NoName_init ?kp_NoName_init ?l_Pages_init ?cc_Pages_init ?kp_Pages_init ?am_is_word ?l_is_word ?cc_is_word ?kp_is_word ?am_no_table ?l_no_table ?cc_no_table ?kp_no_table ?l_Makes_init ?cc_Makes_init ?kp_Makes_init ?l_Makes_need ?cc_Makes_need ?kp_Makes_need ?l_Makes_made ?cc_Makes_made ?kp_Makes_made ?l_Makes_elders ?cc_Makes_elders ?kp_Makes_elders ?l_Makes_numbers ?cc_Makes_numbers ?kp_Makes_numbers ?l_Shelf_init ?cc_Shelf_init ?kp_Shelf_init ?l_Shelf_give ?cc_Shelf_give ?kp_Shelf_give ?l_Shelf_made_by ?cc_Shelf_made_by ?kp_Shelf_made_by ?l_Shelf_forget ?cc_Shelf_forget ?kp_Shelf_forget ?l_Shelf_named ?cc_Shelf_named ?kp_Shelf_named ?am_lw_cell_at ?l_lw_cell_at ?cc_lw_cell_at ?kp_lw_cell_at ?am_lw_mix ?l_lw_mix ?cc_lw_mix ?kp_lw_mix ?am_lw_words ?l_lw_words ?cc_lw_words ?kp_lw_words ?am_lw_odd ?l_lw_odd ?cc_lw_odd ?kp_lw_odd ?am_lw_called ?l_lw_called ?cc_lw_called ?kp_lw_called ?am_lw_answer ?l_lw_answer ?cc_lw_answer ?kp_lw_answer ?am_lw_due ?l_lw_due ?cc_lw_due ?kp_lw_due ?am_lw_same ?l_lw_same ?cc_lw_same ?kp_lw_same ?am_lw_named ?l_lw_named ?cc_lw_named ?kp_lw_named ?am_law ?l_law ?cc_law ?kp_law ?z_bool ?z_int ?z_isinstance ?z_len ?z_list ?z_max ?z_range ?z_set ?z_sorted ?z_str ?z_tuple ?z_zip ?k_LETTERS ?xhn ?xht ?xga_NoName ?xgg_NoName ?xhd_NoName ?xha_NoName ?xhm_NoName ?xs_NoName ?xga_NoMake ?xgg_NoMake ?xhd_NoMake ?xha_NoMake ?xhm_NoMake ?xs_NoMake ?xga_BadWord ?xgg_BadWord ?xhd_BadWord ?xha_BadWord ?xhm_BadWord ?xs_BadWord ?xhd_TableError ?kn_NoMake_NoName ?ks_NoMake_NoName ?kn_BadWord_NoName ?ks_BadWord_NoName ?kn_BadWord_NoMake ?ks_BadWord_NoMake
    (case aC_TableError => k_is)
    (case q_TableError => k_is)
    (case e_TableError => k_is)
    (case y_TableError => k_is)
    (case x_TableError => k_exc)
    (case aC_BadWord => k_is)
    (case q_BadWord => k_is)
    (case e_BadWord => k_is)
    (case y_BadWord => k_is)
    (case x_BadWord => k_exc)
    (case aC_NoMake => k_is)
    (case q_NoMake => k_is)
    (case e_NoMake => k_is)
    (case y_NoMake => k_is)
    (case i_NoMake => k_is)
    (case t_NoMake => k_is)
    (case l_NoMake => k_is)
    (case r_NoMake => decide +kernel)
    (case sa_NoMake => k_is)
    (case n_NoMake_number => k_is)
    (case aC_NoName => k_is)
    (case q_NoName => k_is)
    (case e_NoName => k_is)
    (case y_NoName => k_is)
    (case i_NoName => k_is)
    (case t_NoName => k_is)
    (case l_NoName => k_is)
    (case r_NoName => decide +kernel)
    (case sa_NoName => k_is)
    (case n_NoName_word => k_is)
    (case aC_Pages => k_is)
    (case pg_Pages => k_is)
    (case hd_Pages => k_is)
    (case po_Pages => k_is)
    (case sa_Pages => k_is)
    (case mk_Pages => k_is)
    (case kc_Pages => k_is)
    (case ai_Pages => k_is)
    (case ii_Pages => k_is)
    (case n_Pages_standing => k_is)
    (case n_Pages_known => k_is)
    (case n_Pages_coming => k_is)
    (case aC_Makes => k_is)
    (case pg_Makes => k_is)
    (case hd_Makes => k_is)
    (case po_Makes => k_is)
    (case sa_Makes => k_is)
    (case mk_Makes => k_is)
    (case kc_Makes => k_is)
    (case ai_Makes => k_is)
    (case ii_Makes => k_is)
    (case am_Makes_need => k_is)
    (case im_Makes_need => k_is)
    (case am_Makes_made => k_is)
    (case im_Makes_made => k_is)
    (case am_Makes_elders => k_is)
    (case im_Makes_elders => k_is)
    (case am_Makes_numbers => k_is)
    (case im_Makes_numbers => k_is)
    (case n_Makes_kin => k_is)
    (case n_Makes_states => k_is)
    (case n_Makes_count => k_is)
    (case aC_Shelf => k_is)
    (case pg_Shelf => k_is)
    (case hd_Shelf => k_is)
    (case po_Shelf => k_is)
    (case sa_Shelf => k_is)
    (case mk_Shelf => k_is)
    (case kc_Shelf => k_is)
    (case ai_Shelf => k_is)
    (case ii_Shelf => k_is)
    (case am_Shelf_give => k_is)
    (case im_Shelf_give => k_is)
    (case am_Shelf_made_by => k_is)
    (case im_Shelf_made_by => k_is)
    (case am_Shelf_forget => k_is)
    (case im_Shelf_forget => k_is)
    (case am_Shelf_named => k_is)
    (case im_Shelf_named => k_is)
    (case n_Shelf_pages => k_is)
    (case n_Shelf_makes => k_is)
    (case n_Shelf_titles => k_is)
    (case l_NoMake_init => k_is)
    (case cc_NoMake_init => k_is)
    (case kp_NoMake_init => k_is)
    (case l_NoName_init => k_is)
    (case cc_NoName_init => k_is)
    (case kp_NoName_init => k_is)
    (case l_Pages_init => k_is)
    (case cc_Pages_init => k_is)
    (case kp_Pages_init => k_is)
    (case am_is_word => k_is)
    (case l_is_word => k_is)
    (case cc_is_word => k_is)
    (case kp_is_word => k_is)
    (case am_no_table => k_is)
    (case l_no_table => k_is)
    (case cc_no_table => k_is)
    (case kp_no_table => k_is)
    (case l_Makes_init => k_is)
    (case cc_Makes_init => k_is)
    (case kp_Makes_init => k_is)
    (case l_Makes_need => k_is)
    (case cc_Makes_need => k_is)
    (case kp_Makes_need => k_is)
    (case l_Makes_made => k_is)
    (case cc_Makes_made => k_is)
    (case kp_Makes_made => k_is)
    (case l_Makes_elders => k_is)
    (case cc_Makes_elders => k_is)
    (case kp_Makes_elders => k_is)
    (case l_Makes_numbers => k_is)
    (case cc_Makes_numbers => k_is)
    (case kp_Makes_numbers => k_is)
    (case l_Shelf_init => k_is)
    (case cc_Shelf_init => k_is)
    (case kp_Shelf_init => k_is)
    (case l_Shelf_give => k_is)
    (case cc_Shelf_give => k_is)
    (case kp_Shelf_give => k_is)
    (case l_Shelf_made_by => k_is)
    (case cc_Shelf_made_by => k_is)
    (case kp_Shelf_made_by => k_is)
    (case l_Shelf_forget => k_is)
    (case cc_Shelf_forget => k_is)
    (case kp_Shelf_forget => k_is)
    (case l_Shelf_named => k_is)
    (case cc_Shelf_named => k_is)
    (case kp_Shelf_named => k_is)
    (case am_lw_cell_at => k_is)
    (case l_lw_cell_at => k_is)
    (case cc_lw_cell_at => k_is)
    (case kp_lw_cell_at => k_is)
    (case am_lw_mix => k_is)
    (case l_lw_mix => k_is)
    (case cc_lw_mix => k_is)
    (case kp_lw_mix => k_is)
    (case am_lw_words => k_is)
    (case l_lw_words => k_is)
    (case cc_lw_words => k_is)
    (case kp_lw_words => k_is)
    (case am_lw_odd => k_is)
    (case l_lw_odd => k_is)
    (case cc_lw_odd => k_is)
    (case kp_lw_odd => k_is)
    (case am_lw_called => k_is)
    (case l_lw_called => k_is)
    (case cc_lw_called => k_is)
    (case kp_lw_called => k_is)
    (case am_lw_answer => k_is)
    (case l_lw_answer => k_is)
    (case cc_lw_answer => k_is)
    (case kp_lw_answer => k_is)
    (case am_lw_due => k_is)
    (case l_lw_due => k_is)
    (case cc_lw_due => k_is)
    (case kp_lw_due => k_is)
    (case am_lw_same => k_is)
    (case l_lw_same => k_is)
    (case cc_lw_same => k_is)
    (case kp_lw_same => k_is)
    (case am_lw_named => k_is)
    (case l_lw_named => k_is)
    (case cc_lw_named => k_is)
    (case kp_lw_named => k_is)
    (case am_law => k_is)
    (case l_law => k_is)
    (case cc_law => k_is)
    (case kp_law => k_is)
    (case z_bool => k_is)
    (case z_int => k_is)
    (case z_isinstance => k_is)
    (case z_len => k_is)
    (case z_list => k_is)
    (case z_max => k_is)
    (case z_range => k_is)
    (case z_set => k_is)
    (case z_sorted => k_is)
    (case z_str => k_is)
    (case z_tuple => k_is)
    (case z_zip => k_is)
    (case k_LETTERS => k_is)
    (case xhn => k_is)
    (case xht => k_is)
    (case xga_NoName => k_is)
    (case xgg_NoName => k_is)
    (case xhd_NoName => k_is)
    (case xha_NoName => k_is)
    (case xhm_NoName => k_is)
    (case xs_NoName => k_is)
    (case xga_NoMake => k_is)
    (case xgg_NoMake => k_is)
    (case xhd_NoMake => k_is)
    (case xha_NoMake => k_is)
    (case xhm_NoMake => k_is)
    (case xs_NoMake => k_is)
    (case xga_BadWord => k_is)
    (case xgg_BadWord => k_is)
    (case xhd_BadWord => k_is)
    (case xha_BadWord => k_is)
    (case xhm_BadWord => k_is)
    (case xs_BadWord => k_is)
    (case xhd_TableError => k_is)
    (case kn_NoMake_NoName => decide +kernel)
    (case ks_NoMake_NoName => k_is)
    (case kn_BadWord_NoName => decide +kernel)
    (case ks_BadWord_NoName => k_is)
    (case kn_BadWord_NoMake => decide +kernel)
    (case ks_BadWord_NoMake => k_is)
#print axioms PySem.Challenge.cw_twigtable_k71_names_holds
