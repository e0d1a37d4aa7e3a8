import PyProof.Rows.All
import Wide.All
import OpenK.AllK
import Wide.FinOn
import HandS.ForMost
import HandS.ForExc
import HandS.ExcInit
import HandS.ExcField
import HandS.ExcIs
import HandS.IsInst
import HandS.SetFor
import HandS.Strs
import HandS.Conv
import HandS.More
import HandS.Wide
import HandS.TupAny
import HandS.Rev
import HandS.Small
import HandS.Walk
import HandS.DeepEq
import HandS.WordsDict
import HandS.Zip
import HandS.SortInts
import HandS.Lambda
import HandS.Nested
import HandS.EndTab
import PySem.Challenge.RW_twigtable_k66_whole_first_broken
set_option Elab.async false
set_option linter.all false
set_option maxRecDepth 100000
set_option maxHeartbeats 4000000
/-! Base0: rules of my own beside the layer: set(list of ints); raise X(); an exception kept behind its try. -/
namespace Z
open PySem PySem.Spec PyProof.Rows L2
theorem m1 {X : Cx} {o e : Expr} {m : Str} {apos cpos : Pos}
    (a : attributeBase o m X.env (eval o X.env) = eval o X.env := by rfl)
    (b : ((backTo cpos (starEach [e] X.env)).all (fun x => !x.1) && (backToKw cpos (keywordEach [] X.env)).all (fun x => x.1.isSome)
      && decide (([e] : List Expr).length + ([] : List Keyword).length + (if ([] : List Keyword).isEmpty then 0 else 1) < 30)) = true := by rfl)
    (c : (apos.endLine == cpos.line) = true := by rfl) (d : backTo cpos (starEach [e] X.env) = [(false, eval e X.env)] := by rfl) : M1 X o m apos e cpos := ⟨a, b, c, d⟩
/-! ### raise X() of an own class without an own __init__ -/
theorem pmk_own0 {X : Cx} {C : Addr} {bmB : List Value} {B newId initId : String} {x : Str} {p pos : Pos} (F : ExcBaseFacts B newId initId bmB) (q : PySem.W.excIn X.K C bmB newId = true)
    (gC : X.mg x = some (.ref C)) (kC : PySem.W.keepIn X.K (.ref C) = true) (r : Raises X (.ref C)) (hg : Gl X x := by rfl) (hdb : (x == ("__debug__" : Str)) = false := by decide) :
    PMk X (.Call (.Name x p) [] [] pos) (fun _ H Q => Q (.ref C) none H) := by
  intro pins s σ H Q I h
  refine wpAny_Call_Name_kw (ld_glob I hg gC ?_ hdb)
  obtain ⟨bm, N, nm, qn, bs, hdct, sn, sub, ab, col, dd, k0, k1, k2, k3, k5, mN, hC, hN, hni, T⟩ := exc_obj I.kIn q
  refine PySem.W.callWith_K0 I.kIn kC ?_
  obtain ⟨hp, g, d, t, os⟩ := s
  exact wpAny_call_exc_subT F T hC hN hni (fun h' e hm => mk_of I hm r h (I.hok.gone hm.new)) (Nat.zero_le _)
/-! ### an exception kept: its object stays known behind the try -/
/-- the context in which one more object is known -/
abbrev keep (X : Cx) (a : Addr) (oe : Obj) : Cx := { X with pn := (a, oe) :: X.pn }
theorem keep_ok {X : Cx} (ok : X.Ok) (a : Addr) (oe : Obj) : (keep X a oe).Ok :=
  ⟨ok.mod, ok.kind, ok.glob, ok.blt, ok.above, ok.inj, ok.has, ok.cab, ok.hd, ok.frames, ok.stk, ok.exf, ok.bs, ok.bsz, ok.noex, ok.exfs, ok.funs, ok.frf⟩
theorem keep_off {X : Cx} {pins : List (Addr × Obj)} {σ : L2.St} {H : Hp} {s : Shared} {a : Addr} {oe : Obj} (I : Inv (keep X a oe) pins σ H s) (ok : X.Ok) : Inv X pins σ H s :=
  ⟨ok, I.os, I.bare, I.base, I.loc, I.cell, I.free, I.freeC, fun p hp => I.pin p (List.mem_cons_of_mem _ hp), I.hok, I.len⟩
theorem keep_sp {X : Cx} {pins : List (Addr × Obj)} {D : Ends} {f : Flow} {s : Shared} {a : Addr} {oe : Obj} (ok : X.Ok) (h : SP (keep X a oe) pins D f s) : SP X pins D f s := by
  cases f with
  | next => obtain ⟨σ, H, I, q⟩ := h; exact ⟨σ, H, keep_off I ok, q⟩
  | brk => obtain ⟨σ, H, I, q⟩ := h; exact ⟨σ, H, keep_off I ok, q⟩
  | cont => obtain ⟨σ, H, I, q⟩ := h; exact ⟨σ, H, keep_off I ok, q⟩
  | ret u => obtain ⟨v, σ, H, I, r, q⟩ := h; exact ⟨v, σ, H, keep_off I ok, r, q⟩
/-- what a block's rest asks of a flow -/
def Aft (X : Cx) (pins : List (Addr × Obj)) (rest : List Stmt) (D : Ends) (f : Flow) (s : Shared) : Prop :=
  match f with
  | .next => wpAny (model X.prog X.w) X.A (execs rest X.env) (SP X pins D) X.xe s
  | f => SP X pins D f s
/-- the wish of «try: body / except x as n: suite» ahead of a rest: behind the suite the exception at a is still known (ur) -/
def wKp (K : PySem.W.Frag) (c : Value) (i : Nat) (ts : Addr → Value → Option Addr → TS) (ur : Addr → Value → Option Addr → TS) (D : Ends) : WX := fun cls d σ H =>
  ∃ b, PySem.W.exmOne K cls c = some b ∧ b = true ∧ ∀ a, H a = none → ts a cls d
      { nx := fun σ' H' => ur a cls d D (σ'.set i none) H', rt := D.rt, bk := fun σ' H' => D.bk (σ'.set i none) H', ct := fun σ' H' => D.ct (σ'.set i none) H' } (σ.set i (some (.ref a))) H
section
variable {X : Cx} {x n : Str} {c : Value} {i : Nat} {body suite rest : List Stmt} {b0 : Stmt} {np pos pos' : Pos} {tb : WX → TS} {ts ur : Addr → Value → Option Addr → TS} {u0 : TS}
theorem pss_try_keep {more : List ExceptHandler} (hs : X.stack = X.env :: X.outer) (hf : X.env.frame = some X.env.locals) (hN : X.N.Nodup) (hi : X.N[i]? = some n) (hln : X.env.kindOf n = some .local) (hc : Names X x c)
    (hb : ∀ (W : WX) (pn : List (Addr × Obj)) (xe : Value → Shared → Prop), Takes (X.tr pn xe) W → PassesOwn (model X.prog X.w) X.A X.env xe → PSs (X.tr pn xe) body (tb W))
    (hsu : ∀ (a : Addr) (oe : Obj) (cls : Value) (d : Option Addr) (pn : List (Addr × Obj)), Zc cls d oe → (∃ vs, oe.data = .fields vs) → PSs (X.suite a ((a, oe) :: pn)) (b0 :: suite) (ts a cls d))
    (h0 : PSs X rest u0) (hr : ∀ (a : Addr) (oe : Obj) (cls : Value) (d : Option Addr), Zc cls d oe → (∃ vs, oe.data = .fields vs) → PSs (keep X a oe) rest (ur a cls d)) :
    PSs X (.Try body (.ExceptHandler (some (.Name x np)) (some n) (b0 :: suite) pos' :: more) [] [] pos :: rest) (fun D σ H => tb (wKp X.K c i ts ur D) { D with nx := u0 D } σ H) := by
  refine ⟨fun pins s σ H D I h => ?_⟩
  have ok := I.ok
  have hfr : X.A.frames = some (X.env :: X.outer) := by rw [ok.frames, hs]
  have hloc : Loc X.env.scope n := .inl hln
  refine wpAny_execs_cons (thn (Q := Aft X pins rest D) (wpAny_Try_except ?_) fun f s1 q => ?_)
  rotate_left
  · cases f with
    | next => exact q
    | ret v => exact q
    | brk => exact q
    | cont => exact q
  refine wpAny_mono ((hb (wKp X.K c i ts ur D) (X.pn ++ pins) (fun e s1 => wpAny (model X.prog X.w) X.A (noteFrame e X.env) (fun _ s2 => wpAny (model X.prog X.w) X.A (setFlight e none) (fun _ s3 =>
    wpAny (model X.prog X.w) X.A (handleBy e X.env (.ExceptHandler (some (.Name x np)) (some n) (b0 :: suite) pos' :: more)) (Aft X pins rest D) X.xe s3) X.xe s2) X.xe s1) (fun u s' xx => ?_) PassesOwn.looking).run [] s σ H _ (I.toTry _) h) (fun f s1 hsp => ?_) (fun e s1 he => he)
  · obtain ⟨a, B, sI, pins', σ', H', cls, d, rfl, J', nb, up, sky, na, os, ag, b, hb1, rfl, hyes⟩ := xx
    have J : Inv X pins σ' H' sI := J'.ofTry ok
    have sky' : Sky B (X.env :: X.outer) a (Zc cls d) X.env.locals s'.heap := by rw [← hs]; exact sky
    show wpAny (model X.prog X.w) X.A (noteFrame (.ref a) X.env) _ _ _
    refine Sky.land Zc.steady hfr hf sky' fun h3 fl3 up3 => ?_
    have J3 : Inv X pins σ' H' { s' with heap := h3 } := J.landed nb fl3.1 (up.trans up3) os ag
    obtain ⟨oe3, vs3, he3, hz3, hd3⟩ := fl3.there
    have nfr : a ∉ frs (X.env :: X.outer) := fun hm => by
      obtain ⟨_, o', e', hnf⟩ := fl3.2.2.1.mem hm
      rw [he3] at e'
      cases e'
      exact hnf _ hd3
    have nL : a ≠ X.env.locals := fun z => nfr (List.mem_filterMap.mpr ⟨X.env, List.mem_cons_self, by rw [hf, z]⟩)
    have nF : a ∉ X.fs := fun hm => by
      obtain ⟨e, he, q⟩ := List.mem_filterMap.mp hm
      exact nfr (List.mem_filterMap.mpr ⟨e, List.mem_cons_of_mem _ he, q⟩)
    have S3 := J3.suite he3 hd3 na nL nF
    refine wpAny_handleBy_cons (codeAny_handlers_test ?_) (by intro q; cases q)
    have LT : PySem.W.Looks (model X.prog X.w) h3 (typeOf (.ref a)) cls := fun A Q E s k q => wpAny_typeOf_ref (k _ _ he3) (by rw [hz3.1]; exact q)
    have LM := PySem.W.exm_one (M := model X.prog X.w) (J3.kIn) LT hb1
    have test : ∀ {Q : Value → Shared → Prop} {E : Value → Shared → Prop}, Q c { s' with heap := h3 } → wpAny (model X.prog X.w) (X.A.mark (some (.ref a))) (eval (.Name x np) X.env) Q E { s' with heap := h3 } := fun {Q E} q => by
      obtain ⟨hg, hdbg, hm | ⟨hm, hv, hnn⟩⟩ := hc
      · exact ld_glob (X := X.suite a ((a, oe3) :: (X.pn ++ pins))) S3 hg hm q hdbg
      · exact ld_blt (X := X.suite a ((a, oe3) :: (X.pn ++ pins))) S3 hg hm hv q hnn hdbg
    refine test (LM.here ?_)
    refine codeAny_handlers_suite_as ?_
    refine HandSPX.lands_againZ fl3 fun h4 fl4 up4 => ?_
    have J4 : Inv X pins σ' H' { s' with heap := h4 } := J.landed nb fl4.1 ((up.trans up3).trans up4) os ag
    obtain ⟨oe4, vs4, he4, hz4, hd4⟩ := fl4.there
    have S4 := J4.suite he4 hd4 na nL nF
    refine store_ok (X := X.suite a ((a, oe4) :: (X.pn ++ pins))) (v := .ref a) S4 hN hi hloc rfl (fun s5 S5 => ?_) (.inr hln)
    refine wpAny_mono ((hsu a oe4 cls d (X.pn ++ pins) hz4 ⟨_, hd4⟩).run [] s5 _ H' _ S5 (hyes a na)) (fun f s6 hsp => ?_) (fun _ _ z => False.elim z)
    have end_ : ∀ {σ6 : L2.St} {H6 : Hp} {Q : Shared → Prop}, Inv (X.suite a ((a, oe4) :: (X.pn ++ pins))) [] σ6 H6 s6 → (∀ s7, Inv (keep X a oe4) pins (σ6.set i none) H6 s7 → Q s7) →
        wpAny (model X.prog X.w) X.A (do bindName X.env n .none; unbindBehindTheSuite X.env n pos') (fun _ s7 => Q s7) X.xe s6 := fun {σ6 H6 Q} S6 hq => by
      have S7 : Inv (keep X a oe4) pins σ6 H6 s6 := ⟨keep_ok ok a oe4, S6.os, S6.bare, S6.base, S6.loc, S6.cell, S6.free, S6.freeC, fun p hp => S6.pin p (List.mem_append_left _ hp), S6.hok, S6.len⟩
      exact gone_ok (X := keep X a oe4) S7 hN hi hln hq
    cases f with
    | next =>
      obtain ⟨σ6, H6, S6, q6⟩ := hsp
      exact end_ S6 fun s7 J7 => wpAny_mono ((hr a oe4 cls d hz4 ⟨_, hd4⟩).run pins s7 _ _ D J7 q6) (fun f s8 q8 => keep_sp ok q8) fun _ _ z => z
    | brk =>
      obtain ⟨σ6, H6, S6, q6⟩ := hsp
      exact end_ S6 fun s7 J7 => ⟨_, _, keep_off J7 ok, q6⟩
    | cont =>
      obtain ⟨σ6, H6, S6, q6⟩ := hsp
      exact end_ S6 fun s7 J7 => ⟨_, _, keep_off J7 ok, q6⟩
    | ret u =>
      obtain ⟨v6, σ6, H6, S6, r6, q6⟩ := hsp
      exact end_ S6 fun s7 J7 => ⟨_, _, _, keep_off J7 ok, r6, q6⟩
  · cases f with
    | next =>
      obtain ⟨σ', H', J', q⟩ := hsp
      exact wpAny_execs_nil (show Aft X pins rest D .next s1 from h0.run pins s1 σ' H' D (J'.ofTry ok) q)
    | brk =>
      obtain ⟨σ', H', J', q⟩ := hsp
      exact ⟨σ', H', J'.ofTry ok, q⟩
    | cont =>
      obtain ⟨σ', H', J', q⟩ := hsp
      exact ⟨σ', H', J'.ofTry ok, q⟩
    | ret u =>
      obtain ⟨v, σ', H', J', r, q⟩ := hsp
      exact ⟨v, σ', H', J'.ofTry ok, r, q⟩
end
end Z
namespace PySem.W
open PySem PySem.Spec PySem.Calls PyProof.Rows
section
variable {prog : Program} {w : World} {A : Around} {E : Value → Shared → Prop} {s : Shared} {K : Frag} {x D : Addr} {ox : Obj} {od : Option Obj}
theorem findObj_dataO {C : Addr} {name : Str} {a g : Value} (hc : (clsIn K C).isSome = true) (ha : findIn K (.ref C) name = some (some a)) (hg : specialIn K a "__get__" = some (some g)) (ht : takesIn K a = some true) :
    findObj K C od name = some (.bind g a) := by
  obtain ⟨cd, hc⟩ := Option.isSome_iff_exists.mp hc
  unfold findObj
  rw [hc, Option.bind_some, ha, Option.bind_some]
  simp [hg, ht]
theorem kin_classO {Q : Option Value → Shared → Prop} (hga : findIn K (.ref D) "__getattribute__" = some (some (.builtin "BaseException.__getattribute__"))) (hgt : findIn K (.ref D) "__getattr__" = some none)
    (hsub : subIn K (.ref D) (.type "BaseException") = some true) (hdct : hasDictIn K D = true) (ha : findIn K (.ref D) "__class__" = some (some (.builtin "object.__class__")))
    (hn : specialIn K (.builtin "object.__class__") "__get__" = some (some (.builtin "getset_descriptor.__get__"))) (htk : takesIn K (.builtin "object.__class__") = some true) (hm : mroIn K D (.type "object") = some true)
    (X : K.In s.heap) (I : InstAt s.heap x ox D od) (h : Q (some (.ref D)) { s with toks := s.toks + 1 }) : wpAny (model prog w) A (getAttr? (.ref x) "__class__") Q E s := by
  have hf : findObj K D od "__class__" = some (.bind (.builtin "getset_descriptor.__get__") (.builtin "object.__class__")) := findObj_dataO (by obtain ⟨cd, hc, _⟩ := any_some hdct; rw [hc]; rfl) ha hn htk
  obtain ⟨hp, g, d, t, os⟩ := s
  have L0 := I.type (M := model prog w)
  have L1 := looks_findIn (M := model prog w) X hga
  have L2 := looks_findIn (M := model prog w) X hgt
  have L3 := looks_find (M := model prog w) X I hf
  have sub : Looks (model prog w) hp (isInstance (.ref x) (.type "BaseException")) true := L0.andThen (looks_subIn X hsub)
  have hx0 : (false && onTheHeap (Value.builtin "BaseException.__getattribute__")) = false := rfl
  have hx2 : (Value.builtin "BaseException.__getattribute__" == Value.builtin "object.__getattribute__") = false := by decide +kernel
  have hx1 : (onTheHeap (Value.ref D) && Value.builtin "BaseException.__getattribute__" == Value.builtin "object.__getattribute__") = false := by rw [hx2]; rfl
  unfold getAttr? getAttrBy? getAttrBy
  refine wpAny_bind (wpAny_mkText (wpAny_bind (wpAny_attempt (wpAny_holding (wpAny_bind (L0.at (wpAny_bind (L1.at ?_))))))))
  show wpAny _ _ (if (onTheHeap (Value.ref D) && Value.builtin "BaseException.__getattribute__" == Value.builtin "object.__getattribute__") = true then _ else _) _ _ _
  rw [hx1, if_neg Bool.false_ne_true]
  unfold getAttrByItsOwn hookBefore
  refine wpAny_bind ?_
  rw [if_pos (show onTheHeap (Value.ref D) = true from rfl)]
  refine L2.at ?_
  refine wpAny_bind (wpAny_attempt (wpAny_holding ?_))
  unfold callGetattribute
  rw [hx0, if_neg Bool.false_ne_true]
  unfold boundAndCalled
  rw [PySem.F.excAttr_ValueError.ga.bind (.ref x)]
  refine wpAny_bind (wpAny_pure ?_)
  show wpAny _ _ (call (.builtin "BaseException.__getattribute__") [.ref x, .str "__class__" t]) _ _ _
  refine wpAny_call (codeAny_call_builtin PySem.F.excAttr_ValueError.ga.plain PySem.F.entry_bexc_ga ?_)
  refine @check_slot (model prog w) _ _ ⟨hp, g, d, t + 1, os⟩ "BaseException.__getattribute__" "BaseException" "__getattribute__" (.ref x) [.str "__class__" t] [] _ (by decide +kernel) (by decide +kernel) sub (PySem.F.args_bexc_ga (.ref x) (.str "__class__" t)) ?_
  unfold Builtin.«object.__getattribute__»
  refine wpAny_bind (wpAny_of_eq (a := ((Value.ref x : Value), [Value.str "__class__" t])) (by first | rfl | (simp only [slotArgs]; rfl)) ?_)
  refine wpAny_bind (wpAny_pure (wpAny_bind (L0.at (wpAny_bind (L3.at ?_)))))
  show wpAny _ _ (holding [Value.builtin "object.__class__"] (call (.builtin "getset_descriptor.__get__") [.builtin "object.__class__", .ref x, .ref D]) >>= ret) _ _ _
  refine wpAny_bind (wpAny_holding (wpAny_call (class_get (s := ⟨hp, g, d, t + 1, os⟩) (ox := ox) (od := od) X I hm ?_)))
  refine wpAny_pure ?_
  show wpAny _ _ (handedOut (.ref D)) _ _ _
  rw [handedOut_of (v := .ref D) rfl]
  first
    | exact wpAny_pure (wpAny_pure h)
    | exact wpAny_pure h
    | exact wpAny_pure (wpAny_bind (wpAny_pure (wpAny_pure h)))
theorem kitx_excO (hga : findIn K (.ref D) "__getattribute__" = some (some (.builtin "BaseException.__getattribute__"))) (hgt : findIn K (.ref D) "__getattr__" = some none) (hsub : subIn K (.ref D) (.type "BaseException") = some true)
    (hdct : hasDictIn K D = true) (ha : findIn K (.ref D) "__class__" = some (some (.builtin "object.__class__"))) (hn : specialIn K (.builtin "object.__class__") "__get__" = some (some (.builtin "getset_descriptor.__get__")))
    (htk : takesIn K (.builtin "object.__class__") = some true) (hm : mroIn K D (.type "object") = some true) : KitX K (.ref x) (.ref D) (fun h => ∃ od, InstAt h x ox D od) where
  ty := fun _ _ _ ⟨_, I⟩ => I.type
  it := fun _ _ X _ => by
    obtain ⟨cdD, hcD, _⟩ := any_some hdct
    unfold clsIn at hcD
    split at hcD
    · rename_i c' d' cd' sl' ho
      intro A' Q' E' s' k q
      unfold isType loadHead
      exact wpAny_bind (wpAny_loadPart (k _ _ (X _ _ ho)) (wpAny_pure q))
    · cases hcD
  ne := fun h tp dd its n sl X htp => by
    obtain ⟨cdD, hcD, _⟩ := any_some hdct
    refine Bool.eq_false_iff.mpr fun q => ?_
    have e : D = tp := Value.ref.inj (beq_iff_eq.mp q)
    subst e
    unfold clsIn at hcD
    split at hcD
    · rename_i c' d' cd' sl' ho
      have z := (X _ _ ho).symm.trans htp
      cases z
    · cases hcD
  ca := fun X I k => by
    obtain ⟨od, I⟩ := I
    exact kin_classO hga hgt hsub hdct ha hn htk hm X I k
end
end PySem.W
namespace Z
open PySem PySem.Spec PyProof.Rows L2
/-- what must be said of the exception's own dict -/
def rIsD (d : Option Addr) (H : Hp) : Prop := ∀ dd, d = some dd → ∃ fs, H dd = some (.xd fs)
/-- isinstance(e, C), e the exception that is known -/
theorem call_isK {X : Cx} {a D : Addr} {oe : Obj} {d : Option Addr} (C : ExcC X.K D) (hz : Zc (.ref D) d oe) (hf : ∃ vs, oe.data = .fields vs) (hx : ∀ (s : Shared) (H : Hp) (pins : List (Addr × Obj)) (σ : L2.St), Inv (keep X a oe) pins σ H s → rIsD d H → ∃ od, PySem.W.InstAt s.heap a oe D od) :
    CallR (keep X a oe) (.builtin "isinstance") (fun xs H Q => rIsD d H ∧ rIsE X.K D a xs H Q) := by
  intro pins s σ H xs us Q I r h
  obtain ⟨hd, c, cv, b, rfl, hcv, e, q⟩ := h
  cases r with
  | cons rx rr =>
    cases rr with
    | cons rt rr =>
      cases rr
      cases rx
      have ec := hcv _ rt
      subst ec
      exact PySem.W.kia_one (PySem.W.kitx_excO C.hg C.hk C.hs C.hd C.ha C.hn C.ht C.hm) I.kIn (hx s H pins σ I hd) e (fun z => nomatch z) fun tk => ⟨.bl b, H, I.kept (t' := tk) fun _ _ z => z, rfl, q⟩
theorem call_isX {X : Cx} {a D : Addr} {oe : Obj} {d : Option Addr} (C : ExcC X.K D) (hz : Zc (.ref D) d oe) (hf : ∃ vs, oe.data = .fields vs) :
    CallR (keep X a oe) (.builtin "isinstance") (fun xs H Q => rIsD d H ∧ rIsE X.K D a xs H Q) := call_isK C hz hf fun s H pins σ I hd => by
  obtain ⟨hget, _⟩ := I.pin (a, oe) (List.mem_append_left _ List.mem_cons_self)
  obtain ⟨vs, hv⟩ := hf
  obtain ⟨oc, od, oda, osl⟩ := oe
  obtain ⟨h1, h2⟩ := hz
  dsimp only at h1 h2 hv
  subst h1 h2 hv
  cases od with
  | none => exact ⟨none, hget, rfl, rfl, trivial⟩
  | some dd =>
    obtain ⟨fs, ed⟩ := hd dd rfl
    obtain ⟨mA, hns, _⟩ := (show ObjOk X.prog X.w H s.heap dd (.xd fs) from I.hok dd _ ed)
    obtain ⟨od, ho, _⟩ := lookIn_ns hns
    exact ⟨some od, hget, rfl, rfl, ho⟩
/-- e.f, e the exception that is known -/
theorem pe_xfK {X : Cx} {a C : Addr} {oe : Obj} {cls : Value} {d : Option Addr} {e : Expr} {te : TE} {pos : Pos} {n : Str} (T : XfC X.K C) (hno : PySem.W.findIn X.K (.ref C) n = some none)
    (hz : Zc cls d oe) (hf : ∃ vs, oe.data = .fields vs) (he : PE (keep X a oe) e te) (hb : attributeBase e n X.env (eval e X.env) = eval e X.env := by rfl) :
    PE (keep X a oe) (.Attribute e n pos) (tXf a cls d C n te) := by
  refine ⟨fun pins s σ H Q I h => ?_⟩
  refine attr_of hb (thn (he.run pins s σ H _ I h) fun u s1 hh => ?_)
  obtain ⟨x, H1, I1, rx, ex, ec, dd, fs, v, ed, ea, l, q⟩ := hh
  subst ex
  obtain rfl : u = Value.ref a := rx
  subst ec
  subst ed
  obtain ⟨ha, _⟩ := I1.pin (a, oe) (List.mem_append_left _ List.mem_cons_self)
  obtain ⟨vs, hd⟩ := hf
  obtain ⟨mA, hns, hr⟩ := (show ObjOk X.prog X.w H1 s1.heap dd (.xd fs) from I1.hok dd _ ea)
  obtain ⟨od, ho, hl⟩ := lookIn_ns hns
  obtain ⟨u, hu, ru⟩ := RelO.some_of (v := v) (o := mA n) (by rw [← l]; exact hr n)
  have J : PySem.W.InstAt s1.heap a oe C (some od) := ⟨ha, hz.1, by unfold PySem.W.notCls; rw [hd] <;> rfl, by rw [hz.2]; exact ho⟩
  exact HandSPX.exc_get I1.kIn J T.ga T.gg T.exC (PySem.W.findObj_own T.hdC hno rfl (by rw [hl, hu])) (handed_of ru) ⟨v, H1, I1.tok _, ru, q⟩
end Z
namespace Z
open PySem PySem.Spec PyProof.Rows L2
section
variable {P : Program} {w : World} {A : Around} {E : Value → Shared → Prop} {s : Shared}
set_option maxHeartbeats 3200000 in
theorem call_set_lstI {l : Addr} {items : Array Value} (ns : List Int) {Q : Value → Shared → Prop} (hh : A.handled = none) (hl : s.heap.IsList l items) (hit : IntsAre items.toList ns) (hb : ns.length + 1 < scanBound)
    (h : ∀ (h' : Heap) (tk c : Nat), SetR w h' s.heap.objs.size (fun j => decide (j ∈ ns)) c → c ≤ ns.length → (∀ b o, s.heap.get? b = some o → h'.get? b = some o) → Q (.ref s.heap.objs.size) { s with heap := h', toks := tk }) :
    wpAny (model P w) A (call (.type "set") [.ref l]) Q E s := by
  have hisz : items.size = ns.length := by
    have q := IntsAre.length hit
    rw [Array.length_toList] at q
    exact q
  obtain ⟨c, tl, hmro⟩ := F.called_set.mro
  have hmade := F.called_set.made
  have hsub := F.called_set.sub
  refine wpAny_call (codeAny_of_tree ?_)
  show wpAny _ _ (callAny (.type "set") _) _ _ _
  refine wpAny_pure ⟨Code.quiet_builtin _ (by decide +kernel), codeAny_builtin F.entry_type_call ?_⟩
  rw [Around.under_plain (weight_type_call_type "set" [.ref l] []) rfl]
  have h1 := F.called_set.notType
  have h2 := F.called_set.canCreate
  have hct := F.typeCall_set_1 (.ref l)
  repeat (any_goals (first | assumption | wp_step))
  refine codeAny_mono (code_set_led1 (.ref l) (E := E) (Q₁ := fun obj s₁ => obj = .ref s.heap.objs.size ∧ s₁ = { s with heap := s.heap.push { cls := .type "set", dict := none, data := .set #[] 0 (.fresh 0 0 (!w.params.followText "set-order")) } }) ⟨rfl, rfl⟩) fun r s₁ hr => ?_
  cases r with
  | error e => exact hr
  | ok fl =>
    cases fl with
    | ret obj =>
      obtain ⟨rfl, rfl⟩ := hr
      have hS : (s.heap.push { cls := .type "set", dict := none, data := .set #[] 0 (.fresh 0 0 (!w.params.followText "set-order")) }).get? s.heap.objs.size = some { cls := .type "set", dict := none, data := .set #[] 0 (.fresh 0 0 (!w.params.followText "set-order")) } := Heap.get?_push_size _ rfl
      have hT : Shared.TypeIs { s with heap := s.heap.push { cls := .type "set", dict := none, data := .set #[] 0 (.fresh 0 0 (!w.params.followText "set-order")) } } (.ref s.heap.objs.size) "set" := ⟨_, hS, rfl⟩
      have hli := F.called_set.init.lookup
      have hbi := F.called_set.init.bind (.ref s.heap.objs.size)
      repeat (any_goals (first | assumption | wp_step))
      refine codeAny_mono (codeAny_call_builtin (R := wants (fun r s₂ => r = .none ∧ ∃ h' tk c, s₂ = { s with heap := h', toks := tk } ∧ SetR w h' s.heap.objs.size (fun j => decide (j ∈ ns)) c ∧ c ≤ ns.length ∧
          (∀ b o, s.heap.get? b = some o → h'.get? b = some o)) E) F.called_set.init.plain F.entry_set_init (check_set_init_1 hT ?_)) fun r₂ s₂ hr₂ => ?_
      · obtain ⟨ol, hol, hcl, nl, hdl⟩ := hl
        obtain ⟨ocls, odict, odata, oslots⟩ := ol
        simp only at hcl hdl
        subst hcl; subst hdl
        have hol' : (s.heap.push { cls := .type "set", dict := none, data := .set #[] 0 (.fresh 0 0 (!w.params.followText "set-order")) }).get? l = some { cls := .type "list", dict := odict, data := .seq items nl, slots := oslots } := Heap.get?_push_of_some _ hol
        have hsls := F.sub_list_set
        have hslf := F.sub_list_frozenset
        have hne : (Value.type "list" == Value.type "dict") = false := by decide
        have hl1 : (s.heap.push { cls := .type "set", dict := none, data := .set #[] 0 (.fresh 0 0 (!w.params.followText "set-order")) }).IsList l items := ⟨_, hol', rfl, nl, rfl⟩
        unfold Builtin.«set.__init__» noKeywords Builtin.Frozenset.updateFrom
        generalize hPI : pyIter = PI
        wp_walk
        subst hPI
        refine wpAny_pyIter_list hl1 ?_
        refine wpAny_bind (wpAny_runValue ?_)
        have hlS : l < s.heap.objs.size := Heap.lt_size hol
        have hh3 : A.in1.in1.in1.handled = none := by simp [hh]
        have hz1 : (s.heap.push { cls := .type "set", dict := none, data := .set #[] 0 (.fresh 0 0 (!w.params.followText "set-order")) }).objs.size = s.heap.objs.size + 1 := Heap.size_push ..
        have hneI : l ≠ (s.heap.push { cls := .type "set", dict := none, data := .set #[] 0 (.fresh 0 0 (!w.params.followText "set-order")) }).objs.size := by
          rw [Heap.size_push]; exact Nat.ne_of_lt (Nat.lt_succ_of_lt hlS)
        have hSf : s.heap.objs.size ∉ [(s.heap.push { cls := .type "set", dict := none, data := .set #[] 0 (.fresh 0 0 (!w.params.followText "set-order")) }).objs.size, l] := by
          rw [Heap.size_push]; simp only [List.mem_cons, List.mem_singleton, List.not_mem_nil, or_false, not_or]
          exact ⟨Nat.ne_of_lt (Nat.lt_succ_self _), Nat.ne_of_gt hlS⟩
        have hval : ∀ (i : Nat) (v : Value), items[i]? = some v → ∃ k t, ns[i]? = some k ∧ v = .int k t := fun i v hv => by
          have hi : i < ns.length := by rw [← hisz]; exact (Array.getElem?_eq_some_iff.mp hv).1
          obtain ⟨t, e⟩ := PyProof.Rows.IntsAre.int_at hit i v (by rw [Array.getElem?_toList]; exact hv)
          refine ⟨ns[i], t, List.getElem?_eq_getElem hi, ?_⟩
          rw [e, List.getD_eq_getElem?_getD, List.getElem?_eq_getElem hi] <;> rfl
        refine set_update_ints ((Walks.list hh3 _ l hneI items).toS) s.heap.objs.size
          hSf ns hisz hb hval (items.size - 0) 0 _ (by omega) (Nat.zero_le _)
          ⟨⟨_, Heap.get?_push_size _ rfl, rfl, rfl⟩, (hl1.push _)⟩ ?hS0 ?hR
        case hS0 =>
          have hget : ((s.heap.push { cls := .type "set", dict := none, data := .set #[] 0 (.fresh 0 0 (!w.params.followText "set-order")) }).push { cls := .type "list_iterator", data := .fields #[.ref l, .int 0 0] }).get? s.heap.objs.size
              = some { cls := .type "set", dict := none, data := .set #[] 0 (.fresh 0 0 (!w.params.followText "set-order")) } := Heap.get?_push_of_some _ hS
          exact ⟨0, Nat.le_refl 0, setR_new_at hget⟩
        case hR =>
          intro s' c' hm hc' hS'
          obtain ⟨h', g2, d', tk', os'⟩ := s'
          have eg : g2 = s.gens := hm.gens
          have ed : d' = s.drawn := hm.drawn
          have eo : os' = s.os := hm.os
          subst eg; subst ed; subst eo
          show wpAny _ _ _ _ _ _
          refine wpAny_pure ?_
          show wpAny _ _ (ret Value.none) _ _ _
          rw [hisz] at hc'
          refine wpAny_pure ⟨rfl, h', tk', c', rfl, hS', hc', fun b o e => ?_⟩
          have hb0 : b < s.heap.objs.size := Heap.lt_size e
          have hb1 : b ≠ s.heap.objs.size := Nat.ne_of_lt hb0
          have hb2 : b ≠ (s.heap.push { cls := .type "set", dict := none, data := .set #[] 0 (.fresh 0 0 (!w.params.followText "set-order")) }).objs.size := by
            rw [Heap.size_push]; exact Nat.ne_of_lt (Nat.lt_succ_of_lt hb0)
          exact hm.heap b o (by simp only [List.mem_cons, List.mem_singleton, List.not_mem_nil, or_false, not_or]; exact ⟨hb1, hb2⟩) (Heap.get?_push_of_some _ (Heap.get?_push_of_some _ e))
      · cases r₂ with
        | error e => exact hr₂
        | ok fl₂ =>
          cases fl₂ with
          | ret r =>
            obtain ⟨rfl, h', tk, c', rfl, hS', hc', hk'⟩ := hr₂
            repeat (any_goals (first | assumption | wp_step))
            exact h _ _ _ hS' hc' hk'
          | _ => exact hr₂.elim
    | _ => exact hr.elim
end
/-- set(xs), xs a list of ints -/
def rSetL (K : PySem.W.Frag) (w : World) : List V → Hp → VK → Prop := fun xs H Q => ∃ (l : Addr) (ns : List Int), xs = [.ref l] ∧ SqL K H l (ns.map V.int) ∧ ns.length ≤ 1000 ∧
  ∀ (p : Addr) (c : Nat), H p = none → c ≤ ns.length → Q (.ref p) (upd H p (SetO w p (fun j => decide (j ∈ ns)) c))
theorem cr_setL {X : Cx} (hc : X.calm = true := by rfl) : CallR X (.type "set") (rSetL X.K X.w) := by
  intro pins s σ H xs us Q I r h
  obtain ⟨l, ns, rfl, hq, hl, q⟩ := h
  cases r with
  | cons r rr =>
    cases rr
    cases r
    obtain ⟨its, rv, pt, hz⟩ := I.list hq
    have hi : PyProof.Rows.IntsAre its.toArray.toList ns := ints_of_vals rv
    refine call_set_lstI ns (I.ok.hd hc) pt.isList hi (by unfold scanBound; omega) fun h' tk c R1 hcn k => ?_
    exact ⟨.ref s.heap.objs.size, _, I.laid (t' := tk) k (Nat.le_refl _) (setO_new R1), rfl, q _ c (I.hok.fresh (Nat.le_refl _)) hcn⟩
end Z
/-! Base1: small words about fields, frames, exceptions. -/
namespace Z
open PySem PySem.Spec PyProof.Rows L2
theorem lkE {f : Str} {v : V} {r : List (Str × V)} : List.lookup f ((f, v) :: r) = some v := by simp [List.lookup]
theorem lkN {g f : Str} {v : V} {r : List (Str × V)} (h : ¬ g = f) : List.lookup g ((f, v) :: r) = List.lookup g r := by
  have e : (g == f) = false := by simpa using h
  simp [List.lookup, e]
theorem pfE {f : Str} {x y : V} {r : List (Str × V)} : putF f y ((f, x) :: r) = (f, y) :: r := by
  show (if f = f then _ else _) = _
  rw [if_pos rfl]
theorem pfN {g f : Str} {x y : V} {r : List (Str × V)} (h : ¬ g = f) : putF f y ((g, x) :: r) = (g, x) :: putF f y r := by
  show (if g = f then _ else _) = _
  rw [if_neg h]
theorem pl1 {a : Str} {x : V} : (putF a x []).length < 1000 := by show 1 < 1000; decide
theorem pl2 {a b : Str} {x y : V} : (putF b y (putF a x [])).length < 1000 := by
  have := length_putF b y (putF a x [])
  have := length_putF a x []
  simp at *
  omega
/-- all but the objects at l stand as they stood -/
def But (l : List Addr) (H H' : Hp) : Prop := ∀ b o, H b = some o → b ∉ l → H' b = some o
theorem But.refl {l : List Addr} {H : Hp} : But l H H := fun _ _ h _ => h
theorem But.trans {l : List Addr} {H H1 H2 : Hp} (a : But l H H1) (b : But l H1 H2) : But l H H2 := fun c o h n => b c o (a c o h n) n
theorem But.mono {l l' : List Addr} {H H1 : Hp} (a : But l H H1) (h : ∀ x ∈ l, x ∈ l') : But l' H H1 := fun c o e n => a c o e fun m => n (h c m)
theorem But.of {l : List Addr} {H H1 : Hp} (a : Same H H1) : But l H H1 := fun c o e _ => a c o e
theorem But.same {H H1 : Hp} (a : But [] H H1) : Same H H1 := fun c o e => a c o e (by simp)
theorem But.new {l : List Addr} {H H1 : Hp} {p : Addr} {o : HO} (a : But l H H1) (h : H p = none) : But l H (upd H1 p o) := fun c u e n => by
  rw [upd_ne (ne_of_none e h)]
  exact a c u e n
theorem But.put {l : List Addr} {H H1 : Hp} {p : Addr} {o : HO} (a : But l H H1) (h : p ∈ l) : But l H (upd H1 p o) := fun c u e n => by
  rw [upd_ne (fun z => n (by rw [z]; exact h))]
  exact a c u e n
/-- an address that is not tracked at the end was not at the start, unless it is one of l -/
theorem But.none {l : List Addr} {H H1 : Hp} (a : But l H H1) {p : Addr} (h : H1 p = Option.none) (hp : p ∉ l) : H p = Option.none := by
  cases e : H p with
  | none => rfl
  | some o =>
    rw [a p o e hp] at h
    cases h
theorem _root_.L2.Same.new {H H1 : Hp} {p : Addr} {o : HO} (a : Same H H1) (h : H p = Option.none) : Same H (upd H1 p o) := fun c u e => by
  rw [upd_ne (ne_of_none e h)]
  exact a c u e
theorem same_upd {H : Hp} {p : Addr} {o : HO} (h : H p = Option.none) : Same H (upd H p o) := Same.new (Same.refl H) h
/-- the heap behind the making of an exception with one field -/
theorem exc_heap {H : Hp} {a dx C : Addr} {f : Str} {v : V} (ha : H a = none) (hd : H dx = none) (ne : dx ≠ a) :
    upd (del (upd (upd (upd H a (exo a C none)) dx (exd dx [(f, v)])) a (exo a C (some dx))) a) dx (.xd [(f, v)]) = upd H dx (.xd [(f, v)]) := by
  funext b
  by_cases h1 : b = dx
  · rw [h1, upd_same, upd_same]
  · rw [upd_ne h1, upd_ne h1]
    by_cases h2 : b = a
    · rw [h2, del_same, ha]
    · rw [del_ne h2, upd_ne h2, upd_ne h1, upd_ne h2]
/-- an exception's own __init__(self, f): self.f = f -/
def spExc (C : Addr) (f : Str) : Sp := fun vs H Q _ => ∃ (a : Addr) (v : V), vs = [.ref a, v] ∧ H a = some (exo a C none) ∧ ∀ dx, H dx = none → dx ≠ a → Q .non (upd (upd H dx (exd dx [(f, v)])) a (exo a C (some dx)))
/-- .. its making, read -/
theorem mkO_read {C : Addr} {f : Str} {ta : TA} {σ : L2.St} {H : Hp} {Q : XK} (h : ta σ H fun vs H1 => ∃ v, vs = [v] ∧ ∀ d, H1 d = none → Q (.ref C) (some d) (upd H1 d (.xd [(f, v)])))
    (mono : ∀ σ H (P R : List V → Hp → Prop), (∀ vs H1, P vs H1 → R vs H1) → ta σ H P → ta σ H R) : tMkO C (spExc C f) [] ta σ H Q := by
  refine mono σ H _ _ (fun vs H1 hh => ?_) h
  obtain ⟨v, rfl, q⟩ := hh
  refine ⟨(by show 1 ≤ 1000; decide), fun a ha => ⟨a, v, rfl, upd_same, fun dx hd ne => ⟨rfl, dx, [(f, v)], upd_same, ?_, ?_, ?_⟩⟩⟩
  · rw [upd_ne ne, upd_same]
  · rw [upd_ne ne] at hd
    exact hd
  · have hd' : H1 dx = none := by
      rw [upd_ne ne] at hd
      exact hd
    rw [exc_heap ha hd' ne]
    exact q dx hd'
theorem map_at {α β : Type} {g : α → β} {l : List α} {i : Nat} {y : β} (h : (l.map g)[i]? = some y) : ∃ x, l[i]? = some x ∧ y = g x := by
  rw [List.getElem?_map] at h
  cases e : l[i]? with
  | none =>
    rw [e] at h
    cases h
  | some x =>
    rw [e] at h
    exact ⟨x, rfl, (Option.some.inj h).symm⟩
theorem lc_yes {A B : Hp → Prop} {σ : L2.St} {H : Hp} (h : A H) : tYes σ H fun b H3 => if b = true then A H3 else B H3 := by
  show if true = true then A H else B H
  exact iteT h
theorem iteP {c : Bool} {A B : Prop} (h : c = true) (x : A) : if c = true then A else B := by
  rw [if_pos h]
  exact x
theorem iteN {c : Bool} {A B : Prop} (h : c = false) (x : B) : if c = true then A else B := by
  rw [h, if_neg Bool.false_ne_true]
  exact x
/-- isinstance(e, C), e the exception that is known, of whichever class -/
theorem call_isY {X : Cx} {a : Addr} {oe : Obj} {cls : Value} {d : Option Addr} (hz : Zc cls d oe) (hf : ∃ vs, oe.data = .fields vs) :
    CallR (keep X a oe) (.builtin "isinstance") (fun xs H Q => ∃ D, cls = .ref D ∧ ExcC X.K D ∧ rIsD d H ∧ rIsE X.K D a xs H Q) := by
  intro pins s σ H xs us Q I r h
  obtain ⟨D, rfl, C, h⟩ := h
  exact call_isX C hz hf pins s σ H xs us Q I r h
/-- what is said of a value by its type stands on another heap too -/
theorem tyOf_but {K : PySem.W.Frag} {H H' : Hp} {v : V} {t : Value} (h : TyOf K H v t) (k : ∀ a o, v = .ref a → H a = some o → H' a = some o) : TyOf K H' v t := by
  cases h with
  | non => exact .non
  | bl => exact .bl _
  | int => exact .int _
  | str => exact .str _
  | flt => exact .flt _
  | lst e => exact .lst (k _ _ rfl e)
  | frz e => exact .frz (k _ _ rfl e)
  | tup e => exact .tup (k _ _ rfl e)
  | dK e => exact .dK (k _ _ rfl e)
  | dT e => exact .dT (k _ _ rfl e)
  | ins e a b c d f => exact .ins (k _ _ rfl e) a b c d f
theorem tyX_but {K : PySem.W.Frag} {H H' : Hp} {v : V} {t : Value} (h : TyX K H v t) (k : ∀ a o, v = .ref a → H a = some o → H' a = some o) : TyX K H' v t := by
  cases h with
  | base b => exact .base (tyOf_but b k)
  | byt => exact .byt _
  | set e => exact .set (k _ _ rfl e)
  | kList e c => exact .kList e c
  | kTuple e c => exact .kTuple e c
  | kDict e c => exact .kDict e c
  | fTuple e => exact .fTuple (k _ _ rfl e)
  | fDict e => exact .fDict (k _ _ rfl e)
/-- within a comprehension: the fragment by its own name -/
theorem pe_fldK {X : Cx} {K : PySem.W.Frag} {e : Expr} {ta : TE} {f : Str} {pos : Pos} (hK : X.K = K) (he : PE X e ta) (hb : attributeBase e f X.env (eval e X.env) = eval e X.env) : PE X (.Attribute e f pos) (tFld K ta f) := hK ▸ pe_fld he hb
end Z
/-! Base2: sorted lists are one. -/
namespace Z
open PySem PySem.Spec PyProof.Rows L2
theorem sorted_one {α : Type} {r : α → α → Prop} (anti : ∀ a b, r a b → r b a → a = b) : ∀ l1 l2 : List α, l1.Pairwise r → l2.Pairwise r → l1.Perm l2 → l1 = l2
  | [], l2, _, _, p => (List.Perm.nil_eq p)
  | a :: t, [], _, _, p => absurd p.length_eq (by simp)
  | a :: t, b :: u, h1, h2, p => by
    have e : a = b := by
      rcases List.mem_cons.mp (p.mem_iff.mp List.mem_cons_self) with e | m1
      · exact e
      · rcases List.mem_cons.mp (p.mem_iff.mpr List.mem_cons_self) with e | m2
        · exact e.symm
        · exact anti a b (List.rel_of_pairwise_cons h1 m2) (List.rel_of_pairwise_cons h2 m1)
    subst e
    rw [sorted_one anti t u (List.pairwise_cons.mp h1).2 (List.pairwise_cons.mp h2).2 ((List.perm_cons a).mp p)]
def leS (x y : Str) : Prop := x.cps.toList ≤ y.cps.toList
theorem leS_iff {x y : Str} : (!ltCps y.cps.toList x.cps.toList) = true ↔ leS x y := by
  rw [ltCps_eq, Bool.not_eq_true', decide_eq_false_iff_not]
  exact List.not_lt
theorem str_ext {x y : Str} (h : x.cps.toList = y.cps.toList) : x = y := by
  cases x
  cases y
  have := Array.toList_inj.mp h
  subst this
  rfl
theorem leS_anti {x y : Str} (h : leS x y) (k : leS y x) : x = y := str_ext (List.le_antisymm h k)
theorem rising_pair : ∀ (r : List Str) (p : Str), risingS p r = true → (p :: r).Pairwise leS
  | [], p, _ => by simp
  | x :: r, p, h => by
    obtain ⟨h1, h2⟩ := Bool.and_eq_true_iff.mp (show (!ltCps x.cps.toList p.cps.toList && risingS x r) = true from h)
    have h1' := leS_iff.mp h1
    have k := rising_pair r x h2
    refine List.pairwise_cons.mpr ⟨fun y hy => ?_, k⟩
    rcases List.mem_cons.mp hy with rfl | hy
    · exact h1'
    · exact List.le_trans h1' (List.rel_of_pairwise_cons k hy)
theorem sortedS_pair : ∀ l : List Str, sortedS l = true → l.Pairwise leS
  | [], _ => .nil
  | x :: r, h => rising_pair r x h
theorem sortedS_one {l1 l2 : List Str} (h1 : sortedS l1 = true) (h2 : sortedS l2 = true) (p : l1.Perm l2) : l1 = l2 := sorted_one (fun _ _ => leS_anti) _ _ (sortedS_pair _ h1) (sortedS_pair _ h2) p
theorem sortedI_one {l1 l2 : List Int} (h1 : l1.Pairwise (· ≤ ·)) (h2 : l2.Pairwise (· ≤ ·)) (p : l1.Perm l2) : l1 = l2 := sorted_one (fun _ _ a b => Int.le_antisymm a b) _ _ h1 h2 p
theorem kit_self {K : PySem.W.Frag} {C : Addr} : PySem.W.kitOne K (.ref C) (.ref C) = some true := by
  unfold PySem.W.kitOne
  rw [if_pos (by simp)]
theorem kit_ne {K : PySem.W.Frag} {a b : Addr} {v : Bool} (hn : (Value.ref a == Value.ref b) = false) (hdct : PySem.W.hasDictIn K b = true) (ht : PySem.W.typeIn K (.ref b) = some (.type "type")) (h : PySem.W.subIn K (.ref a) (.ref b) = some v) : PySem.W.kitOne K (.ref a) (.ref b) = some v := by
  obtain ⟨cd, hc, _⟩ := PySem.W.any_some hdct
  have e2 : ((PySem.W.clsIn K b).isSome && PySem.W.typeIn K (.ref b) == some (.type "type")) = true := by rw [hc, ht] <;> rfl
  show (if (Value.ref a == Value.ref b) = true then some true else (if ((PySem.W.clsIn K b).isSome && PySem.W.typeIn K (.ref b) == some (.type "type")) = true then PySem.W.subIn K (.ref a) (.ref b) else none)) = some v
  rw [hn, if_neg Bool.false_ne_true, if_pos e2]
  exact h
end Z
/-! Lam1: a lambda with parameters, handed to a def and called there. -/
namespace Z
open PySem PySem.Spec PyProof.Rows L2 LamX NdefX
/-- the object at f is the lambda of the words F, its body b -/
def LamO (f : Addr) (F : NF) (b : Expr) : HO := .ext fun h => ∃ (pm ctv : Value), h.get? f = some (PySem.W.kla_obj "<lambda>" F.qual F.params b F.scope F.cl pm F.c ctv)
theorem lamO_at {P : Program} {w : World} {H : Hp} {h : Heap} {f : Addr} {F : NF} {b : Expr} (hok : HOk P w H h) (e : H f = some (LamO f F b)) : ∃ (pm ctv : Value), h.get? f = some (PySem.W.kla_obj "<lambda>" F.qual F.params b F.scope F.cl pm F.c ctv) := by
  obtain ⟨z, _, _⟩ := hok f _ e
  exact z
section
variable {X : Cx} {pins : List (Addr × Obj)} {σ : L2.St} {H : Hp} {s : Shared}
theorem inv_lam {F : NF} {b : Expr} {t' : Nat} {pm ctv : Value} (I : Inv X pins σ H s) :
    Inv X pins σ (upd H s.heap.objs.size (LamO s.heap.objs.size F b)) { s with heap := s.heap.push (PySem.W.kla_obj "<lambda>" F.qual F.params b F.scope F.cl pm F.c ctv), toks := t' } := by
  refine I.laid (a := s.heap.objs.size) (fun b u e => Heap.get?_push_of_some _ e) (Nat.le_refl _) ?_
  have e : (s.heap.push (PySem.W.kla_obj "<lambda>" F.qual F.params b F.scope F.cl pm F.c ctv)).get? s.heap.objs.size = some (PySem.W.kla_obj "<lambda>" F.qual F.params b F.scope F.cl pm F.c ctv) := Heap.get?_push_size _ rfl
  exact ⟨⟨pm, ctv, e⟩, ⟨_, e⟩, fun h1 h2 ⟨p, t, z⟩ st => ⟨p, t, st _ z⟩⟩
/-- the lambda is made and known: its code object is new, or found in the table -/
theorem lam_make3 {T : List (Addr × Str)} {c P : Addr} {params : Arguments} {body : Expr} {scope : Scope} {pos : Pos} {E : Value → Shared → Prop} {Q : Value → Shared → Prop} (I : Inv X pins σ H s) (TB : TabB X.base X.mg c P) (hcode : X.env.code = .ref c)
    (hm : (P, X.env.qual ++ "<lambda>") ∈ T) (hu : ∀ p ∈ T, p.1 = P → p.2 = X.env.qual ++ "<lambda>") (hT : Tabs T H) (hdef : defaultsOf params X.env = ([], [])) (hfree : ∀ y ∈ scope.names, y.2 = .free → ∃ c, X.env.cells.lookup y.1 = some c)
    (h : ∀ (f c' : Addr) (H1 : Hp) (s' : Shared), Inv X pins σ H1 s' → But [P] H H1 → Tabs T H1 → H f = none → H1 f = some (LamO f ⟨"<lambda>", X.env.qual ++ "<lambda>", params, [], scope, cloFrom X.env.cells scope.names [], c'⟩ body) → H1 c' = some (CodeO c' (X.env.qual ++ "<lambda>")) → Q (.ref f) s') :
    wpAny (model X.prog X.w) X.A (eval (.Lambda params body scope pos) X.env) Q E s := by
  obtain ⟨ps, hP, ht, ha⟩ := hT _ hm
  refine PySem.W.kla_eval hdef ?_
  have bP : s.heap.BuiltinsAt X.mg P := TB.bm.keeps I.bk
  have hP' : s.heap.get? P = some { cls := .none, data := .fields ps } := I.hok P _ hP
  have tabs_new : ∀ {H1 : Hp} {a : Addr} {o : HO}, H1 a = none → Tabs T H1 → Tabs T (upd H1 a o) := fun {H1 a o} n t => t.ext fun b u e => by
    rw [upd_ne (ne_of_none e n)]
    exact e
  cases hc : codeAmong pos ps.toList with
  | none =>
    refine PySem.W.kla_makeFunction (mg := X.mg) (c := c) (P := P) (ps := ps) (closure_ok hfree) I.ok.glob (I.mod.glob.keeps I.bk) hcode (TB.code.keeps I.bk) hP' ht hc TB.gP bP fun c' ctv h' tk hx hge hlt hrec htb => ?_
    obtain ⟨c2, oc, vs, t, e2, hoc, hd, hv⟩ := hrec
    cases e2
    have hsz : s.heap.objs.size ≤ h'.objs.size := Nat.le_trans hge (Nat.le_of_lt hlt)
    have nC : H c' = none := I.hok.fresh hge
    have I1 := inv_table (t' := tk) (more := #[rawInt pos.line, rawInt pos.col, .ref c']) (h' := h') I hP (fun b o hb e => hx b o hb e) htb hge ⟨oc, vs, t, hoc, hd, hv⟩
    have hE : ExtN H (upd (upd H P (.tbl (ps ++ #[rawInt pos.line, rawInt pos.col, .ref c']))) c' (CodeO c' (X.env.qual ++ "<lambda>"))) := fun b o e n => by
      rw [upd_ne (ne_of_none e nC), upd_ne (fun z => n ps (Option.some.inj (e.symm.trans (by rw [z]; exact hP))))]
      exact e
    have hB : But [P] H (upd (upd H P (.tbl (ps ++ #[rawInt pos.line, rawInt pos.col, .ref c']))) c' (CodeO c' (X.env.qual ++ "<lambda>"))) := (But.refl.put (by simp)).new nC
    have eL : (ps ++ #[rawInt pos.line, rawInt pos.col, .ref c']).toList = ps.toList ++ [rawInt pos.line, rawInt pos.col, .ref c'] := by simp
    have T1 : Tabs T (upd (upd H P (.tbl (ps ++ #[rawInt pos.line, rawInt pos.col, .ref c']))) c' (CodeO c' (X.env.qual ++ "<lambda>"))) := fun p hp => by
      by_cases hb : p.1 = P
      · rw [hu p hp hb, hb]
        refine ⟨_, by rw [upd_ne (ne_of_none hP nC), upd_same], by rw [eL]; exact PySem.TriplesOk_snoc _ _ _ _ ht, fun p' cv hcv => ?_⟩
        rw [eL] at hcv
        rcases among_app _ ht hcv with z | z
        · obtain ⟨c0, e1, e2⟩ := ha p' cv z
          exact ⟨c0, e1, hE _ _ e2 codeO_ne⟩
        · exact ⟨c', z, upd_same⟩
      · obtain ⟨ps', a1, a2, a3⟩ := hT p hp
        refine ⟨ps', by rw [upd_ne (ne_of_none a1 nC), upd_ne hb]; exact a1, a2, fun p' cv hcv => ?_⟩
        obtain ⟨c0, e1, e2⟩ := a3 p' cv hcv
        exact ⟨c0, e1, hE _ _ e2 codeO_ne⟩
    have n1 := I1.hok.fresh (Nat.le_refl _)
    refine h h'.objs.size c' _ _ (inv_lam (F := ⟨"<lambda>", X.env.qual ++ "<lambda>", params, [], scope, cloFrom X.env.cells scope.names [], c'⟩) (b := body) I1) (hB.trans (.of fun b o e => by rw [upd_ne (ne_of_none e n1)]; exact e)) (tabs_new n1 T1) (I.hok.fresh hsz) upd_same ?_
    rw [upd_ne (Nat.ne_of_lt hlt), upd_same]
  | some cv =>
    obtain ⟨c', e, hco⟩ := ha pos cv hc
    subst e
    refine PySem.W.kla_makeFunctionHit (mg := X.mg) (c := c) (P := P) (ps := ps) (closure_ok hfree) I.ok.glob (I.mod.glob.keeps I.bk) hcode (TB.code.keeps I.bk) hP' ht hc bP fun ctv h' tk hx hsz => ?_
    have I1 : Inv X pins σ H { s with heap := h', toks := tk } := I.kept hx
    have n1 := I1.hok.fresh (Nat.le_refl _)
    refine h h'.objs.size c' _ _ (inv_lam (F := ⟨"<lambda>", X.env.qual ++ "<lambda>", params, [], scope, cloFrom X.env.cells scope.names [], c'⟩) (b := body) I1) (.of fun b o e => by rw [upd_ne (ne_of_none e n1)]; exact e) (tabs_new n1 hT) (I.hok.fresh hsz) upd_same ?_
    rw [upd_ne (ne_of_none hco n1)]
    exact hco
/-- lambda x: body, as a value -/
def tLamV (P : Addr) (T : List (Addr × Str)) (mk : Addr → NF) (b : Expr) : TE := fun σ H Q => Tabs T H ∧ ∀ (f c' : Addr) (H1 : Hp), But [P] H H1 → Tabs T H1 → H f = none → H1 f = some (LamO f (mk c') b) → H1 c' = some (CodeO c' (mk c').qual) → Q (.ref f) H1
theorem pe_lam {T : List (Addr × Str)} {c P : Addr} {params : Arguments} {body : Expr} {scope : Scope} {pos : Pos} (TB : TabB X.base X.mg c P) (hcode : X.env.code = .ref c)
    (hm : (P, X.env.qual ++ "<lambda>") ∈ T) (hu : ∀ p ∈ T, p.1 = P → p.2 = X.env.qual ++ "<lambda>") (hdef : defaultsOf params X.env = ([], []))
    (hfree : ∀ y ∈ scope.names, y.2 = .free → X.env.scope.names.lookup y.1 = some .cell ∨ X.env.scope.names.lookup y.1 = some .free) :
    PE X (.Lambda params body scope pos) (tLamV P T (fun c' => ⟨"<lambda>", X.env.qual ++ "<lambda>", params, [], scope, cloFrom X.env.cells scope.names [], c'⟩) body) := by
  refine ⟨fun pins s σ H Q I h => ?_⟩
  obtain ⟨hT, h⟩ := h
  refine lam_make3 I TB hcode hm hu hT hdef (fun y hy e => (hfree y hy e).elim (fun z => I.ok.has _ (.inl z)) fun z => I.ok.has _ (.inr z)) fun f c' H1 s' I1 e1 T1 hf hf1 hc => ?_
  exact ⟨.ref f, H1, I1, rfl, h f c' H1 e1 T1 hf hf1 hc⟩
theorem pe_lamM {T : List (Addr × Str)} {c P : Addr} {params : Arguments} {body : Expr} {scope : Scope} {pos : Pos} (mk : Addr → NF) (hmk : ∀ c', mk c' = ⟨"<lambda>", X.env.qual ++ "<lambda>", params, [], scope, cloFrom X.env.cells scope.names [], c'⟩) (TB : TabB X.base X.mg c P) (hcode : X.env.code = .ref c)
    (hm : (P, X.env.qual ++ "<lambda>") ∈ T) (hu : ∀ p ∈ T, p.1 = P → p.2 = X.env.qual ++ "<lambda>") (hdef : defaultsOf params X.env = ([], []))
    (hfree : ∀ y ∈ scope.names, y.2 = .free → X.env.scope.names.lookup y.1 = some .cell ∨ X.env.scope.names.lookup y.1 = some .free) :
    PE X (.Lambda params body scope pos) (tLamV P T mk body) := by
  have e : mk = fun c' => ⟨"<lambda>", X.env.qual ++ "<lambda>", params, [], scope, cloFrom X.env.cells scope.names [], c'⟩ := funext hmk
  rw [e]
  exact pe_lam TB hcode hm hu hdef hfree
end
/-! ### what a lambda promises -/
structure LOk (P : Program) (w : World) (K : PySem.W.Frag) (mg : Str → Option Value) (base : Heap) (CX : CXT) (k : Nat) (f : Addr) (F : NF) (b : Expr) (ps fr : List Str) (sp : List (Option V) → Sp) : Prop where
  len : ∀ ws vs H Q E, sp ws vs H Q E → vs.length = ps.length
  run : ∀ (A : Around) (outer : List Env) (s : Shared) (H : Hp) (us : List Value) (vs : List V) (ws : List (Option V)) (Q : VK) (E : XK), Room k A → Env0 P w K mg base A outer s H → H f = some (LamO f F b) → H F.c = some (CodeO F.c F.qual) →
    CellsAt F.cl fr ws s.heap H → Vals vs us → sp ws vs H Q E → codeAny (model P w) A (.call (.ref f) ⟨us, []⟩) (CR CX outer P w H s Q E) s
section
variable {CX : CXT} {P : Program} {w : World} {K : PySem.W.Frag} {mg : Str → Option Value} {base : Heap} {N ps fr : List Str} {F : NF} {b : Expr} {f : Addr} {k j : Nat} {sp sp' : List (Option V) → Sp}
theorem lok_of (S : NScope N ps fr F.scope) (hb : ∀ (pm cv ctv : Value) (us : List Value), us.length = ps.length → bindArgs (PySem.W.kla_fn "<lambda>" F.qual F.params b F.scope F.cl pm cv ctv) ⟨us, []⟩ = pure (ps.zip us)) (len : ∀ ws vs H Q E, sp ws vs H Q E → vs.length = ps.length)
    (hbody : ∀ (A : Around) (outer : List Env) (s : Shared) (H : Hp) (vs : List V) (ws : List (Option V)) (Q : VK) (E : XK), Room k (A.deeper (envF F f s.heap.objs.size)) → H f = some (LamO f F b) → H F.c = some (CodeO F.c F.qual) → ws.length = fr.length → sp ws vs H Q E →
      ∃ t, PE (ncx CX P w K mg base N F f A outer s H E) b t ∧ t (startF N vs ws) H Q) :
    LOk P w K mg base CX (k + 1) f F b ps fr sp := by
  refine ⟨len, fun A outer s H us vs ws Q E hr e0 hf hc C r hsp => ?_⟩
  have hl := len _ _ _ _ _ hsp
  have lim : s.heap.NoLimit := e0.mod.nolimit.keeps fun b o e => (e0.bs b o e).1
  obtain ⟨pm, ctv, ho⟩ := lamO_at e0.hok hf
  obtain ⟨⟨oc, vs', t, hoc, hdc, hvc⟩, _, _⟩ := e0.hok _ _ hc
  refine PySem.W.kla_callFunE hr.depth ho rfl S.co S.gen rfl ⟨F.c, oc, vs', t, rfl, hoc, hdc, hvc⟩ ?_
  rw [hb pm (.ref F.c) ctv us (by rw [← r.length]; exact hl)]
  refine wpAny_pure (wpAny_newFunctionEnv S.nocell (fun ⟨n, _⟩ hy => S.par n (List.of_mem_zip hy).1) (fun h₁ hns hsb => ⟨lim.fresh _ hsb, ?_⟩) S.kind)
  show codeAny _ _ (.expr b (envF F f s.heap.objs.size)) _ _
  have kp : ∀ b o, s.heap.get? b = some o → h₁.get? b = some o := fun b o e => hsb.extBut b o (Nat.ne_of_lt (Heap.lt_size e)) (Heap.get?_push_of_some _ e)
  obtain ⟨t, ht, hq⟩ := hbody A outer s H vs ws Q E (hr.deeper _) hf hc C.len hsp
  have I : Inv (ncx CX P w K mg base N F f A outer s H E) [] (startF N vs ws) H { s with heap := h₁, toks := s.toks + (ps.zip us).length } := inv_startN S hr.hd e0 hl r C hns kp
  refine PySem.W.kla_codeExpr (wpAny_mono (ht.run [] _ (startF N vs ws) H Q I hq) (fun u s' hs => ?_) fun e s' hs => hs)
  obtain ⟨v, H', J, rv, q⟩ := hs
  exact ⟨v, H', J.os, J.bare, J.base, J.hok, rv, q⟩
end
/-! ### a call of it, in the def that got it -/
section
variable {X : Cx} {pins : List (Addr × Obj)} {σ : L2.St} {H : Hp} {s : Shared} {cl : List (Str × Addr)} {fr : List Str} {ws : List (Option V)}
theorem cells_later (C : CellsAt cl fr ws X.s_0.heap X.H_0) (hx : X.ex = []) (I : Inv X pins σ H s) : CellsAt cl fr ws s.heap H := by
  have nx : ∀ c : Addr, c ∉ X.ex := fun c => by rw [hx]; simp
  have kp : ∀ y c, cl.lookup y = some c → ∀ v, X.s_0.heap.IsCell c v → s.heap.IsCell c v := fun y c e v ⟨o, ho, hd⟩ => by
    obtain ⟨sl, q⟩ := I.base.any ho (C.all y c e).1 (nx c)
    exact ⟨_, q, hd⟩
  refine ⟨C.len, fun y c e => ?_, C.inj, fun i y e => ?_⟩
  · obtain ⟨n, v, z⟩ := C.all y c e
    refine ⟨?_, v, kp y c e v z⟩
    obtain ⟨o, ho, _⟩ := z
    exact I.base.free c o ho n (nx c)
  · obtain ⟨c, hc, hv⟩ := C.has i y e
    refine ⟨c, hc, fun v ev => ?_⟩
    obtain ⟨u, r, z⟩ := hv v ev
    exact ⟨u, r, kp y c hc _ z⟩
theorem lamAt_of {f : Addr} {F : NF} {b : Expr} (I : Inv X pins σ H s) (e : H f = some (LamO f F b)) : PySem.W.FnAt f s.heap := by
  obtain ⟨pm, ctv, ho⟩ := lamO_at I.hok e
  exact ⟨_, _, _, _, ho⟩
/-- rule(e, ..), the slot i holds the lambda at f -/
def tCallF (f : Addr) (F : NF) (b : Expr) (i : Nat) (R : Sp) (E : XK) (t : TA) : TE := fun σ H Q => σ[i]? = some (some (.ref f)) ∧ H f = some (LamO f F b) ∧
  t σ H fun vs H1 => H1 f = some (LamO f F b) ∧ H1 F.c = some (CodeO F.c F.qual) ∧ R vs H1 Q E
theorem pe_callF {CX : CXT} {f : Addr} {F : NF} {b : Expr} {ps : List Str} {sp : List (Option V) → Sp} {i k j : Nat} {x : Str} {E : XK} {t : TA} {e : Expr} {es : List Expr} {p pos : Pos} (Fn : LOk X.prog X.w X.K X.mg X.base CX k f F b ps fr sp) (C : CellsAt F.cl fr ws X.s_0.heap X.H_0) (hx0 : X.ex = []) (hr : Room j X.A) (hk : k ≤ j) (hx : Passes CX X E)
    (hN : X.N[i]? = some x) (hv : Vis X.env.scope x) (ha : PA X (e :: es) t)
    (hd : (x == ("__debug__" : Str)) = false := by decide) (hcd : (x == ("__classdict__" : Str)) = false := by decide)
    (he : starEach (e :: es) X.env = (false, eval e X.env) :: starEach es X.env := by rfl) (hpl : (backTo pos (starEach es X.env)).any (·.1) = false := by rfl) :
    PE X (.Call (.Name x p) (e :: es) [] pos) (tCallF f F b i (sp ws) E t) := by
  refine ⟨fun pins s σ H Q I h => ?_⟩
  obtain ⟨hs, hf, ht⟩ := h
  refine wpAny_Call_Name_kw (thn ((pe_var (pos := p) hN hv hd hcd).run pins s σ H (fun v H1 => v = .ref f ∧ H1 = H) I ⟨.ref f, hs, rfl, rfl⟩) fun u s1 ⟨v, H1, I1, r1, q1⟩ => ?_)
  obtain ⟨ev, eH⟩ := q1
  subst ev
  rw [eH] at I1
  obtain rfl : u = Value.ref f := r1
  refine PySem.W.callWith_F (first := []) (lamAt_of I1 hf) (thn (ha.run pos pins s1 σ H _ I1 ht) fun us s2 ⟨vs, H2, I2, r, h1, h2, q⟩ => ⟨lamAt_of I2 h1, ?_⟩) he hpl
  show wpAny _ _ (call (.ref f) us) _ _ _
  refine wpAny_call (codeAny_mono (Fn.run X.A X.stack s2 H2 us vs ws Q E (hr.mono hk) I2.env0 h1 h2 (cells_later C hx0 I2) r q) fun r s' hq => ?_)
  cases r with
  | error e => exact hx pins σ H2 s2 e s' I2 hq
  | ok fl =>
    cases fl with
    | ret u => exact I2.after hq
    | next => exact False.elim hq
    | brk => exact False.elim hq
    | cont => exact False.elim hq
end
/-! ### a def that is handed a lambda: its promise is told of the very state -/
structure GOk (P : Program) (w : World) (K : PySem.W.Frag) (mg : Str → Option Value) (base : Heap) (CX : CXT) (k : Nat) (g : Addr) (ps1 : List Str) (kl : Nat) (ps : List Str) (spG : Addr → NF → Expr → Sp → Sp) : Prop where
  len : ∀ f F b R vs H Q E, spG f F b R vs H Q E → vs.length = ps.length
  run : ∀ (A : Around) (outer : List Env) (s : Shared) (H : Hp) (us : List Value) (vs : List V) (f : Addr) (F : NF) (b : Expr) (fr : List Str) (ws : List (Option V)) (sp : List (Option V) → Sp) (Q : VK) (E : XK), Room k A → Env0 P w K mg base A outer s H →
    H f = some (LamO f F b) → H F.c = some (CodeO F.c F.qual) → LOk P w K mg base CX0 kl f F b ps1 fr sp → CellsAt F.cl fr ws s.heap H → Vals vs us → spG f F b (sp ws) vs H Q E → codeAny (model P w) A (.call (.ref g) ⟨us, []⟩) (CR CX outer P w H s Q E) s
/-- .. by its body -/
theorem gok_of {CX : CXT} {P : Program} {w : World} {K : PySem.W.Frag} {mg : Str → Option Value} {base : Heap} {k kl : Nat} {g : Addr} {name qual : Str} {params : Arguments} {body : List Stmt} {scope : Scope} {dV kV doc pm cdv ct oc : Value} {an od : Option Addr}
    {osl : Array (Option Value)} {N ps ps1 : List Str} {spG : Addr → NF → Expr → Sp → Sp} (lk : K.lookup g = some ⟨oc, od, .func (PySem.W.fnOf name qual params body scope dV kV doc pm an cdv ct), osl⟩) (hcd : PySem.W.codeIn K cdv qual = true) (S : FnScope N ps scope)
    (hb : L2.Binds K (PySem.W.fnOf name qual params body scope dV kV doc pm an cdv ct) ps []) (len : ∀ f F b R vs H Q E, spG f F b R vs H Q E → vs.length = ps.length)
    (hbody : ∀ (A : Around) (outer : List Env) (s : Shared) (H : Hp) (vs : List V) (f : Addr) (F : NF) (b : Expr) (fr : List Str) (ws : List (Option V)) (sp : List (Option V) → Sp) (Q : VK) (E : XK), Room k (A.deeper (envOfC qual scope s.heap.objs.size g cdv)) →
      H f = some (LamO f F b) → H F.c = some (CodeO F.c F.qual) → LOk P w K mg base CX0 kl f F b ps1 fr sp → CellsAt F.cl fr ws s.heap H → spG f F b (sp ws) vs H Q E →
      ∃ t, PSs (cxOf CX P w K mg base N qual scope g cdv A outer s H E) body t ∧ t { nx := fun _ H' => Q .non H', rt := Q } (L2.start N vs) H) :
    GOk P w K mg base CX (k + 1) g ps1 kl ps spG := by
  refine ⟨len, fun A outer s H us vs f F b fr ws sp Q E hr e0 hf hc Fn C r h => ?_⟩
  have KX : K.In s.heap := e0.mod.kin.keeps fun b o e => (e0.bs b o e).1
  have hl := len _ _ _ _ _ _ _ _ h
  have hb' := hb s us KX (by rw [List.append_nil, ← r.length]; exact hl)
  rw [List.append_nil] at hb'
  exact run_ofS lk hcd S hr e0 hb' r hl fun hr' => hbody A outer s H vs f F b fr ws sp Q E hr' hf hc Fn C h
theorem gok_fun {CX : CXT} {P : Program} {w : World} {K : PySem.W.Frag} {mg : Str → Option Value} {base : Heap} {k kl : Nat} {g : Addr} {x qual : Str} {st : Stmt} {fd : FuncData} {N ps ps1 : List Str} {spG : Addr → NF → Expr → Sp → Sp} (F0 : L2.Fun K x qual st g fd) (S : FnScope N ps (defScope st))
    (hb : L2.Binds K fd ps []) (len : ∀ f F b R vs H Q E, spG f F b R vs H Q E → vs.length = ps.length)
    (hbody : ∀ (cdv : Value) (A : Around) (outer : List Env) (s : Shared) (H : Hp) (vs : List V) (f : Addr) (F : NF) (b : Expr) (fr : List Str) (ws : List (Option V)) (sp : List (Option V) → Sp) (Q : VK) (E : XK), Room k (A.deeper (envOfC qual (defScope st) s.heap.objs.size g cdv)) →
      H f = some (LamO f F b) → H F.c = some (CodeO F.c F.qual) → LOk P w K mg base CX0 kl f F b ps1 fr sp → CellsAt F.cl fr ws s.heap H → spG f F b (sp ws) vs H Q E →
      ∃ t, PSs (cxOf CX P w K mg base N qual (defScope st) g cdv A outer s H E) (defBody st) t ∧ t { nx := fun _ H' => Q .non H', rt := Q } (L2.start N vs) H) :
    GOk P w K mg base CX (k + 1) g ps1 kl ps spG := by
  obtain ⟨oc, od, kV, doc, pm, an, cdv, ct, osl, rfl, lk, hcd⟩ := F0.ex
  exact gok_of lk hcd S hb len (hbody cdv)
section
variable {X : Cx}
/-- x(.., lambda): the lambda's words are mk's; js: where the captured names stand -/
def tGive (mk : Addr → NF) (b : Expr) (js : List Nat) (sp : Addr → Addr → List (Option V) → Sp) (spG : Addr → NF → Expr → Sp → Sp) (E : L2.St → XK) (t : TA) : TE := fun σ H Q => t σ H fun vs H1 => ∃ f c', H1 f = some (LamO f (mk c') b) ∧ H1 (mk c').c = some (CodeO (mk c').c (mk c').qual) ∧ spG f (mk c') b (sp f c' (js.map (slotAt σ))) vs H1 Q (E σ)
theorem pe_give {CX : CXT} {x : Str} {g : Addr} {k kl : Nat} {ps ps1 fr : List Str} {js : List Nat} {cl : List (Str × Addr)} {mk : Addr → NF} {b : Expr} {sp : Addr → Addr → List (Option V) → Sp} {spG : Addr → NF → Expr → Sp → Sp} {E : L2.St → XK} {t : TA} {e : Expr} {es : List Expr} {p pos : Pos} (hg : Gl X x) (hm : X.mg x = some (.ref g)) (hk : PySem.W.keepIn X.K (.ref g) = true)
    (G : GOk X.prog X.w X.K X.mg X.base CX k g ps1 kl ps spG) (Fn : ∀ f c', LOk X.prog X.w X.K X.mg X.base CX0 kl f (mk c') b ps1 fr (sp f c')) (hcl : ∀ c', (mk c').cl = cl) (cp : X.Ok → Caps X cl fr js) (hr : Room k X.A) (hx : ∀ σ, PassesAt CX X σ (E σ)) (ha : PA X (e :: es) t)
    (hdb : (x == ("__debug__" : Str)) = false := by decide) (he : starEach (e :: es) X.env = (false, eval e X.env) :: starEach es X.env := by rfl) (hpl : (backTo pos (starEach es X.env)).any (·.1) = false := by rfl) :
    PE X (.Call (.Name x p) (e :: es) [] pos) (tGive mk b js sp spG E t) := by
  refine ⟨fun pins s σ H Q I h => ?_⟩
  refine wpAny_Call_Name_kw (ld_glob I hg hm ?_ hdb)
  refine PySem.W.callWith_K (h₀ := X.base) I.ok.mod.kin hk (thn (ha.run pos pins s σ H _ I h) fun us s1 ⟨vs, H1, I1, r, q⟩ => ⟨I1.kIn, ?_⟩) he hpl
  obtain ⟨f, c', hf, hc, q⟩ := q
  have C : CellsAt (mk c').cl fr (js.map (slotAt σ)) s1.heap H1 := by
    rw [hcl c']
    exact cells_of I1 (cp I1.ok)
  refine wpAny_call (codeAny_mono (G.run X.A X.stack s1 H1 us vs f (mk c') b fr _ (sp f c') Q (E σ) hr I1.env0 hf hc (Fn f c') C r q) fun r s' hq => ?_)
  cases r with
  | error e => exact hx σ pins H1 s1 e s' I1 hq
  | ok fl =>
    cases fl with
    | ret u => exact I1.after hq
    | next => exact False.elim hq
    | brk => exact False.elim hq
    | cont => exact False.elim hq
end
/-! ### a def whose code object is known -/
structure FunC (K : PySem.W.Frag) (x qual : Str) (st : Stmt) (f : Addr) (fd : FuncData) (c : Addr) : Prop where
  ex : ∃ (oc : Value) (od : Option Addr) (kV doc pm : Value) (an : Option Addr) (ct : Value) (osl : Array (Option Value)),
    fd = PySem.W.fnOf x qual (defArgs st) (defBody st) (defScope st) .none kV doc pm an (.ref c) ct ∧ K.lookup f = some ⟨oc, od, .func fd, osl⟩ ∧ PySem.W.codeIn K (.ref c) qual = true
  kp : PySem.W.keepIn K (.ref f) = true
section
variable {P : Program} {w : World} {K : PySem.W.Frag} {mg : Str → Option Value} {base : Heap} {x qual : Str} {st : Stmt} {f c : Addr} {fd : FuncData} {N ps : List Str} {k : Nat} {sp : Sp}
theorem FunC.fn (F : FunC K x qual st f fd c) : L2.Fun K x qual st f fd := by
  obtain ⟨oc, od, kV, doc, pm, an, ct, osl, e, lk, hcd⟩ := F.ex
  exact ⟨⟨oc, od, kV, doc, pm, an, .ref c, ct, osl, e, lk, hcd⟩, F.kp⟩
theorem FunC.ok (F : FunC K x qual st f fd c) (S : FnScope N ps (defScope st)) (len : ∀ vs H Q E, sp vs H Q E → vs.length = ps.length)
    (hbody : ∀ (A : Around) (outer : List Env) (s : Shared) (H : Hp) (vs : List V) (Q : VK) (E : XK), Room k (A.deeper (envOfC qual (defScope st) s.heap.objs.size f (.ref c))) → sp vs H Q E →
      ∃ t, PSs (cxOf CX0 P w K mg base N qual (defScope st) f (.ref c) A outer s H E).nox (defBody st) t ∧ t { nx := fun _ H' => Q .non H', rt := Q } (L2.start N vs) H) : FnOk P w K mg base CX0 (k + 1) f fd ps sp := by
  obtain ⟨oc, od, kV, doc, pm, an, ct, osl, rfl, lk, hcd⟩ := F.ex
  refine fn_of lk hcd S len fun A outer s H vs Q E hr hsp => ?_
  obtain ⟨t, h, q⟩ := hbody A outer s H vs Q E hr hsp
  exact ⟨t, h.nox, q⟩
end
/-- the parts of a lambda -/
def lamP : Expr → Arguments
  | .Lambda p _ _ _ => p
  | _ => ⟨[], [], none, [], [], none, []⟩
def lamB : Expr → Expr
  | .Lambda _ b _ _ => b
  | e => e
def lamS : Expr → Scope
  | .Lambda _ _ s _ => s
  | _ => defScope (.Pass ⟨0, 0, 0, 0⟩)
/-- a list at an address that is written alone: tables stay -/
theorem tabs_but {T : List (Addr × Str)} {H H' : Hp} {l : List Addr} (t : Tabs T H) (b : But l H H') (h : ∀ x ∈ l, (∃ ys, H x = some (.lst ys)) ∨ H x = none) : Tabs T H' := by
  have nn : ∀ {a : Addr} {o : HO}, H a = some o → (∀ ys, o ≠ .lst ys) → a ∉ l := fun {a o} e n m => by
    rcases h a m with ⟨ys, z⟩ | z
    · rw [e] at z
      exact n ys (Option.some.inj z)
    · rw [e] at z
      cases z
  intro p hp
  obtain ⟨ps, h1, h2, h3⟩ := t p hp
  refine ⟨ps, b _ _ h1 (nn h1 (fun _ z => by cases z)), h2, fun pos cv hc => ?_⟩
  obtain ⟨c, e1, e2⟩ := h3 pos cv hc
  exact ⟨c, e1, b _ _ e2 (nn e2 (fun _ z => by unfold CodeO at z; cases z))⟩
theorem passL_at {X : Cx} (σ : L2.St) : PassesAt (L2.CX X.prog X.w) X σ E0 := fun _ _ _ _ _ _ h => by
  obtain ⟨_, _, _, _, _, _, _, _, _, _, _, _, z⟩ := h
  exact z.elim
end Z
/-! Dag: elders, lines of elders; lists without a double. -/
namespace Z
open PySem PySem.Spec PyProof.Rows L2
theorem nodup_le : ∀ l1 l2 : List Int, l1.Nodup → (∀ x ∈ l1, x ∈ l2) → l1.length ≤ l2.length
  | [], _, _, _ => Nat.zero_le _
  | a :: t, l2, h, k => by
    have ha := k a List.mem_cons_self
    have hn := List.nodup_cons.mp h
    have := nodup_le t (l2.erase a) hn.2 fun x hx => (List.mem_erase_of_ne (fun z => hn.1 (by rw [← z]; exact hx))).mpr (k x (List.mem_cons_of_mem _ hx))
    rw [List.length_erase_of_mem ha] at this
    have : 0 < l2.length := List.length_pos_of_mem ha
    rw [List.length_cons]
    omega
theorem nil_or_snoc {α : Type} (l : List α) : l = [] ∨ ∃ t a, l = t ++ [a] := by
  cases l with
  | nil => exact .inl rfl
  | cons x r => exact .inr ⟨(x :: r).dropLast, (x :: r).getLast (by simp), (List.dropLast_concat_getLast (by simp)).symm⟩
/-- x is k or an elder's elder of it -/
inductive Anc (g : Int → List Int) : Int → Int → Prop
  | refl (k : Int) : Anc g k k
  | step {k e x : Int} : e ∈ g k → Anc g e x → Anc g k x
theorem Anc.trans {g : Int → List Int} {a b c : Int} (h : Anc g a b) (k : Anc g b c) : Anc g a c := by
  induction h with
  | refl => exact k
  | step m _ ih => exact .step m (ih k)
theorem Anc.snoc {g : Int → List Int} {a b c : Int} (h : Anc g a b) (k : c ∈ g b) : Anc g a c := h.trans (.step k (.refl c))
theorem Anc.le {g : Int → List Int} (hg : ∀ k, ∀ e ∈ g k, e < k) {a b : Int} (h : Anc g a b) : b ≤ a := by
  induction h with
  | refl => exact Int.le_refl _
  | step m _ ih => have := hg _ _ m; omega
theorem Anc.lt {g : Int → List Int} (hg : ∀ k, ∀ e ∈ g k, e < k) {a b : Int} (h : Anc g a b) (n : b ≠ a) : b < a := by
  have := h.le hg
  omega
theorem anc_iff {g : Int → List Int} {a b : Int} : Anc g a b ↔ a = b ∨ ∃ e ∈ g a, Anc g e b := by
  constructor
  · intro h
    cases h with
    | refl => exact .inl rfl
    | step m k => exact .inr ⟨_, m, k⟩
  · rintro (rfl | ⟨e, m, k⟩)
    · exact .refl _
    · exact .step m k
/-- a closed set holds the whole line -/
theorem anc_closed {g : Int → List Int} {l : List Int} (h : ∀ x ∈ l, ∀ e ∈ g x, e ∈ l) {a b : Int} (k : Anc g a b) (ha : a ∈ l) : b ∈ l := by
  induction k with
  | refl => exact ha
  | step m _ ih => exact ih (h _ ha _ m)
theorem lt_of_le_nodup {l : List Int} (h : l.Pairwise (· ≤ ·)) (n : l.Nodup) : l.Pairwise (· < ·) := by
  induction l with
  | nil => exact .nil
  | cons a t ih =>
    have h1 := List.pairwise_cons.mp h
    have n1 := List.nodup_cons.mp n
    refine List.pairwise_cons.mpr ⟨fun x hx => ?_, ih h1.2 n1.2⟩
    have := h1.1 x hx
    have : a ≠ x := fun z => n1.1 (by rw [z]; exact hx)
    omega
theorem lt_one {l1 l2 : List Int} (h1 : l1.Pairwise (· < ·)) (h2 : l2.Pairwise (· < ·)) (e : ∀ x, x ∈ l1 ↔ x ∈ l2) : l1 = l2 := by
  have d : ∀ {l : List Int}, l.Pairwise (· < ·) → l.Nodup := fun h => h.imp fun h => Int.ne_of_lt h
  exact sortedI_one (h1.imp Int.le_of_lt) (h2.imp Int.le_of_lt) ((List.perm_ext_iff_of_nodup (d h1) (d h2)).mpr e)
theorem lt_nodup {l : List Int} (h : l.Pairwise (· < ·)) : l.Nodup := h.imp fun h => Int.ne_of_lt h
/-! dicts of ints that are all True -/
abbrev knD (l : List Int) : List (Key × V) := l.map fun x => ((Sum.inl x : Key), V.bl true)
theorem kn_keys (l : List Int) : (knD l).map (·.1) = l.map Sum.inl := by
  unfold knD
  rw [List.map_map]
  rfl
theorem kn_in {l : List Int} {k : Int} {v : V} (h : valV (knD l) (Sum.inl k) = some v) : k ∈ l := by
  have z := valV_in h
  rw [kn_keys] at z
  obtain ⟨a, m, e⟩ := List.mem_map.mp z
  cases e
  exact m
theorem kn_no {l : List Int} {k : Int} (h : valV (knD l) (Sum.inl k) = none) : k ∉ l := fun m => by
  have z := valV_not h
  rw [kn_keys] at z
  exact z (List.mem_map.mpr ⟨k, m, rfl⟩)
theorem kn_not {l : List Int} {k : Int} (h : k ∉ l) : valV (knD l) (Sum.inl k) = none := by
  cases e : valV (knD l) (Sum.inl k : Key) with
  | none => rfl
  | some v => exact (h (kn_in e)).elim
theorem kn_some {l : List Int} {k : Int} (h : k ∈ l) : ∃ v, valV (knD l) (Sum.inl k) = some v := by
  cases e : valV (knD l) (Sum.inl k : Key) with
  | none => exact (kn_no e h).elim
  | some v => exact ⟨v, rfl⟩
theorem kn_put {l : List Int} {k : Int} (h : k ∉ l) : putK (knD l) (Sum.inl k) (.bl true) = knD (l ++ [k]) := by
  rw [putK_new _ (kn_not h)]
  unfold knD
  rw [List.map_append]
  rfl
theorem kn_put_in {l : List Int} {k : Int} (h : k ∈ l) : putK (knD l) (Sum.inl k) (.bl true) = knD l := by
  obtain ⟨v, e⟩ := kn_some h
  unfold putK
  split
  · unfold knD
    rw [List.map_map]
    refine List.map_congr_left fun x _ => ?_
    show (if (Sum.inl x : Key) = Sum.inl k then _ else _) = _
    by_cases z : (Sum.inl x : Key) = Sum.inl k
    · rw [if_pos z]
    · rw [if_neg z]
  · rename_i hno
    exfalso
    have z := valV_in e
    simp_all
end Z
namespace Z
open PySem PySem.Spec PyProof.Rows L2
def top (i : Nat) : Stmt := PySem.Challenge.pw_twigtable_k66_whole_first_broken.main.body.getD i (.Pass ⟨0, 0, 0, 0⟩)
abbrev s_NoMake_init : Stmt := inClass (top 4) 0
theorem sc_NoMake_init : FnScope ["self", "number"] ["self", "number"] (defScope s_NoMake_init) := ⟨rfl, rfl, rfl, by decide +kernel, rfl, by decide +kernel, by decide +kernel⟩
abbrev s_NotBroken_init : Stmt := inClass (top 5) 0
theorem sc_NotBroken_init : FnScope ["self", "number"] ["self", "number"] (defScope s_NotBroken_init) := ⟨rfl, rfl, rfl, by decide +kernel, rfl, by decide +kernel, by decide +kernel⟩
abbrev s_greater_part : Stmt := top 7
theorem sc_greater_part : FnScope ["makes", "still", "number", "line", "share", "one"] ["makes", "still", "number"] (defScope s_greater_part) := ⟨rfl, rfl, rfl, by decide +kernel, rfl, by decide +kernel, by decide +kernel⟩
abbrev s_next_asked : Stmt := top 8
theorem sc_next_asked : FnScope ["makes", "still", "top", "found", "least", "number", "part"] ["makes", "still", "top"] (defScope s_next_asked) := ⟨rfl, rfl, rfl, by decide +kernel, rfl, by decide +kernel, by decide +kernel⟩
abbrev s_first_broken : Stmt := top 9
theorem sc_first_broken : FnScope ["makes", "number", "rule", "still", "top", "asked", "one", "line", "broken", "kin"] ["makes", "number", "rule"] (defScope s_first_broken) := ⟨rfl, rfl, rfl, by decide +kernel, rfl, by decide +kernel, by decide +kernel⟩
abbrev s_no_table : Stmt := top 11
theorem sc_no_table : FnScope [] [] (defScope s_no_table) := ⟨rfl, rfl, rfl, by decide +kernel, rfl, by decide +kernel, by decide +kernel⟩
abbrev s_Makes_init : Stmt := inClass (top 13) 0
theorem sc_Makes_init : FnScope ["self"] ["self"] (defScope s_Makes_init) := ⟨rfl, rfl, rfl, by decide +kernel, rfl, by decide +kernel, by decide +kernel⟩
abbrev s_Makes_need : Stmt := inClass (top 13) 1
theorem sc_Makes_need : FnScope ["self", "number"] ["self", "number"] (defScope s_Makes_need) := ⟨rfl, rfl, rfl, by decide +kernel, rfl, by decide +kernel, by decide +kernel⟩
abbrev s_Makes_made : Stmt := inClass (top 13) 2
theorem sc_Makes_made : FnScope ["self", "elders", "table", "some", "elder", "number"] ["self", "elders", "table"] (defScope s_Makes_made) := ⟨rfl, rfl, rfl, by decide +kernel, rfl, by decide +kernel, by decide +kernel⟩
abbrev s_Makes_elders : Stmt := inClass (top 13) 3
theorem sc_Makes_elders : FnScope ["self", "number"] ["self", "number"] (defScope s_Makes_elders) := ⟨rfl, rfl, rfl, by decide +kernel, rfl, by decide +kernel, by decide +kernel⟩
abbrev s_Makes_line : Stmt := inClass (top 13) 5
theorem sc_Makes_line : FnScope ["self", "number", "todo", "known", "one", "elder"] ["self", "number"] (defScope s_Makes_line) := ⟨rfl, rfl, rfl, by decide +kernel, rfl, by decide +kernel, by decide +kernel⟩
abbrev s_Makes_numbers : Stmt := inClass (top 13) 6
theorem sc_Makes_numbers : FnScope ["self"] ["self"] (defScope s_Makes_numbers) := ⟨rfl, rfl, rfl, by decide +kernel, rfl, by decide +kernel, by decide +kernel⟩
abbrev s_lw_cell : Stmt := top 15
theorem sc_lw_cell : FnScope ["_law_script", "_law_k"] ["_law_script", "_law_k"] (defScope s_lw_cell) := ⟨rfl, rfl, rfl, by decide +kernel, rfl, by decide +kernel, by decide +kernel⟩
abbrev s_lw_whole : Stmt := top 16
theorem sc_lw_whole : FnScope ["_law_found_here"] ["_law_found_here"] (defScope s_lw_whole) := ⟨rfl, rfl, rfl, by decide +kernel, rfl, by decide +kernel, by decide +kernel⟩
abbrev s_lw_mix : Stmt := top 17
theorem sc_lw_mix : FnScope ["_law_cell_here", "_law_k", "_law_number"] ["_law_cell_here", "_law_k"] (defScope s_lw_mix) := ⟨rfl, rfl, rfl, by decide +kernel, rfl, by decide +kernel, by decide +kernel⟩
abbrev s_lw_elders : Stmt := top 18
theorem sc_lw_elders : FnScope ["_law_cell_here", "_law_k", "_law_one", "_law_other"] ["_law_cell_here", "_law_k"] (defScope s_lw_elders) := ⟨rfl, rfl, rfl, by decide +kernel, rfl, by decide +kernel, by decide +kernel⟩
abbrev s_lw_lines : Stmt := top 19
theorem sc_lw_lines : FnScope ["_law_kin", "_law_lines_here", "_law_k", "_law_line", "_law_elder", "_law_one"] ["_law_kin"] (defScope s_lw_lines) := ⟨rfl, rfl, rfl, by decide +kernel, rfl, by decide +kernel, by decide +kernel⟩
abbrev s_lw_history : Stmt := top 20
theorem sc_lw_history : FnScope ["_law_makes", "_law_cells", "_law_kin", "_law_k", "_law_elders_here"] ["_law_makes", "_law_cells"] (defScope s_lw_history) := ⟨rfl, rfl, rfl, by decide +kernel, rfl, by decide +kernel, by decide +kernel⟩
abbrev s_lw_say : Stmt := top 21
theorem sc_lw_say : FnScope ["_law_calls", "_law_broken", "_law_number"] ["_law_calls", "_law_broken", "_law_number"] (defScope s_lw_say) := ⟨rfl, rfl, rfl, by decide +kernel, rfl, by decide +kernel, by decide +kernel⟩
abbrev s_lw_next : Stmt := top 22
theorem sc_lw_next : FnScope ["_law_lines_here", "_law_still", "_law_top", "_law_due_here", "_law_least", "_law_number", "_law_share", "_law_one", "_law_worse"] ["_law_lines_here", "_law_still", "_law_top"] (defScope s_lw_next) := ⟨rfl, rfl, rfl, by decide +kernel, rfl, by decide +kernel, by decide +kernel⟩
abbrev s_lw_due : Stmt := top 23
theorem sc_lw_due : FnScope ["_law_lines_here", "_law_number", "_law_broken", "_law_still", "_law_top", "_law_asked", "_law_one", "_law_heir"] ["_law_lines_here", "_law_number", "_law_broken"] (defScope s_lw_due) := ⟨rfl, rfl, rfl, by decide +kernel, rfl, by decide +kernel, by decide +kernel⟩
abbrev s_lw_found : Stmt := top 24
theorem sc_lw_found : FnScope ["_law_found_here", "_law_due_here", "_law_one"] ["_law_found_here", "_law_due_here"] (defScope s_lw_found) := ⟨rfl, rfl, rfl, by decide +kernel, rfl, by decide +kernel, by decide +kernel⟩
abbrev s_lw_whole_make : Stmt := top 25
theorem sc_lw_whole_make : FnScope ["_law_makes", "_law_number", "_law_broken", "_law_calls", "_law_told", "e"] ["_law_makes", "_law_number", "_law_broken"] (defScope s_lw_whole_make) := ⟨rfl, rfl, rfl, by decide +kernel, rfl, by decide +kernel, by decide +kernel⟩
abbrev s_lw_no_make : Stmt := top 26
theorem sc_lw_no_make : FnScope ["_law_makes", "_law_number", "_law_calls", "_law_told", "e"] ["_law_makes", "_law_number"] (defScope s_lw_no_make) := ⟨rfl, rfl, rfl, by decide +kernel, rfl, by decide +kernel, by decide +kernel⟩
abbrev s_lw_once : Stmt := top 27
theorem sc_lw_once : FnScope ["_law_makes", "_law_number", "_law_broken", "_law_due_here", "_law_calls", "_law_found_here", "_law_one"] ["_law_makes", "_law_number", "_law_broken", "_law_due_here"] (defScope s_lw_once) := ⟨rfl, rfl, rfl, by decide +kernel, rfl, by decide +kernel, by decide +kernel⟩
abbrev s_lw_searched : Stmt := top 28
theorem sc_lw_searched : FnScope ["_law_makes", "_law_lines_here", "_law_number", "_law_broken", "_law_due_here"] ["_law_makes", "_law_lines_here", "_law_number", "_law_broken"] (defScope s_lw_searched) := ⟨rfl, rfl, rfl, by decide +kernel, rfl, by decide +kernel, by decide +kernel⟩
abbrev s_law : Stmt := top 29
theorem sc_law : FnScope ["_law_script", "_law_makes", "_law_cells", "_law_cell_here", "_law_k", "_law_kin", "_law_lines_here", "_law_number", "_law_share", "_law_far", "_law_start", "_law_broken"] ["_law_script"] (defScope s_law) := ⟨rfl, rfl, rfl, by decide +kernel, rfl, by decide +kernel, by decide +kernel⟩
def fl_Makes (v0 v1 v2 : V) : List (Str × V) := [("kin", v0), ("states", v1), ("count", v2)]
theorem fl_Makes_kin {v0 v1 v2 : V} : (fl_Makes v0 v1 v2).lookup ("kin" : Str) = some v0 := lkE
theorem fl_Makes_set_kin {v0 v1 v2 y : V} : putF "kin" y (fl_Makes v0 v1 v2) = fl_Makes y v1 v2 := pfE
theorem fl_Makes_states {v0 v1 v2 : V} : (fl_Makes v0 v1 v2).lookup ("states" : Str) = some v1 := (lkN (by decide +kernel)).trans (lkE)
theorem fl_Makes_set_states {v0 v1 v2 y : V} : putF "states" y (fl_Makes v0 v1 v2) = fl_Makes v0 y v2 := (pfN (by decide +kernel)).trans (congrArg _ (pfE))
theorem fl_Makes_count {v0 v1 v2 : V} : (fl_Makes v0 v1 v2).lookup ("count" : Str) = some v2 := (lkN (by decide +kernel)).trans ((lkN (by decide +kernel)).trans (lkE))
theorem fl_Makes_set_count {v0 v1 v2 y : V} : putF "count" y (fl_Makes v0 v1 v2) = fl_Makes v0 v1 y := (pfN (by decide +kernel)).trans (congrArg _ ((pfN (by decide +kernel)).trans (congrArg _ (pfE))))
theorem fl_Makes_m_need {v0 v1 v2 : V} : (fl_Makes v0 v1 v2).lookup ("need" : Str) = none := (lkN (by decide +kernel)).trans ((lkN (by decide +kernel)).trans ((lkN (by decide +kernel)).trans (rfl)))
theorem fl_Makes_m_made {v0 v1 v2 : V} : (fl_Makes v0 v1 v2).lookup ("made" : Str) = none := (lkN (by decide +kernel)).trans ((lkN (by decide +kernel)).trans ((lkN (by decide +kernel)).trans (rfl)))
theorem fl_Makes_m_elders {v0 v1 v2 : V} : (fl_Makes v0 v1 v2).lookup ("elders" : Str) = none := (lkN (by decide +kernel)).trans ((lkN (by decide +kernel)).trans ((lkN (by decide +kernel)).trans (rfl)))
theorem fl_Makes_m_numbers {v0 v1 v2 : V} : (fl_Makes v0 v1 v2).lookup ("numbers" : Str) = none := (lkN (by decide +kernel)).trans ((lkN (by decide +kernel)).trans ((lkN (by decide +kernel)).trans (rfl)))
theorem fl_Makes_m_line {v0 v1 v2 : V} : (fl_Makes v0 v1 v2).lookup ("line" : Str) = none := (lkN (by decide +kernel)).trans ((lkN (by decide +kernel)).trans ((lkN (by decide +kernel)).trans (rfl)))
theorem fl_Makes_made {v0 v1 v2 : V} : putF "count" v2 (putF "states" v1 (putF "kin" v0 [])) = fl_Makes v0 v1 v2 := (congrArg (putF "count" v2) ((congrArg (putF "states" v1) (rfl)).trans ((pfN (by decide +kernel)).trans (congrArg _ (rfl))))).trans ((pfN (by decide +kernel)).trans (congrArg _ ((pfN (by decide +kernel)).trans (congrArg _ (rfl)))))
theorem fl_Makes_len {v0 v1 v2 : V} : (fl_Makes v0 v1 v2).length < 1000 := by show 3 < 1000; decide
structure Top (K : PySem.W.Frag) (mg : Str → Option Value) where
  c_BadElders : Addr
  c_NoMake : Addr
  c_NotBroken : Addr
  c_Makes : Addr
  f_NoMake_init : Addr
  d_NoMake_init : FuncData
  f_NotBroken_init : Addr
  d_NotBroken_init : FuncData
  f_greater_part : Addr
  d_greater_part : FuncData
  f_next_asked : Addr
  d_next_asked : FuncData
  f_first_broken : Addr
  d_first_broken : FuncData
  f_no_table : Addr
  d_no_table : FuncData
  f_Makes_init : Addr
  d_Makes_init : FuncData
  f_Makes_need : Addr
  d_Makes_need : FuncData
  f_Makes_made : Addr
  d_Makes_made : FuncData
  f_Makes_elders : Addr
  d_Makes_elders : FuncData
  f_Makes_line : Addr
  d_Makes_line : FuncData
  f_Makes_numbers : Addr
  d_Makes_numbers : FuncData
  f_lw_cell : Addr
  d_lw_cell : FuncData
  f_lw_whole : Addr
  d_lw_whole : FuncData
  f_lw_mix : Addr
  d_lw_mix : FuncData
  f_lw_elders : Addr
  d_lw_elders : FuncData
  f_lw_lines : Addr
  d_lw_lines : FuncData
  f_lw_history : Addr
  d_lw_history : FuncData
  f_lw_say : Addr
  d_lw_say : FuncData
  f_lw_next : Addr
  d_lw_next : FuncData
  f_lw_due : Addr
  d_lw_due : FuncData
  f_lw_found : Addr
  d_lw_found : FuncData
  f_lw_whole_make : Addr
  d_lw_whole_make : FuncData
  f_lw_no_make : Addr
  d_lw_no_make : FuncData
  f_lw_once : Addr
  d_lw_once : FuncData
  f_lw_searched : Addr
  d_lw_searched : FuncData
  f_law : Addr
  d_law : FuncData
  g_BadElders : mg "BadElders" = some (.ref c_BadElders)
  q_BadElders : PySem.W.keepIn K (.ref c_BadElders) = true
  e_BadElders : PySem.W.subIn K (.ref c_BadElders) (.type "BaseException") = some true
  y_BadElders : PySem.W.typeIn K (.ref c_BadElders) = some (.type "type")
  x_BadElders : PySem.W.excIn K c_BadElders [.type "ValueError", .type "Exception", .type "BaseException", .type "object"] "ValueError.__new__" = true
  g_NoMake : mg "NoMake" = some (.ref c_NoMake)
  q_NoMake : PySem.W.keepIn K (.ref c_NoMake) = true
  e_NoMake : PySem.W.subIn K (.ref c_NoMake) (.type "BaseException") = some true
  y_NoMake : PySem.W.typeIn K (.ref c_NoMake) = some (.type "type")
  O_NoMake : OexC K c_NoMake
  i_NoMake : PySem.W.findIn K (.ref c_NoMake) "__init__" = some (some (.ref f_NoMake_init))
  t_NoMake : PySem.W.typeIn K (.ref f_NoMake_init) = some (.type "function")
  n_NoMake_number : PySem.W.findIn K (.ref c_NoMake) "number" = some none
  g_NotBroken : mg "NotBroken" = some (.ref c_NotBroken)
  q_NotBroken : PySem.W.keepIn K (.ref c_NotBroken) = true
  e_NotBroken : PySem.W.subIn K (.ref c_NotBroken) (.type "BaseException") = some true
  y_NotBroken : PySem.W.typeIn K (.ref c_NotBroken) = some (.type "type")
  O_NotBroken : OexC K c_NotBroken
  i_NotBroken : PySem.W.findIn K (.ref c_NotBroken) "__init__" = some (some (.ref f_NotBroken_init))
  t_NotBroken : PySem.W.typeIn K (.ref f_NotBroken_init) = some (.type "function")
  n_NotBroken_number : PySem.W.findIn K (.ref c_NotBroken) "number" = some none
  g_Makes : mg "Makes" = some (.ref c_Makes)
  C_Makes : Cls K c_Makes
  K_Makes : Mk K c_Makes f_Makes_init
  M_Makes_need : Meth K c_Makes "need" f_Makes_need
  M_Makes_made : Meth K c_Makes "made" f_Makes_made
  M_Makes_elders : Meth K c_Makes "elders" f_Makes_elders
  M_Makes_line : Meth K c_Makes "line" f_Makes_line
  M_Makes_numbers : Meth K c_Makes "numbers" f_Makes_numbers
  n_Makes_kin : NoAttr K c_Makes "kin"
  n_Makes_states : NoAttr K c_Makes "states"
  n_Makes_count : NoAttr K c_Makes "count"
  F_NoMake_init : Fun K "__init__" "NoMake.__init__" s_NoMake_init f_NoMake_init d_NoMake_init
  b_NoMake_init : Binds K d_NoMake_init ["self", "number"] []
  F_NotBroken_init : Fun K "__init__" "NotBroken.__init__" s_NotBroken_init f_NotBroken_init d_NotBroken_init
  b_NotBroken_init : Binds K d_NotBroken_init ["self", "number"] []
  F_greater_part : Fun K "greater_part" "greater_part" s_greater_part f_greater_part d_greater_part
  b_greater_part : Binds K d_greater_part ["makes", "still", "number"] []
  m_greater_part : mg "greater_part" = some (.ref f_greater_part)
  F_next_asked : Fun K "next_asked" "next_asked" s_next_asked f_next_asked d_next_asked
  b_next_asked : Binds K d_next_asked ["makes", "still", "top"] []
  m_next_asked : mg "next_asked" = some (.ref f_next_asked)
  F_first_broken : Fun K "first_broken" "first_broken" s_first_broken f_first_broken d_first_broken
  b_first_broken : Binds K d_first_broken ["makes", "number", "rule"] []
  m_first_broken : mg "first_broken" = some (.ref f_first_broken)
  F_no_table : Fun K "no_table" "no_table" s_no_table f_no_table d_no_table
  b_no_table : Binds K d_no_table [] []
  m_no_table : mg "no_table" = some (.ref f_no_table)
  F_Makes_init : Fun K "__init__" "Makes.__init__" s_Makes_init f_Makes_init d_Makes_init
  b_Makes_init : Binds K d_Makes_init ["self"] []
  F_Makes_need : Fun K "need" "Makes.need" s_Makes_need f_Makes_need d_Makes_need
  b_Makes_need : Binds K d_Makes_need ["self", "number"] []
  F_Makes_made : Fun K "made" "Makes.made" s_Makes_made f_Makes_made d_Makes_made
  b_Makes_made : Binds K d_Makes_made ["self", "elders", "table"] []
  F_Makes_elders : Fun K "elders" "Makes.elders" s_Makes_elders f_Makes_elders d_Makes_elders
  b_Makes_elders : Binds K d_Makes_elders ["self", "number"] []
  F_Makes_line : Fun K "line" "Makes.line" s_Makes_line f_Makes_line d_Makes_line
  b_Makes_line : Binds K d_Makes_line ["self", "number"] []
  F_Makes_numbers : Fun K "numbers" "Makes.numbers" s_Makes_numbers f_Makes_numbers d_Makes_numbers
  b_Makes_numbers : Binds K d_Makes_numbers ["self"] []
  F_lw_cell : Fun K "_law_cell" "_law_cell" s_lw_cell f_lw_cell d_lw_cell
  b_lw_cell : Binds K d_lw_cell ["_law_script", "_law_k"] []
  m_lw_cell : mg "_law_cell" = some (.ref f_lw_cell)
  F_lw_whole : Fun K "_law_whole" "_law_whole" s_lw_whole f_lw_whole d_lw_whole
  b_lw_whole : Binds K d_lw_whole ["_law_found_here"] []
  m_lw_whole : mg "_law_whole" = some (.ref f_lw_whole)
  F_lw_mix : Fun K "_law_mix" "_law_mix" s_lw_mix f_lw_mix d_lw_mix
  b_lw_mix : Binds K d_lw_mix ["_law_cell_here", "_law_k"] []
  m_lw_mix : mg "_law_mix" = some (.ref f_lw_mix)
  F_lw_elders : Fun K "_law_elders" "_law_elders" s_lw_elders f_lw_elders d_lw_elders
  b_lw_elders : Binds K d_lw_elders ["_law_cell_here", "_law_k"] []
  m_lw_elders : mg "_law_elders" = some (.ref f_lw_elders)
  F_lw_lines : Fun K "_law_lines" "_law_lines" s_lw_lines f_lw_lines d_lw_lines
  b_lw_lines : Binds K d_lw_lines ["_law_kin"] []
  m_lw_lines : mg "_law_lines" = some (.ref f_lw_lines)
  F_lw_history : Fun K "_law_history" "_law_history" s_lw_history f_lw_history d_lw_history
  b_lw_history : Binds K d_lw_history ["_law_makes", "_law_cells"] []
  m_lw_history : mg "_law_history" = some (.ref f_lw_history)
  F_lw_say : Fun K "_law_say" "_law_say" s_lw_say f_lw_say d_lw_say
  b_lw_say : Binds K d_lw_say ["_law_calls", "_law_broken", "_law_number"] []
  m_lw_say : mg "_law_say" = some (.ref f_lw_say)
  F_lw_next : Fun K "_law_next" "_law_next" s_lw_next f_lw_next d_lw_next
  b_lw_next : Binds K d_lw_next ["_law_lines_here", "_law_still", "_law_top"] []
  m_lw_next : mg "_law_next" = some (.ref f_lw_next)
  F_lw_due : Fun K "_law_due" "_law_due" s_lw_due f_lw_due d_lw_due
  b_lw_due : Binds K d_lw_due ["_law_lines_here", "_law_number", "_law_broken"] []
  m_lw_due : mg "_law_due" = some (.ref f_lw_due)
  F_lw_found : Fun K "_law_found" "_law_found" s_lw_found f_lw_found d_lw_found
  b_lw_found : Binds K d_lw_found ["_law_found_here", "_law_due_here"] []
  m_lw_found : mg "_law_found" = some (.ref f_lw_found)
  ca_lw_whole_make : Addr
  F_lw_whole_make : FunC K "_law_whole_make" "_law_whole_make" s_lw_whole_make f_lw_whole_make d_lw_whole_make ca_lw_whole_make
  b_lw_whole_make : Binds K d_lw_whole_make ["_law_makes", "_law_number", "_law_broken"] []
  m_lw_whole_make : mg "_law_whole_make" = some (.ref f_lw_whole_make)
  ca_lw_no_make : Addr
  F_lw_no_make : FunC K "_law_no_make" "_law_no_make" s_lw_no_make f_lw_no_make d_lw_no_make ca_lw_no_make
  b_lw_no_make : Binds K d_lw_no_make ["_law_makes", "_law_number"] []
  m_lw_no_make : mg "_law_no_make" = some (.ref f_lw_no_make)
  ca_lw_once : Addr
  F_lw_once : FunC K "_law_once" "_law_once" s_lw_once f_lw_once d_lw_once ca_lw_once
  b_lw_once : Binds K d_lw_once ["_law_makes", "_law_number", "_law_broken", "_law_due_here"] []
  m_lw_once : mg "_law_once" = some (.ref f_lw_once)
  F_lw_searched : Fun K "_law_searched" "_law_searched" s_lw_searched f_lw_searched d_lw_searched
  b_lw_searched : Binds K d_lw_searched ["_law_makes", "_law_lines_here", "_law_number", "_law_broken"] []
  m_lw_searched : mg "_law_searched" = some (.ref f_lw_searched)
  F_law : Fun K "law" "law" s_law f_law d_law
  b_law : Binds K d_law ["_law_script"] []
  m_law : mg "law" = some (.ref f_law)
  z_bool : mg "bool" = none
  z_int : mg "int" = none
  z_isinstance : mg "isinstance" = none
  z_len : mg "len" = none
  z_list : mg "list" = none
  z_max : mg "max" = none
  z_min : mg "min" = none
  z_range : mg "range" = none
  z_set : mg "set" = none
  z_sorted : mg "sorted" = none
  z_tuple : mg "tuple" = none
  X_NotBroken : XfC K c_NotBroken
  xm_NotBroken : PySem.W.exmOne K (.ref c_NotBroken) (.ref c_NotBroken) = some true
  X_NoMake : XfC K c_NoMake
  xm_NoMake : PySem.W.exmOne K (.ref c_NoMake) (.ref c_NoMake) = some true
end Z
namespace Z
open PySem PySem.Spec PyProof.Rows L2
/-! ### Makes: what an object of it is, and its methods' promises -/
theorem findKV {α : Type} (g : Int × α → V) (k : Int) : ∀ l : List (Int × α), valV (l.map fun x => ((Sum.inl x.1 : Key), g x)) (Sum.inl k) = (l.find? fun x => decide (x.1 = k)).map g
  | [] => rfl
  | x :: r => by
    rw [List.map_cons]
    by_cases e : x.1 = k
    · rw [valV_pos (p := ((Sum.inl x.1 : Key), g x)) (by rw [e]), List.find?_cons_of_pos (by simp [e])]
      rfl
    · rw [valV_neg (p := ((Sum.inl x.1 : Key), g x)) (fun z => e (Sum.inl.inj z)), List.find?_cons_of_neg (by simp [e])]
      exact findKV g k r
theorem keysKV {α : Type} (g : Int × α → V) (l : List (Int × α)) : (l.map fun x => ((Sum.inl x.1 : Key), g x)).map (·.1) = (l.map (·.1)).map Sum.inl := by
  rw [List.map_map, List.map_map]
  rfl
theorem noKV {α : Type} {g : Int × α → V} {l : List (Int × α)} {k : Int} (h : valV (l.map fun x => ((Sum.inl x.1 : Key), g x)) (Sum.inl k) = none) : ¬ k ∈ l.map (·.1) := fun m => by
  have z := valV_not h
  rw [keysKV] at z
  exact z (List.mem_map.mpr ⟨k, m, rfl⟩)
theorem inKV {α : Type} {g : Int × α → V} {l : List (Int × α)} {k : Int} {v : V} (h : valV (l.map fun x => ((Sum.inl x.1 : Key), g x)) (Sum.inl k) = some v) : k ∈ l.map (·.1) := by
  have z := valV_in h
  rw [keysKV] at z
  obtain ⟨a, m, e⟩ := List.mem_map.mp z
  cases e
  exact m
theorem missKV {α : Type} {g : Int × α → V} {l : List (Int × α)} {k : Int} (h : ¬ k ∈ l.map (·.1)) : valV (l.map fun x => ((Sum.inl x.1 : Key), g x)) (Sum.inl k) = none := by
  cases e : valV (l.map fun x => ((Sum.inl x.1 : Key), g x)) (Sum.inl k) with
  | none => rfl
  | some v => exact (h (inKV e)).elim
theorem putKV {α : Type} {g : Int × α → V} {l : List (Int × α)} {x : Int × α} (h : ¬ x.1 ∈ l.map (·.1)) : putK (l.map fun x => ((Sum.inl x.1 : Key), g x)) (Sum.inl x.1) (g x) = (l ++ [x]).map fun x => ((Sum.inl x.1 : Key), g x) := by
  rw [putK_new _ (missKV h), List.map_append]
  rfl
structure MakesAt (C : Addr) (H : Hp) (p dk ds : Addr) (ks : List (Int × Addr × List Int)) (ss : List (Int × V)) (n : Int) : Prop where
  ob : ∃ dx, H p = some (.ins C dx (fl_Makes (.ref dk) (.ref ds) (.int n)))
  hk : H dk = some (.dK (ks.map fun k => ((Sum.inl k.1 : Key), V.ref k.2.1)))
  hs : H ds = some (.dK (ss.map fun k => ((Sum.inl k.1 : Key), k.2)))
  ht : ∀ k ∈ ks, H k.2.1 = some (.tup (k.2.2.map V.int))
  ne : dk ≠ ds
theorem MakesAt.same {C p dk ds : Addr} {H H' : Hp} {ks : List (Int × Addr × List Int)} {ss : List (Int × V)} {n : Int} (M : MakesAt C H p dk ds ks ss n) (s : Same H H') : MakesAt C H' p dk ds ks ss n :=
  ⟨let ⟨dx, h⟩ := M.ob; ⟨dx, s _ _ h⟩, s _ _ M.hk, s _ _ M.hs, fun k hk => s _ _ (M.ht k hk), M.ne⟩
theorem MakesAt.pk {C p dk ds : Addr} {H : Hp} {ks : List (Int × Addr × List Int)} {ss : List (Int × V)} {n : Int} (M : MakesAt C H p dk ds ks ss n) : p ≠ dk := let ⟨_, h⟩ := M.ob; ne_of h M.hk (by intro z; cases z)
theorem MakesAt.pS {C p dk ds : Addr} {H : Hp} {ks : List (Int × Addr × List Int)} {ss : List (Int × V)} {n : Int} (M : MakesAt C H p dk ds ks ss n) : p ≠ ds := let ⟨_, h⟩ := M.ob; ne_of h M.hs (by intro z; cases z)
theorem MakesAt.tne {C p dk ds : Addr} {H : Hp} {ks : List (Int × Addr × List Int)} {ss : List (Int × V)} {n : Int} (M : MakesAt C H p dk ds ks ss n) {k : Int × Addr × List Int} (h : k ∈ ks) : k.2.1 ∉ [p, dk, ds] := by
  obtain ⟨dx, ho⟩ := M.ob
  simp only [List.mem_cons, List.not_mem_nil, or_false, not_or]
  exact ⟨ne_of (M.ht k h) ho (by intro z; cases z), ne_of (M.ht k h) M.hk (by intro z; cases z), ne_of (M.ht k h) M.hs (by intro z; cases z)⟩
section
variable {K : PySem.W.Frag} {mg : Str → Option Value}
def spMakesInit (T : Top K mg) : Sp := fun vs H Q _ => ∃ p dx, vs = [.ref p] ∧ H p = some (.ins T.c_Makes dx []) ∧
  ∀ H' dk ds t u, But [p] H H' → H dk = none → H ds = none → dk ≠ ds → H t = none → MakesAt T.c_Makes H' p dk ds [(0, t, [])] [(0, .ref u)] 1 → Q .non H'
def spNoTable : Sp := fun vs H Q _ => vs = [] ∧ ∀ H' e u, Same H H' → H e = none → H u = none → H' e = some (.tup []) → H' u = some (.tup [.ref e, .non]) → Q (.ref u) H'
def spNeed (T : Top K mg) : Sp := fun vs H Q E => ∃ p dk ds ks ss n k, vs = [.ref p, .int k] ∧ MakesAt T.c_Makes H p dk ds ks ss n ∧ (k ∈ ks.map (·.1) → Q (.int k) H) ∧
  (¬ k ∈ ks.map (·.1) → ∀ d, H d = none → E (.ref T.c_NoMake) (some d) (upd H d (.xd [("number", .int k)])))
def spElders (T : Top K mg) : Sp := fun vs H Q E => ∃ p dk ds ks ss n k, vs = [.ref p, .int k] ∧ MakesAt T.c_Makes H p dk ds ks ss n ∧ (∀ x, (ks.find? fun x => decide (x.1 = k)) = some x → Q (.ref x.2.1) H) ∧
  (¬ k ∈ ks.map (·.1) → ∀ d, H d = none → E (.ref T.c_NoMake) (some d) (upd H d (.xd [("number", .int k)])))
def spNumbers (T : Top K mg) : Sp := fun vs H Q _ => ∃ p dk ds ks ss n, vs = [.ref p] ∧ MakesAt T.c_Makes H p dk ds ks ss n ∧ ks.length < 64 ∧
  ∀ (ys : List Int) (q : Addr), ys.Perm (ks.map (·.1)) → ys.Pairwise (· ≤ ·) → H q = none → Q (.ref q) (upd H q (.lst (ys.map V.int)))
def spMade (T : Top K mg) : Sp := fun vs H Q _ => ∃ p dk ds ks ss n l es tb, vs = [.ref p, .ref l, tb] ∧ MakesAt T.c_Makes H p dk ds ks ss n ∧ SqL K H l (es.map V.int) ∧ es ≠ [] ∧ es.length ≤ 60 ∧ (∃ a b, ∀ x ∈ es, x = a ∨ x = b) ∧
  (∀ x ∈ es, x ∈ ks.map (·.1)) ∧ ks.length ≤ 500 ∧ ss.length ≤ 500 ∧ ¬ n ∈ ks.map (·.1) ∧ ¬ n ∈ ss.map (·.1) ∧
  ∀ H' t so, so.Pairwise (· < ·) → (∀ x, x ∈ so ↔ x ∈ es) → But [p, dk, ds] H H' → H t = none → MakesAt T.c_Makes H' p dk ds (ks ++ [(n, t, so)]) (ss ++ [(n, tb)]) (n + 1) → Q (.int n) H'
end
section
variable {P : Program} {w : World} {K : PySem.W.Frag} {mg : Str → Option Value} {base : Heap}
theorem mk_var {C : Addr} {f : Str} {i : Nat} {σ : L2.St} {H : Hp} {Q : XK} {v : V} (hs : σ[i]? = some (some v)) (h : ∀ d, H d = none → Q (.ref C) (some d) (upd H d (.xd [(f, v)]))) : tMkO C (spExc C f) [] (tCons (tVar i) tNil) σ H Q :=
  mkO_read (ta := tCons (tVar i) tNil) ⟨v, hs, v, rfl, h⟩ fun _ _ _ _ hPR ⟨u, e, q⟩ => ⟨u, e, hPR _ _ q⟩
theorem ok_NoMake_init (T : Top K mg) : FnOk P w K mg base CX0 1 T.f_NoMake_init T.d_NoMake_init ["self", "number"] (spExc T.c_NoMake "number") := by
  refine T.F_NoMake_init.ok sc_NoMake_init (fun vs H Q E h => ?_) (fun cdv A outer s H vs Q E hr h => ?_)
  · obtain ⟨a, v, rfl, _⟩ := h
    rfl
  · obtain ⟨a, v, rfl, ha, k⟩ := h
    refine ⟨_, (pss_one (ps_ost (pv 0) (pv 1))), ?_⟩
    exact ⟨_, rfl, _, rfl, a, _, rfl, T.O_NoMake, T.n_NoMake_number, .inl ⟨ha, fun dx hd ne => k dx hd ne⟩⟩
theorem ok_no_table (T : Top K mg) : FnOk P w K mg base CX0 1 T.f_no_table T.d_no_table [] (spNoTable) := by
  refine T.F_no_table.ok sc_no_table (fun vs H Q E h => ?_) (fun cdv A outer s H vs Q E hr h => ?_)
  · obtain ⟨rfl, _⟩ := h
    rfl
  · obtain ⟨rfl, k⟩ := h
    refine ⟨_, (pss_one (ps_ret (pe_tup (pa_cons (pe_tup pa_nil) (pa_cons pe_non pa_nil))))), ?_⟩
    refine ⟨(by show 0 ≤ sizeLine; decide), fun e he => ⟨(by show 2 ≤ sizeLine; decide), fun u hu => ?_⟩⟩
    have hue : u ≠ e := fun z => by rw [z, upd_same] at hu; cases hu
    have hu0 : H u = none := by rw [upd_ne hue] at hu; exact hu
    exact k _ e u ((same_upd he).new hu0) he hu0 (by rw [upd_ne (Ne.symm hue), upd_same]) upd_same
theorem ok_Makes_init (T : Top K mg) : FnOk P w K mg base CX0 2 T.f_Makes_init T.d_Makes_init ["self"] (spMakesInit T) := by
  refine T.F_Makes_init.ok sc_Makes_init (fun vs H Q E h => ?_) (fun cdv A outer s H vs Q E hr h => ?_)
  · obtain ⟨p, dx, rfl, _⟩ := h
    rfl
  · obtain ⟨p, dx, rfl, hp, k⟩ := h
    refine ⟨_, (pss_cons (ps_fld (pv 0) (pe_disp (pps_cons pe_int (pe_tup pa_nil) pps_nil) (by rfl) (by rfl) (fun z => by cases z) (by decide)) rfl)
      (pss_cons (ps_fld (pv 0) (pe_disp (pps_cons pe_int (pe_call0 (ok_no_table T) (hr.mono (by decide)) (by rfl) T.m_no_table T.F_no_table.kp T.b_no_table .nil pass0) pps_nil) (by rfl) (by rfl) (fun z => by cases z) (by decide)) rfl)
      (pss_one (ps_fld (pv 0) pe_int rfl)))), ?_⟩
    -- self.kin = {0: ()}
    intro dk hdk
    refine ⟨(by show 0 ≤ sizeLine; decide), fun t ht => ?_⟩
    have npk : p ≠ dk := ne_of_none hp hdk
    have ntk : t ≠ dk := fun z => by rw [z, upd_same] at ht; cases ht
    have ht0 : H t = none := by rw [upd_ne ntk] at ht; exact ht
    have npt : p ≠ t := ne_of_none hp ht0
    refine ⟨by rw [upd_ne (Ne.symm ntk), upd_same], [(Sum.inl 0, .ref t)], rfl, (by show 1 ≤ 15; decide), ?_⟩
    have s1 : But [p] H (upd (upd (upd H dk (.dK [])) t (.tup [])) dk (.dK [(Sum.inl 0, .ref t)])) := ((But.refl.new hdk).new ht0).new hdk
    refine ⟨_, rfl, p, T.c_Makes, dx, [], rfl, (by rw [upd_ne npk, upd_ne npt, upd_ne npk]; exact hp), T.C_Makes, T.n_Makes_kin, (by decide), ?_⟩
    -- self.states = {0: no_table()}
    intro ds hds
    have nsp : ds ≠ p := fun z => by rw [z, upd_same] at hds; cases hds
    rw [upd_ne nsp] at hds
    have nsk : ds ≠ dk := fun z => by rw [z, upd_same] at hds; cases hds
    rw [upd_ne nsk] at hds
    have nst : ds ≠ t := fun z => by rw [z, upd_same] at hds; cases hds
    rw [upd_ne nst, upd_ne nsk] at hds
    refine ⟨rfl, fun H2 e u S2 he hu h2e h2u => ?_⟩
    have hk1 := S2 dk (.dK [(Sum.inl 0, .ref t)]) (by rw [upd_ne (Ne.symm nsk), upd_ne (Ne.symm npk), upd_same]; rfl)
    have ht1 := S2 t (.tup []) (by rw [upd_ne (Ne.symm nst), upd_ne (Ne.symm npt), upd_ne ntk, upd_same])
    have hs1 := S2 ds (.dK []) upd_same
    have hp1 := S2 p _ (by rw [upd_ne (Ne.symm nsp), upd_same])
    refine ⟨hs1, [(Sum.inl 0, .ref u)], rfl, (by show 1 ≤ 15; decide), ?_⟩
    have B2 : But [p] H H2 := ((s1.put (by simp)).new hds).trans (.of S2)
    refine ⟨_, rfl, p, T.c_Makes, dx, _, rfl, (by rw [upd_ne (Ne.symm nsp)]; exact hp1), T.C_Makes, T.n_Makes_states, pl1, ?_⟩
    -- self.count = 1
    refine ⟨_, rfl, p, T.c_Makes, dx, _, rfl, upd_same, T.C_Makes, T.n_Makes_count, pl2, ?_⟩
    have e1 : putF "count" (V.int 1) (putF "states" (V.ref ds) (putF "kin" (V.ref dk) [])) = fl_Makes (.ref dk) (.ref ds) (.int 1) := fl_Makes_made
    refine k _ dk ds t u (((B2.new hds).put (by simp)).put (by simp)) hdk hds (Ne.symm nsk) ht0 ⟨⟨dx, ?_⟩, ?_, ?_, ?_, Ne.symm nsk⟩
    · rw [upd_same, e1]
    · rw [upd_ne (Ne.symm npk), upd_ne (Ne.symm npk), upd_ne (Ne.symm nsk)]
      exact hk1
    · rw [upd_ne nsp, upd_ne nsp, upd_same]
      rfl
    · intro x hx
      obtain rfl : x = (0, t, []) := by simpa using hx
      show upd _ _ _ t = _
      rw [upd_ne (Ne.symm npt), upd_ne (Ne.symm npt), upd_ne (Ne.symm nst)]
      exact ht1
theorem ok_Makes_need (T : Top K mg) : FnOk P w K mg base (L2.CX P w) 3 T.f_Makes_need T.d_Makes_need ["self", "number"] (spNeed T) := by
  refine T.F_Makes_need.okX sc_Makes_need (fun vs H Q E h => ?_) (fun cdv A outer s H vs Q E hr h => ?_)
  · obtain ⟨p, dk, ds, ks, ss, n, k, rfl, _⟩ := h
    rfl
  · obtain ⟨p, dk, ds, ks, ss, n, k, rfl, M, kq, ke⟩ := h
    have hu := hu_of hr
    obtain ⟨dx, h1⟩ := M.ob
    refine ⟨_, (pss_cons (ps_if (pt_cmp (pc_dnotin hu (pv 1) (pe_fld (pv 0) rfl))) (pss_one (ps_raise rfl (takes_of rfl rfl rfl rfl) (pmk_oex T.O_NoMake T.i_NoMake T.t_NoMake (ok_NoMake_init T) (hr.mono (by decide)) T.b_NoMake_init .nil pass0 rfl T.g_NoMake (pa_cons (pv 1) pa_nil)))) pss_nil)
      (pss_one (ps_ret (pv 1)))), ?_⟩
    refine ⟨_, rfl, _, rfl, p, T.c_Makes, dx, _, _, rfl, h1, T.C_Makes, T.n_Makes_kin, fl_Makes_kin, dk, _, rfl, DGet.k (k := Sum.inl k) M.hk, _, rfl, ?_⟩
    cases e : valV (ks.map fun k => ((Sum.inl k.1 : Key), V.ref k.2.1)) (Sum.inl k) with
    | some v => exact iteF ⟨_, rfl, kq (inKV e)⟩
    | none => exact iteT (mk_var rfl (ke (noKV e)))
theorem ok_Makes_elders (T : Top K mg) : FnOk P w K mg base (L2.CX P w) 4 T.f_Makes_elders T.d_Makes_elders ["self", "number"] (spElders T) := by
  refine T.F_Makes_elders.okX sc_Makes_elders (fun vs H Q E h => ?_) (fun cdv A outer s H vs Q E hr h => ?_)
  · obtain ⟨p, dk, ds, ks, ss, n, k, rfl, _⟩ := h
    rfl
  · obtain ⟨p, dk, ds, ks, ss, n, k, rfl, M, kq, ke⟩ := h
    have hu := hu_of hr
    obtain ⟨dx, h1⟩ := M.ob
    refine ⟨_, (pss_one (ps_ret (pe_dget hu (pe_fld (pv 0) rfl) (pe_meth (pv 0) T.C_Makes T.M_Makes_need (ok_Makes_need T) (hr.mono (by decide)) T.b_Makes_need .nil (passes_call (takes_of rfl rfl rfl rfl) (fun _ _ _ _ h => h)) (pa_cons (pv 1) pa_nil)) (fun _ _ => rfl)))), ?_⟩
    refine ⟨_, rfl, p, T.c_Makes, dx, _, _, rfl, h1, T.C_Makes, T.n_Makes_kin, fl_Makes_kin, _, rfl, p, dx, _, rfl, h1, fl_Makes_m_need, _, rfl, p, dk, ds, ks, ss, n, k, rfl, M, fun hk => ?_, ke⟩
    cases e : ks.find? fun x => decide (x.1 = k) with
    | none =>
      obtain ⟨x, hx, ex⟩ := List.mem_map.mp hk
      exact absurd (List.find?_eq_none.mp e x hx) (by simp [ex])
    | some x =>
      refine ⟨dk, V.ref x.2.1, rfl, ?_, kq x e⟩
      have g := DGet.k (k := Sum.inl k) M.hk
      rw [findKV (fun k : Int × Addr × List Int => V.ref k.2.1) k ks, e] at g
      exact g
theorem ok_Makes_numbers (T : Top K mg) : FnOk P w K mg base CX0 1 T.f_Makes_numbers T.d_Makes_numbers ["self"] (spNumbers T) := by
  refine T.F_Makes_numbers.ok sc_Makes_numbers (fun vs H Q E h => ?_) (fun cdv A outer s H vs Q E hr h => ?_)
  · obtain ⟨p, dk, ds, ks, ss, n, rfl, _⟩ := h
    rfl
  · obtain ⟨p, dk, ds, ks, ss, n, rfl, M, hl, kq⟩ := h
    obtain ⟨dx, h1⟩ := M.ob
    refine ⟨_, (pss_one (ps_ret (pe_callB (call_sortedDI rfl) (by rfl) T.z_sorted (by decide +kernel) (pa_cons (pe_fld (pv 0) rfl) pa_nil)))), ?_⟩
    exact ⟨_, rfl, p, T.c_Makes, dx, _, _, rfl, h1, T.C_Makes, T.n_Makes_kin, fl_Makes_kin, dk, _, ks.map (·.1), rfl, .inl M.hk, keysKV _ _, by rw [List.length_map]; exact hl, fun ys q hp hs hq => kq ys q hp hs hq⟩
theorem lt2_of {so : List Int} {a b : Int} (hs : so.Pairwise (· < ·)) (h : ∀ x ∈ so, x = a ∨ x = b) : so.length ≤ 2 := by
  match so, hs, h with
  | [], _, _ => simp
  | [_], _, _ => simp
  | [_, _], _, _ => simp
  | x :: y :: z :: r, hs, h =>
    have h1 := h x (by simp)
    have h2 := h y (by simp)
    have h3 := h z (by simp)
    simp only [List.pairwise_cons, List.mem_cons, forall_eq_or_imp] at hs
    omega
theorem ok_Makes_made (T : Top K mg) : FnOk P w K mg base CX0 4 T.f_Makes_made T.d_Makes_made ["self", "elders", "table"] (spMade T) := by
  refine T.F_Makes_made.ok sc_Makes_made (fun vs H Q E h => ?_) (fun cdv A outer s H vs Q E hr h => ?_)
  · obtain ⟨p, dk, ds, ks, ss, n, l, es, tb, rfl, _⟩ := h
    rfl
  · obtain ⟨p, dk, ds, ks, ss, n, l, es, tb, rfl, M, hl, hne, hlen, ⟨a, b, hab⟩, hin, hkl, hsl, hnk, hns, kq⟩ := h
    have hu := hu_of hr
    obtain ⟨dx, h1⟩ := M.ob
    refine ⟨_, (pss_cons (ps_set (i := 3) sc_Makes_made.nd rfl (by first | exact Or.inl rfl | exact Or.inr rfl) (pe_callB (show CallR _ (.builtin "sorted") (rSortedSet w) from cr_sortedSet rfl) (by rfl) T.z_sorted (by decide +kernel) (pa_cons (pe_callTy (show CallR _ (.type "set") (rSetL K w) from cr_setL) (by rfl) T.z_set (by decide +kernel) (pa_cons (pv 1) pa_nil)) pa_nil)))
      (pss_cons (ps_if (PW.pt (pw_or (pt_cmpR op_lt (pe_callB call_len_seq (by rfl) T.z_len PySem.boot_len (pa_cons (pv 3) pa_nil)) pe_int (nomark _)) (pw_or1 (pt_cmpR op_gt (pe_callB call_len_seq (by rfl) T.z_len PySem.boot_len (pa_cons (pv 3) pa_nil)) pe_int (nomark _))))) (pss_one ps_never) pss_nil)
      (pss_cons (ps_for PassesOwn.never rfl (pi_list (pv 3)) (pg_name (i := 4) sc_Makes_made.nd rfl (by first | exact Or.inl rfl | exact Or.inr rfl))
      (pss_one (ps_expr (pe_meth (pv 0) T.C_Makes T.M_Makes_need (ok_Makes_need T) (hr.mono (by decide)) T.b_Makes_need .nil passL (pa_cons (pv 4) pa_nil)))))
      (pss_cons (ps_set (i := 5) sc_Makes_made.nd rfl (by first | exact Or.inl rfl | exact Or.inr rfl) (pe_fld (pv 0) rfl))
      (pss_cons (ps_dput hu (pe_fld (pv 0) rfl) (pv 5) (pe_callTy call_tuple_of (by rfl) T.z_tuple (by decide +kernel) (pa_cons (pv 3) pa_nil)) rfl)
      (pss_cons (ps_dput hu (pe_fld (pv 0) rfl) (pv 5) (pv 2) rfl)
      (pss_cons (ps_fld (pv 0) (pe_op op_add (pv 5) pe_int) rfl)
      (pss_one (ps_ret (pv 5)))))))))), ?_⟩
    -- some = sorted(set(elders))
    refine ⟨_, rfl, l, es, rfl, hl, by omega, fun z c hz hc => ⟨z, _, c, rfl, upd_same, by omega, fun so q so1 so2 so3 hq => ?_⟩⟩
    have so2' : ∀ x, x ∈ so ↔ x ∈ es := fun x => by rw [so2 x, decide_eq_true_eq]
    have hqz : q ≠ z := fun e => by rw [e, upd_same] at hq; cases hq
    have hq0 : H q = none := by rw [upd_ne hqz] at hq; exact hq
    have hle2 : so.length ≤ 2 := lt2_of so1 fun x hx => hab x ((so2' x).mp hx)
    have hge1 : 1 ≤ so.length := by
      cases es with
      | nil => exact absurd rfl hne
      | cons x r =>
        have := (so2' x).mpr (by simp)
        cases so with
        | nil => cases this
        | cons _ _ => simp
    have S1 : Same H (upd (upd H z (SetO w z (fun j => decide (j ∈ es)) c)) q (.lst (so.map V.int))) := (same_upd hz).new hq0
    -- if len(some) < 1 or len(some) > 2
    refine ⟨_, rfl, q, _, rfl, .inl (SqL.of upd_same), _, _, rfl, rfl, _, rfl, ?_⟩
    rw [List.length_map]
    rw [decide_eq_false (by show ¬ ((so.length : Nat) : Int) < 1; omega)]
    refine iteF ⟨_, rfl, q, _, rfl, .inl (SqL.of upd_same), _, _, rfl, rfl, _, rfl, ?_⟩
    rw [List.length_map]
    rw [decide_eq_false (by show ¬ (2 : Int) < ((so.length : Nat) : Int); omega)]
    refine iteF ?_
    -- for elder in some: self.need(elder)
    refine ⟨_, rfl, q, rfl, ⟨_, SqL.of upd_same⟩, for_list (K := K) (a := q) (xs := so.map V.int) (fun i σ H2 => H2 = upd (upd H z (SetO w z (fun j => decide (j ∈ es)) c)) q (.lst (so.map V.int)) ∧ ∃ v : Option V, σ = [some (.ref p), some (.ref l), some tb, some (.ref q), v, none])
      ⟨rfl, _, rfl⟩ (fun i σ H2 _ ⟨e, _⟩ => by rw [e]; exact SqL.of upd_same) ?_ ?_⟩
    · rintro i y σ H2 hi ⟨rfl, v, rfl⟩
      obtain ⟨x, hx, rfl⟩ := map_at hi
      have hxe : x ∈ ks.map (·.1) := hin x ((so2' x).mp (List.mem_of_getElem? hx))
      exact ⟨_, rfl, p, dx, _, rfl, S1 _ _ h1, fl_Makes_m_need, _, rfl, p, dk, ds, ks, ss, n, x, rfl, M.same S1, fun _ => ⟨rfl, _, rfl⟩, fun hno => absurd hxe hno⟩
    · rintro σ H2 ⟨rfl, v, rfl⟩
      -- number = self.count
      refine ⟨_, rfl, p, T.c_Makes, dx, _, _, rfl, S1 _ _ h1, T.C_Makes, T.n_Makes_count, fl_Makes_count, ?_⟩
      -- self.kin[number] = tuple(some)
      refine ⟨_, rfl, q, _, rfl, .inl ⟨SqL.of upd_same, fun t ht => ?_⟩⟩
      have hpq : p ≠ q := ne_of_none h1 hq0
      have ht0 : H t = none := S1.free ht
      have S2 := S1.new (o := .tup (so.map V.int)) ht0
      have npt : p ≠ t := ne_of_none h1 ht0
      have nkt : dk ≠ t := ne_of_none M.hk ht0
      have nst : ds ≠ t := ne_of_none M.hs ht0
      have npk := M.pk
      have npS := M.pS
      refine ⟨_, rfl, p, T.c_Makes, dx, _, _, rfl, S2 _ _ h1, T.C_Makes, T.n_Makes_kin, fl_Makes_kin, _, rfl, dk, _, rfl, DPut.k (k := Sum.inl n) (S2 _ _ M.hk) (small1000 (by rw [List.length_map]; omega)), ?_⟩
      rw [putKV (g := fun k : Int × Addr × List Int => V.ref k.2.1) (x := (n, t, so)) hnk]
      -- self.states[number] = table
      have nks : dk ≠ ds := M.ne
      refine ⟨_, rfl, _, rfl, p, T.c_Makes, dx, _, _, rfl, (by rw [upd_ne npk]; exact S2 _ _ h1), T.C_Makes, T.n_Makes_states, fl_Makes_states, _, rfl, ds, _, rfl, DPut.k (k := Sum.inl n) (by rw [upd_ne (Ne.symm nks)]; exact S2 _ _ M.hs) (small1000 (by rw [List.length_map]; omega)), ?_⟩
      rw [putKV (g := fun k : Int × V => k.2) (x := (n, tb)) hns]
      -- self.count = number + 1
      refine ⟨_, rfl, _, _, rfl, rfl, _, rfl, p, T.c_Makes, dx, _, rfl, (by rw [upd_ne npS, upd_ne npk]; exact S2 _ _ h1), T.C_Makes, T.n_Makes_count, fl_Makes_len, ?_⟩
      rw [fl_Makes_set_count]
      refine ⟨_, rfl, ?_⟩
      refine kq _ t so so1 so2' (((((But.of S2).put (by simp)).put (by simp)).put (by simp))) ht0 ⟨⟨dx, upd_same⟩, ?_, ?_, ?_, nks⟩
      · rw [upd_ne (Ne.symm npk), upd_ne nks, upd_same]
      · rw [upd_ne (Ne.symm npS), upd_same]
      · intro x hx
        rcases List.mem_append.mp hx with hx | hx
        · have nx := M.tne hx
          simp only [List.mem_cons, List.not_mem_nil, or_false, not_or] at nx
          rw [upd_ne nx.1, upd_ne nx.2.2, upd_ne nx.2.1]
          exact S2 _ _ (M.ht x hx)
        · obtain rfl : x = (n, t, so) := by simpa using hx
          show upd _ _ _ t = _
          rw [upd_ne (Ne.symm npt), upd_ne (Ne.symm nst), upd_ne (Ne.symm nkt), upd_same]
end
end Z
namespace Z
open PySem PySem.Spec PyProof.Rows L2
/-! ### Makes.line -/
def kinOf (ks : List (Int × Addr × List Int)) (k : Int) : List Int := ((ks.find? fun x => decide (x.1 = k)).map fun x => x.2.2).getD []
theorem kin_at {ks : List (Int × Addr × List Int)} {k : Int} {x : Int × Addr × List Int} (h : (ks.find? fun x => decide (x.1 = k)) = some x) : kinOf ks k = x.2.2 := by
  unfold kinOf
  rw [h]
  rfl
theorem find_key {ks : List (Int × Addr × List Int)} {k : Int} (h : k ∈ ks.map (·.1)) : ∃ x, (ks.find? fun x => decide (x.1 = k)) = some x ∧ x ∈ ks ∧ x.1 = k := by
  cases e : ks.find? fun x => decide (x.1 = k) with
  | none =>
    obtain ⟨x, hx, ex⟩ := List.mem_map.mp h
    exact absurd (List.find?_eq_none.mp e x hx) (by simp [ex])
  | some x =>
    have b := List.find?_some e
    exact ⟨x, rfl, List.mem_of_find?_eq_some e, of_decide_eq_true b⟩
/-- each elder is a make -/
def Closed (ks : List (Int × Addr × List Int)) : Prop := (ks.map (·.1)).Nodup ∧ ∀ x ∈ ks, ∀ e ∈ x.2.2, e ∈ ks.map (·.1)
theorem Closed.kin {ks : List (Int × Addr × List Int)} (h : Closed ks) {k e : Int} (m : e ∈ kinOf ks k) : e ∈ ks.map (·.1) := by
  unfold kinOf at m
  cases q : ks.find? fun x => decide (x.1 = k) with
  | none => rw [q] at m; cases m
  | some x => rw [q] at m; exact h.2 x (List.mem_of_find?_eq_some q) e m
section
variable {K : PySem.W.Frag} {mg : Str → Option Value}
def spLine (T : Top K mg) : Sp := fun vs H Q E => ∃ p dk ds ks ss n k, vs = [.ref p, .int k] ∧ MakesAt T.c_Makes H p dk ds ks ss n ∧ Closed ks ∧ ks.length < 64 ∧
  (k ∈ ks.map (·.1) → ∀ (H' : Hp) (q : Addr) (l : List Int), l.Pairwise (· < ·) → (∀ x, x ∈ l ↔ Anc (kinOf ks) k x) → Same H H' → H q = none → H' q = some (.lst (l.map V.int)) → Q (.ref q) H') ∧
  (¬ k ∈ ks.map (·.1) → ∀ d, H d = none → E (.ref T.c_NoMake) (some d) (upd H d (.xd [("number", .int k)])))
end
section
variable {P : Program} {w : World} {K : PySem.W.Frag} {mg : Str → Option Value} {base : Heap}
theorem dp_ints {K : PySem.W.Frag} {H : Hp} : ∀ a : List Int, DpAll K H (a.map V.int) (a.map PyData.int)
  | [] => .nil
  | x :: r => .cons (.int x) (dp_ints r)
theorem dp_lst {K : PySem.W.Frag} {H : Hp} {a : Addr} {l : List Int} (h : SqL K H a (l.map V.int)) : Dp K H (.ref a) (.list (l.map PyData.int)) := .lst h (dp_ints l)
theorem eqv_nil {l : List Int} : PyData.eqv (.list (l.map PyData.int)) (.list ([].map PyData.int)) = decide (l = []) := by
  cases l with
  | nil => rfl
  | cons a t => simp [PyData.eqv, PyData.eqvAll]
theorem ok_Makes_line (T : Top K mg) : FnOk P w K mg base (L2.CX P w) 4 T.f_Makes_line T.d_Makes_line ["self", "number"] (spLine T) := by
  refine T.F_Makes_line.okX sc_Makes_line (fun vs H Q E h => ?_) (fun cdv A outer s H vs Q E hr h => ?_)
  · obtain ⟨p, dk, ds, ks, ss, n, k, rfl, _⟩ := h
    rfl
  · obtain ⟨p, dk, ds, ks, ss, n, k, rfl, M, hcl, hlen, kq, ke⟩ := h
    have hu := hu_of hr
    obtain ⟨dx, h1⟩ := M.ob
    refine ⟨_, (pss_cons (ps_set (i := 2) sc_Makes_line.nd rfl (by first | exact Or.inl rfl | exact Or.inr rfl) (pe_lst (pa_cons (pe_meth (pv 0) T.C_Makes T.M_Makes_need (ok_Makes_need T) (hr.mono (by decide)) T.b_Makes_need .nil (passes_call (takes_of rfl rfl rfl rfl) (fun _ _ _ _ h => h)) (pa_cons (pv 1) pa_nil)) pa_nil)))
      (pss_cons (ps_set (i := 3) sc_Makes_line.nd rfl (by first | exact Or.inl rfl | exact Or.inr rfl) (pe_disp (pps_cons (pv 1) pe_bl pps_nil) (by rfl) (by rfl) (fun z => by cases z) (by decide)))
      (pss_cons (ps_while (passes_of rfl) (pt_cmpR (op_neD hr.units) (pv 2) (pe_lst pa_nil) (nomark _))
      (pss_cons (ps_set (i := 4) sc_Makes_line.nd rfl (by first | exact Or.inl rfl | exact Or.inr rfl) (pe_bm0 PySem.F.plainAttrs_list PySem.F.slot_list_pop PySem.F.type_list_pop mt_pop (pv 2)))
      (pss_one (ps_for (passes_of rfl) rfl (pi_tup (pe_dget hu (pe_fld (pv 0) rfl) (pv 4) (fun _ _ => rfl))) (pg_name (i := 5) sc_Makes_line.nd rfl (by first | exact Or.inl rfl | exact Or.inr rfl))
      (pss_one (ps_if (pt_cmp (pc_dnotin hu (pv 5) (pv 3))) (pss_cons (ps_dput hu (pv 3) (pv 5) pe_bl rfl)
      (pss_one (ps_expr (pe_bm PySem.F.plainAttrs_list PySem.F.slot_list_append PySem.F.type_list_append mt_append (pv 2) (pa_cons (pv 5) pa_nil))))) pss_nil))))))
      (pss_one (ps_ret (pe_callB (call_sortedDI rfl) (by rfl) T.z_sorted (by decide +kernel) (pa_cons (pv 3) pa_nil))))))), ?_⟩
    refine ⟨_, rfl, p, dx, _, rfl, h1, fl_Makes_m_need, _, rfl, p, dk, ds, ks, ss, n, k, rfl, M, fun hk => ⟨(by show 1 ≤ sizeLine; decide), fun a ha => ?_⟩, ke⟩
    intro d hd
    have s1 : Same H (upd H a (.lst [.int k])) := same_upd ha
    have s2 := s1.new (o := .dK []) (s1.free hd)
    have s2d : H d = none := s1.free hd
    have nad : a ≠ d := fun z => by rw [← z, upd_same] at hd; cases hd
    refine ⟨_, rfl, upd_same, [(Sum.inl k, .bl true)], rfl, (by show 1 ≤ 15; decide), ?_⟩
    have s3 : Same H (upd (upd (upd H a (.lst [.int k])) d (.dK [])) d (.dK [(Sum.inl k, .bl true)])) := s2.new (s1.free hd)
    have keysN : (ks.map (·.1)).length = ks.length := List.length_map ..
    refine ⟨fun m σ H' => ∃ kn td o e, m = 2 * (ks.length - kn.length) + td.length ∧ σ = [some (.ref p), some (.int k), some (.ref a), some (.ref d), o, e] ∧ Same H H' ∧ H' a = some (.lst (td.map V.int)) ∧ H' d = some (.dK (knD kn)) ∧
      kn.Nodup ∧ k ∈ kn ∧ (∀ x ∈ kn, Anc (kinOf ks) k x ∧ x ∈ ks.map (·.1)) ∧ (∀ x ∈ td, x ∈ kn) ∧ (∀ x ∈ kn, x ∉ td → ∀ e ∈ kinOf ks x, e ∈ kn) ∧ td.length ≤ kn.length,
      ⟨_, [k], [k], none, none, rfl, rfl, s3, by rw [upd_ne nad, upd_ne nad, upd_same]; rfl, upd_same, by simp, by simp, fun x hx => ?_, fun x hx => hx, fun x hx hn => absurd hx hn, Nat.le_refl _⟩, ?_⟩
    · obtain rfl : x = k := by simpa using hx
      exact ⟨.refl _, hk⟩
    rintro m σ H3 ⟨kn, td, o, e, rfl, rfl, s3, ha3, hd3, nk, kk, kA, tk', pr, tl0⟩
    refine ⟨_, rfl, (by show 0 ≤ sizeLine; decide), fun b hb => ⟨_, _, dp_lst (l := td) (SqL.of ((same_upd hb) _ _ ha3)), dp_lst (l := []) (SqL.of upd_same), PySem.W.ke_shaped_ints _, PySem.W.ke_shaped_ints _, _, rfl, ?_⟩⟩
    rw [eqv_nil]
    have s4 : Same H (upd H3 b (.lst [])) := s3.new (s3.free hb)
    have ha4 : (upd H3 b (.lst [])) a = some (.lst (td.map V.int)) := (same_upd hb) _ _ ha3
    have hd4 : (upd H3 b (.lst [])) d = some (.dK (knD kn)) := (same_upd hb) _ _ hd3
    have hH4 : ∀ q, (upd H3 b (.lst [])) q = none → H q = none := fun q hq => s4.free hq
    generalize (upd H3 b (.lst [])) = H4 at s4 ha4 hd4 hH4 ⊢
    have nda : d ≠ a := Ne.symm nad
    rcases nil_or_snoc td with rfl | ⟨td0, one, rfl⟩
    · refine iteN rfl ?_
      have hcl' : ∀ x ∈ kn, ∀ e ∈ kinOf ks x, e ∈ kn := fun x hx => pr x hx (by simp)
      refine ⟨_, rfl, d, knD kn, kn, rfl, .inl hd4, kn_keys kn, Nat.lt_of_le_of_lt (nodup_le kn _ nk fun x hx => (kA x hx).2) (by rw [keysN]; exact hlen), ?_⟩
      intro ys q hp hs hq
      have hys : ys.Pairwise (· < ·) := lt_of_le_nodup hs (hp.nodup_iff.mpr nk)
      exact kq hk _ q ys hys (fun x => by
        rw [hp.mem_iff]
        exact ⟨fun hx => (kA x hx).1, fun hx => anc_closed hcl' hx kk⟩) (s4.new (hH4 q hq)) (hH4 q hq) upd_same
    · refine iteP (by simp) ⟨fun σ' H' => ∃ kn' td' o e, 2 * (ks.length - kn'.length) + td'.length < 2 * (ks.length - kn.length) + (td0 ++ [one]).length ∧ σ' = [some (.ref p), some (.int k), some (.ref a), some (.ref d), o, e] ∧ Same H H' ∧ H' a = some (.lst (td'.map V.int)) ∧ H' d = some (.dK (knD kn')) ∧
        kn'.Nodup ∧ k ∈ kn' ∧ (∀ x ∈ kn', Anc (kinOf ks) k x ∧ x ∈ ks.map (·.1)) ∧ (∀ x ∈ td', x ∈ kn') ∧ (∀ x ∈ kn', x ∉ td' → ∀ e ∈ kinOf ks x, e ∈ kn') ∧ td'.length ≤ kn'.length, fun σ' H' ⟨kn', td', o', e', lt, h⟩ => ⟨_, lt, kn', td', o', e', rfl, h⟩, ?_⟩
      have tl1 : td0.length + 1 ≤ kn.length := by rw [List.length_append, List.length_singleton] at tl0; exact tl0
      have hone : one ∈ kn := tk' one (by simp)
      obtain ⟨x, hf, hxm, hx1⟩ := find_key (kA one hone).2
      have ek := kin_at hf
      have ha5 : H4 a = some (.lst (td0.map V.int ++ [.int one])) := by rw [ha4, List.map_append]; rfl
      refine ⟨_, rfl, .inl ⟨rfl, _, SqL.of ha5⟩, a, _, .int one, rfl, rfl, ha5, by simp, ?_⟩
      rw [List.dropLast_concat]
      have s5 : Same H (upd H4 a (.lst (td0.map V.int))) := s4.new ha
      have M5 := M.same s5
      have hd5 : (upd H4 a (.lst (td0.map V.int))) d = some (.dK (knD kn)) := by rw [upd_ne nda]; exact hd4
      obtain ⟨dx5, h15⟩ := M5.ob
      refine ⟨_, rfl, p, T.c_Makes, dx5, _, _, rfl, h15, T.C_Makes, T.n_Makes_kin, fl_Makes_kin, _, rfl, dk, V.ref x.2.1, rfl, ?_, x.2.1, rfl, ⟨_, SqT.of (M5.ht x hxm)⟩, ?_⟩
      · have := DGet.k (k := Sum.inl one) M5.hk
        rw [findKV (fun k : Int × Addr × List Int => V.ref k.2.1), hf] at this
        exact this
      have ekl : x.2.2 = kinOf ks one := ek.symm
      refine for_tup (fun i σ H' => ∃ kn' td' e, σ = [some (.ref p), some (.int k), some (.ref a), some (.ref d), some (.int one), e] ∧ Same H H' ∧ H' a = some (.lst (td'.map V.int)) ∧ H' d = some (.dK (knD kn')) ∧ kn'.Nodup ∧ (∀ x ∈ kn, x ∈ kn') ∧ (∀ x ∈ kn', Anc (kinOf ks) k x ∧ x ∈ ks.map (·.1)) ∧
          (∀ x ∈ td0, x ∈ td') ∧ (∀ x ∈ td', x ∈ kn') ∧ (∀ x ∈ kn', x ∉ kn → x ∈ td') ∧ kn'.length + td0.length = kn.length + td'.length ∧ ∀ j e, j < i → x.2.2[j]? = some e → e ∈ kn')
        ⟨kn, td0, e, rfl, s5, upd_same, hd5, nk, fun x hx => hx, kA, fun x hx => hx, fun x hx => tk' x (List.mem_append_left _ hx), fun x h1 h2 => absurd h1 h2, by omega, fun j e hj => absurd hj (Nat.not_lt_zero _)⟩
        (fun i σ H' _ ⟨_, _, _, _, s6, _⟩ => SqT.of ((M.same s6).ht x hxm)) ?_ ?_
      · rintro i v σ H6 hv ⟨kn', td', e6, rfl, s6, ha6, hd6, n6, m6, A6, t6, u6, w6, l6, p6⟩
        obtain ⟨el, hel, rfl⟩ := map_at hv
        have hkl : kn'.length ≤ ks.length := by rw [← keysN]; exact nodup_le kn' _ n6 fun y hy => (A6 y hy).2
        have hem : el ∈ kinOf ks one := by rw [← ekl]; exact List.mem_of_getElem? hel
        have hpre : ∀ {l : List Int}, (∀ y ∈ kn', y ∈ l) → el ∈ l → ∀ j e, j < i + 1 → x.2.2[j]? = some e → e ∈ l := fun {l} h1 h2 j e hj he => by
          rcases Nat.lt_succ_iff_lt_or_eq.mp hj with hj | rfl
          · exact h1 _ (p6 j e hj he)
          · rw [hel] at he
            cases he
            exact h2
        refine ⟨_, rfl, _, rfl, d, _, rfl, DGet.k (k := Sum.inl el) hd6, _, rfl, ?_⟩
        cases e2 : valV (knD kn') (Sum.inl el : Key) with
        | some v =>
          refine iteF ⟨kn', td', _, rfl, s6, ha6, hd6, n6, m6, A6, t6, u6, w6, l6, hpre (fun y hy => hy) (kn_in e2)⟩
        | none =>
          have hno := kn_no e2
          refine iteT ⟨_, rfl, _, rfl, d, _, rfl, DPut.k (k := Sum.inl el) hd6 (small1000 (by unfold knD; rw [List.length_map]; omega)), _, rfl, ?_⟩
          have ha7 : (upd H6 d (.dK (putK (knD kn') (Sum.inl el) (.bl true)))) a = some (.lst (td'.map V.int)) := by rw [upd_ne nad]; exact ha6
          have tl : td'.length ≤ 64 := by omega
          refine ⟨.inl ⟨rfl, _, SqL.of ha7⟩, _, rfl, a, _, _, rfl, rfl, ha7, by rw [List.length_map]; exact small1000 (by omega), ?_⟩
          refine ⟨kn' ++ [el], td' ++ [el], _, rfl, (s6.new (s2d)).new ha, by rw [upd_same, List.map_append]; rfl, by rw [upd_ne nda, upd_same, kn_put hno], ?_, fun y hy => List.mem_append_left _ (m6 y hy), fun y hy => ?_, fun y hy => List.mem_append_left _ (t6 y hy), fun y hy => ?_, fun y hy hn => ?_, by simp; omega, hpre (fun y hy => List.mem_append_left _ hy) (by simp)⟩
          · exact List.nodup_append.mpr ⟨n6, by simp, fun y hy z hz => by
              obtain rfl : z = el := by simpa using hz
              exact fun q => hno (by rw [← q]; exact hy)⟩
          · rcases List.mem_append.mp hy with hy | hy
            · exact A6 y hy
            · obtain rfl : y = el := by simpa using hy
              exact ⟨(kA one hone).1.snoc hem, hcl.kin hem⟩
          · rcases List.mem_append.mp hy with hy | hy
            · exact List.mem_append_left _ (u6 y hy)
            · exact List.mem_append_right _ hy
          · rcases List.mem_append.mp hy with hy | hy
            · exact List.mem_append_left _ (w6 y hy hn)
            · exact List.mem_append_right _ hy
      · rintro σ H6 ⟨kn', td', e6, rfl, s6, ha6, hd6, n6, m6, A6, t6, u6, w6, l6, p6⟩
        have hkl : kn'.length ≤ ks.length := by rw [← keysN]; exact nodup_le kn' _ n6 fun y hy => (A6 y hy).2
        have hk0 : kn.length ≤ kn'.length := nodup_le _ _ nk m6
        refine ⟨kn', td', _, _, by rw [List.length_append, List.length_singleton]; omega, rfl, s6, ha6, hd6, n6, m6 k kk, A6, u6, fun y hy hn e he => ?_, by omega⟩
        by_cases hy0 : y ∈ kn
        · by_cases hyo : y = one
          · subst hyo
            rw [← ekl] at he
            obtain ⟨j, hj⟩ := List.mem_iff_getElem?.mp he
            have hjl : j < (x.2.2.map V.int).length := by
              rw [List.length_map]
              exact (List.getElem?_eq_some_iff.mp hj).1
            exact p6 j e hjl hj
          · refine m6 e (pr y hy0 (fun hm => ?_) e he)
            rcases List.mem_append.mp hm with hm | hm
            · exact hn (t6 y hm)
            · exact hyo (by simpa using hm)
        · exact absurd (w6 y hy hy0) hn
end
end Z
namespace Z
open PySem PySem.Spec PyProof.Rows L2
/-! ### the search -/
structure Lines (ks : List (Int × Addr × List Int)) (ln : Int → List Int) : Prop where
  up : ∀ k ∈ ks.map (·.1), (ln k).Pairwise (· < ·)
  mem : ∀ k ∈ ks.map (·.1), ∀ x, x ∈ ln k ↔ Anc (kinOf ks) k x
theorem Lines.one {ks : List (Int × Addr × List Int)} {ln : Int → List Int} (L : Lines ks ln) {k : Int} (hk : k ∈ ks.map (·.1)) {l : List Int} (h1 : l.Pairwise (· < ·)) (h2 : ∀ x, x ∈ l ↔ Anc (kinOf ks) k x) : l = ln k :=
  lt_one h1 (L.up k hk) fun x => by rw [h2, L.mem k hk]
/-- the greater part of S by the line of x -/
def gp (ln : Int → List Int) (S : List Int) (x : Int) : Int :=
  if (S.length : Int) - ((S.filter fun y => decide (y ∈ ln x)).length : Int) > ((S.filter fun y => decide (y ∈ ln x)).length : Int) then (S.length : Int) - ((S.filter fun y => decide (y ∈ ln x)).length : Int) else ((S.filter fun y => decide (y ∈ ln x)).length : Int)
def nStep (ln : Int → List Int) (S : List Int) (top : Int) (a : Int × Int) (x : Int) : Int × Int := if x = top then a else if gp ln S x < a.2 then (x, gp ln S x) else a
def nextP (ln : Int → List Int) (S : List Int) (top : Int) : Int := (S.foldl (nStep ln S top) (top, (S.length : Int) + 1)).1
theorem int0 {i j : Int} (h : decide (V.int i = V.int j) = true) : i = j := V.int.inj (of_decide_eq_true h)
theorem int0n {i j : Int} (h : ¬ decide (V.int i = V.int j) = true) : i ≠ j := fun z => h (decide_eq_true (congrArg V.int z))
theorem flat_ints (l : List Int) : (l.map V.int).all flatV = true := List.all_eq_true.mpr fun x hx => by
  obtain ⟨i, _, rfl⟩ := List.mem_map.mp hx
  rfl
theorem inV_ints (y : Int) (l : List Int) : inV (V.int y) (l.map V.int) = decide (y ∈ l) := by
  unfold inV
  rw [List.any_map, Bool.eq_iff_iff, List.any_eq_true, decide_eq_true_iff]
  constructor
  · rintro ⟨x, hx, e⟩
    have : x = y := by simpa [eqV] using e
    rw [← this]
    exact hx
  · intro h
    exact ⟨y, h, by simp [eqV]⟩
theorem filter_take {p : Int → Bool} {l : List Int} {i : Nat} {x : Int} (h : l[i]? = some x) : (l.take (i + 1)).filter p = (l.take i).filter p ++ (if p x = true then [x] else []) := by
  rw [List.take_add_one, h, List.filter_append]
  congr 1
  show [x].filter p = _
  by_cases e : p x = true
  · rw [if_pos e, List.filter_cons_of_pos e]; rfl
  · rw [if_neg e, List.filter_cons_of_neg e]; rfl
theorem foldl_take {α β : Type} {f : β → α → β} {b : β} {l : List α} {i : Nat} {x : α} (h : l[i]? = some x) : (l.take (i + 1)).foldl f b = f ((l.take i).foldl f b) x := by
  rw [List.take_add_one, h, List.foldl_append]
  rfl
section
variable {K : PySem.W.Frag} {mg : Str → Option Value}
def spGreater (T : Top K mg) : Sp := fun vs H Q _ => ∃ p dk ds ks ss n st S k ln, vs = [.ref p, .ref st, .int k] ∧ MakesAt T.c_Makes H p dk ds ks ss n ∧ Closed ks ∧ ks.length < 64 ∧ Lines ks ln ∧ k ∈ ks.map (·.1) ∧ H st = some (.lst (S.map V.int)) ∧ S.length ≤ 64 ∧
  ∀ H', Same H H' → Q (.int (gp ln S k)) H'
def spNext (T : Top K mg) : Sp := fun vs H Q _ => ∃ p dk ds ks ss n st S k ln, vs = [.ref p, .ref st, .int k] ∧ MakesAt T.c_Makes H p dk ds ks ss n ∧ Closed ks ∧ ks.length < 64 ∧ Lines ks ln ∧ (∀ x ∈ S, x ∈ ks.map (·.1)) ∧ H st = some (.lst (S.map V.int)) ∧ S.length ≤ 64 ∧
  ∀ H', Same H H' → Q (.int (nextP ln S k)) H'
end
section
variable {P : Program} {w : World} {K : PySem.W.Frag} {mg : Str → Option Value} {base : Heap}
theorem ok_greater_part (T : Top K mg) : FnOk P w K mg base CX0 5 T.f_greater_part T.d_greater_part ["makes", "still", "number"] (spGreater T) := by
  refine T.F_greater_part.ok sc_greater_part (fun vs H Q E h => ?_) (fun cdv A outer s H vs Q E hr h => ?_)
  · obtain ⟨p, dk, ds, ks, ss, n, st, S, k, ln, rfl, _⟩ := h
    rfl
  · obtain ⟨p, dk, ds, ks, ss, n, st, S, k, ln, rfl, M, hcl, hlen, L, hk, hS, hSl, kq⟩ := h
    obtain ⟨dx, h1⟩ := M.ob
    refine ⟨_, (pss_cons (ps_set (i := 3) sc_greater_part.nd rfl (by first | exact Or.inl rfl | exact Or.inr rfl) (pe_meth (pv 0) T.C_Makes T.M_Makes_line (ok_Makes_line T) (hr.mono (by decide)) T.b_Makes_line .nil passL (pa_cons (pv 2) pa_nil)))
      (pss_cons (ps_set (i := 4) sc_greater_part.nd rfl (by first | exact Or.inl rfl | exact Or.inr rfl) (pe_callB call_len_seq (by rfl) T.z_len PySem.boot_len (pa_cons (pe_lc (own := [("one", 5)]) rfl sc_greater_part.nd (pi_list (pv 1)) (blkOk_by (own := [("one", 5)]) (N := ["makes", "still", "number", "line", "share", "one"]) (sc := defScope s_greater_part) (by decide +kernel)) (fun _ _ _ _ _ => (pg_name (i := 5) sc_greater_part.nd rfl (by first | exact Or.inl rfl | exact Or.inr rfl))) (fun _ _ _ _ _ => (pts_one (pt_cmpR (show OpR _ (compareOp .In) (rIn K false) from op_in_seq) (pv 5) (pv 3) rfl))) (fun _ _ _ _ _ => (pv 5))) pa_nil)))
      (pss_one (ps_ret (pe_callB (call_max2 rfl) (by rfl) T.z_max (by decide +kernel) (pa_cons (pv 4) (pa_cons (pe_op op_sub (pe_callB call_len_seq (by rfl) T.z_len PySem.boot_len (pa_cons (pv 1) pa_nil)) (pv 4)) pa_nil))))))), ?_⟩
    refine ⟨_, rfl, p, dx, _, rfl, h1, fl_Makes_m_line, _, rfl, p, dk, ds, ks, ss, n, k, rfl, M, hcl, hlen, fun _ H1 q l hl1 hl2 s1 hq hq1 => ?_, fun h => absurd hk h⟩
    obtain rfl := L.one hk hl1 hl2
    refine ⟨_, rfl, st, rfl, ⟨_, SqL.of (s1 _ _ hS)⟩, fun D hD => ?_⟩
    refine lc_list (K := K) (a := st) (xs := S.map V.int) (fun i H2 => Same H1 H2 ∧ H2 D = some (.lst (((S.take i).filter fun y => decide (y ∈ ln k)).map V.int))) ⟨same_upd hD, upd_same⟩ (fun i H2 _ s2 => SqL.of (s2.1 _ _ (s1 _ _ hS))) ?_ ?_
    · rintro i x H2 hi ⟨s2, hD2⟩
      obtain ⟨y, hy, rfl⟩ := map_at hi
      refine ⟨rfl, ?_⟩
      refine ⟨_, rfl, _, rfl, q, _, rfl, .inl (SqL.of (s2 _ _ hq1)), rfl, flat_ints _, _, rfl, ?_⟩
      have e0 : (if false = true then !inV (V.int y) ((ln k).map V.int) else inV (V.int y) ((ln k).map V.int)) = decide (y ∈ ln k) := inV_ints _ _
      rw [e0]
      refine ite2 (fun e => ?_) fun e => ?_
      · refine ⟨_, rfl, _, hD2, by rw [List.length_map]; exact small1000 (Nat.le_trans (List.length_filter_le _ _) (Nat.le_trans (List.length_take_le' _ _) (by omega))), s2.new hD, ?_⟩
        rw [upd_same, filter_take hy, if_pos e, List.map_append]
        rfl
      · refine ⟨s2, ?_⟩
        rw [filter_take hy, if_neg e, List.append_nil]
        exact hD2
    · rintro H2 ⟨s2, hD2⟩
      have hl : (S.map V.int).length = S.length := List.length_map ..
      rw [hl, List.take_length] at hD2
      refine ⟨D, _, rfl, .inl (SqL.of hD2), _, rfl, _, rfl, st, _, rfl, .inl (SqL.of (s2 _ _ (s1 _ _ hS))), _, rfl, _, _, rfl, rfl, _, _, rfl, ?_⟩
      have := kq H2 (s1.trans s2)
      unfold gp at this
      simpa using this
theorem ok_next_asked (T : Top K mg) : FnOk P w K mg base CX0 6 T.f_next_asked T.d_next_asked ["makes", "still", "top"] (spNext T) := by
  refine T.F_next_asked.ok sc_next_asked (fun vs H Q E h => ?_) (fun cdv A outer s H vs Q E hr h => ?_)
  · obtain ⟨p, dk, ds, ks, ss, n, st, S, k, ln, rfl, _⟩ := h
    rfl
  · obtain ⟨p, dk, ds, ks, ss, n, st, S, k, ln, rfl, M, hcl, hlen, L, hin, hS, hSl, kq⟩ := h
    refine ⟨_, (pss_cons (ps_set (i := 3) sc_next_asked.nd rfl (by first | exact Or.inl rfl | exact Or.inr rfl) (pv 2))
      (pss_cons (ps_set (i := 4) sc_next_asked.nd rfl (by first | exact Or.inl rfl | exact Or.inr rfl) (pe_op op_add (pe_callB call_len_seq (by rfl) T.z_len PySem.boot_len (pa_cons (pv 1) pa_nil)) pe_int))
      (pss_cons (ps_for PassesOwn.never rfl (pi_list (pv 1)) (pg_name (i := 5) sc_next_asked.nd rfl (by first | exact Or.inl rfl | exact Or.inr rfl))
      (pss_cons (ps_if (pt_cmpR op_eq (pv 5) (pv 2) (nomark _)) (pss_one ps_continue) pss_nil)
      (pss_cons (ps_set (i := 6) sc_next_asked.nd rfl (by first | exact Or.inl rfl | exact Or.inr rfl) (pe_call (ok_greater_part T) (hr.mono (by decide)) (by rfl) T.m_greater_part T.F_greater_part.kp T.b_greater_part .nil pass0 (pa_cons (pv 0) (pa_cons (pv 1) (pa_cons (pv 5) pa_nil)))))
      (pss_one (ps_if (pt_cmpR op_lt (pv 6) (pv 4) (nomark _)) (pss_cons (ps_set (i := 3) sc_next_asked.nd rfl (by first | exact Or.inl rfl | exact Or.inr rfl) (pv 5))
      (pss_one (ps_set (i := 4) sc_next_asked.nd rfl (by first | exact Or.inl rfl | exact Or.inr rfl) (pv 6)))) pss_nil)))))
      (pss_one (ps_ret (pv 3)))))), ?_⟩
    refine ⟨_, rfl, _, rfl, st, _, rfl, .inl (SqL.of hS), _, _, rfl, rfl, _, rfl, st, rfl, ⟨_, SqL.of hS⟩, ?_⟩
    refine for_list (K := K) (a := st) (xs := S.map V.int) (fun i σ H1 => ∃ a x7, σ = [some (.ref p), some (.ref st), some (.int k), some (.int ((S.take i).foldl (nStep ln S k) (k, (S.length : Int) + 1)).1), some (.int ((S.take i).foldl (nStep ln S k) (k, (S.length : Int) + 1)).2), a, x7] ∧ Same H H1)
      ⟨none, none, by rw [List.length_map]; rfl, Same.refl _⟩ (fun i σ H1 _ ⟨_, _, _, s1⟩ => SqL.of (s1 _ _ hS)) ?_ ?_
    · rintro i x σ H1 hi ⟨a, x7, rfl, s1⟩
      obtain ⟨y, hy, rfl⟩ := map_at hi
      have fo := foldl_take (f := nStep ln S k) (b := (k, (S.length : Int) + 1)) hy
      refine ⟨_, rfl, _, rfl, rfl, _, rfl, ite2 (fun e => ?_) fun e => ?_⟩
      · refine ⟨some (.int y), x7, ?_, s1⟩
        rw [fo, show nStep ln S k _ y = _ from if_pos (int0 e)]
        rfl
      · have e' := int0n e
        refine ⟨_, rfl, _, rfl, _, rfl, p, dk, ds, ks, ss, n, st, S, y, ln, rfl, M.same s1, hcl, hlen, L, hin y (List.mem_of_getElem? hy), s1 _ _ hS, hSl, fun H2 s2 => ?_⟩
        refine ⟨_, rfl, _, rfl, _, _, rfl, rfl, _, rfl, ite2 (fun e2 => ?_) fun e2 => ?_⟩
        · refine ⟨_, rfl, _, rfl, some (.int y), some (.int (gp ln S y)), ?_, s1.trans s2⟩
          rw [fo, show nStep ln S k _ y = _ from (if_neg e').trans (if_pos (of_decide_eq_true e2))]
          rfl
        · refine ⟨some (.int y), some (.int (gp ln S y)), ?_, s1.trans s2⟩
          rw [fo, show nStep ln S k _ y = _ from (if_neg e').trans (if_neg fun z => e2 (decide_eq_true z))]
          rfl
    · rintro σ H1 ⟨a, x7, rfl, s1⟩
      have hl : (S.map V.int).length = S.length := List.length_map ..
      rw [hl, List.take_length]
      exact ⟨_, rfl, kq H1 s1⟩
end
end Z
namespace Z
open PySem PySem.Spec PyProof.Rows L2
/-! ### first_broken: what it asks -/
theorem if_nx {c : Bool} {A B : TS} {D : Ends} {σ : L2.St} {H : Hp} (R : L2.St → Hp → Prop) (rest : ∀ σ H, R σ H → D.nx σ H) (h1 : (∀ σ H, R σ H → D.nx σ H) → c = true → A D σ H) (h2 : (∀ σ H, R σ H → D.nx σ H) → c = false → B D σ H) : if c = true then A D σ H else B D σ H := by
  cases c with
  | true => exact iteT (h1 rest rfl)
  | false => exact iteF (h2 rest rfl)
theorem next_fold {ln : Int → List Int} {S : List Int} {top : Int} : ∀ (l : List Int) (a : Int × Int), (a.1 = top ∨ (a.1 ∈ S ∧ a.1 ≠ top)) → (∀ x ∈ l, x ∈ S) → ((l.foldl (nStep ln S top) a).1 = top ∨ ((l.foldl (nStep ln S top) a).1 ∈ S ∧ (l.foldl (nStep ln S top) a).1 ≠ top))
  | [], a, h, _ => h
  | x :: r, a, h, hs => by
    rw [List.foldl_cons]
    refine next_fold r _ ?_ fun y hy => hs y (List.mem_cons_of_mem _ hy)
    unfold nStep
    by_cases e : x = top
    · rw [if_pos e]; exact h
    · rw [if_neg e]
      by_cases e2 : gp ln S x < a.2
      · rw [if_pos e2]; exact .inr ⟨hs x List.mem_cons_self, e⟩
      · rw [if_neg e2]; exact h
theorem gp_le {ln : Int → List Int} {S : List Int} {x : Int} : gp ln S x ≤ S.length := by
  have := List.length_filter_le (fun y => decide (y ∈ ln x)) S
  unfold gp
  split <;> omega
/-- the least greater part of those ahead -/
theorem next_least {ln : Int → List Int} {S : List Int} {top : Int} : ∀ (l : List Int) (a : Int × Int), (l.foldl (nStep ln S top) a).2 ≤ a.2 ∧ (∀ x ∈ l, x ≠ top → (l.foldl (nStep ln S top) a).2 ≤ gp ln S x) ∧ ((l.foldl (nStep ln S top) a) = a ∨ ((l.foldl (nStep ln S top) a).1 ≠ top ∧ (l.foldl (nStep ln S top) a).1 ∈ l ∧ (l.foldl (nStep ln S top) a).2 = gp ln S (l.foldl (nStep ln S top) a).1))
  | [], a => ⟨Int.le_refl _, fun x hx => absurd hx (by simp), .inl rfl⟩
  | x :: r, a => by
    rw [List.foldl_cons]
    obtain ⟨h1, h2, h3⟩ := next_least (ln := ln) (S := S) r (nStep ln S top a x) (top := top)
    have hs : (nStep ln S top a x).2 ≤ a.2 ∧ (x ≠ top → (nStep ln S top a x).2 ≤ gp ln S x) ∧ (nStep ln S top a x = a ∨ (x ≠ top ∧ nStep ln S top a x = (x, gp ln S x))) := by
      unfold nStep
      by_cases e : x = top
      · rw [if_pos e]; exact ⟨Int.le_refl _, fun n => absurd e n, .inl rfl⟩
      · rw [if_neg e]
        by_cases e2 : gp ln S x < a.2
        · rw [if_pos e2]; exact ⟨Int.le_of_lt e2, fun _ => Int.le_refl _, .inr ⟨e, rfl⟩⟩
        · rw [if_neg e2]; exact ⟨Int.le_refl _, fun _ => by omega, .inl rfl⟩
    obtain ⟨s1, s2, s3⟩ := hs
    refine ⟨by omega, fun y hy n => ?_, ?_⟩
    · rcases List.mem_cons.mp hy with rfl | hy
      · have := s2 n; omega
      · exact h2 y hy n
    · rcases h3 with h3 | ⟨h3, h4, h5⟩
      · rcases s3 with s3 | ⟨n, s3⟩
        · exact .inl (h3.trans s3)
        · refine .inr ?_
          rw [h3, s3]
          exact ⟨n, List.mem_cons_self, rfl⟩
      · exact .inr ⟨h3, List.mem_cons_of_mem _ h4, h5⟩
/-- the next that is asked: one of the rest, of the least greater part -/
theorem next_in {ln : Int → List Int} {S : List Int} {top y : Int} (hy : y ∈ S) (hn : y ≠ top) : nextP ln S top ∈ S ∧ nextP ln S top ≠ top ∧ ∀ z ∈ S, z ≠ top → gp ln S (nextP ln S top) ≤ gp ln S z := by
  obtain ⟨h1, h2, h3⟩ := next_least (ln := ln) (S := S) (top := top) S (top, (S.length : Int) + 1)
  have hg : gp ln S y ≤ S.length := gp_le
  rcases h3 with h3 | ⟨h3, h4, h5⟩
  · have := h2 y hy hn
    rw [h3] at this
    have : (S.length : Int) + 1 ≤ gp ln S y := this
    omega
  · exact ⟨h4, h3, fun z hz nz => by
      have := h2 z hz nz
      rw [h5] at this
      exact this⟩
/-- the rows that the search tells, and what it finds -/
def runP (ln : Int → List Int) (br : Int → Bool) : Nat → List Int → Int → List (Int × Bool × Int) × Int
  | 0, _, top => ([], top)
  | m + 1, S, top =>
    if S.length ≤ 1 then ([], top) else
      let x := nextP ln S top
      let S' := if br x = true then S.filter (fun y => decide (y ∈ ln x)) else S.filter (fun y => !decide (y ∈ ln x))
      let r := runP ln br m S' (if br x = true then x else top)
      ((x, br x, (S'.length : Int)) :: r.1, r.2)
theorem run_end {ln : Int → List Int} {br : Int → Bool} {S : List Int} {top : Int} (h : S.length ≤ 1) : ∀ m, runP ln br m S top = ([], top)
  | 0 => rfl
  | m + 1 => by
    unfold runP
    rw [if_pos h]
/-- what is known of those that can still be it -/
structure SI (ks : List (Int × Addr × List Int)) (S : List Int) (top : Int) : Prop where
  tin : top ∈ S
  nd : S.Nodup
  anc : ∀ y ∈ S, Anc (kinOf ks) top y
  key : ∀ y ∈ S, y ∈ ks.map (·.1)
theorem exists_other {S : List Int} {top : Int} (hn : S.Nodup) (hl : 1 < S.length) : ∃ y ∈ S, y ≠ top := by
  match S, hl with
  | a :: b :: r, _ =>
    by_cases e : a = top
    · exact ⟨b, by simp, fun z => (List.nodup_cons.mp hn).1 (by rw [e, ← z]; simp)⟩
    · exact ⟨a, by simp, e⟩
def Down (ks : List (Int × Addr × List Int)) : Prop := ∀ k, ∀ e ∈ kinOf ks k, e < k
section
variable {ks : List (Int × Addr × List Int)} {ln : Int → List Int} {S : List Int} {top x : Int}
theorem SI.next (I : SI ks S top) (hl : 1 < S.length) : nextP ln S top ∈ S ∧ nextP ln S top ≠ top ∧ ∀ z ∈ S, z ≠ top → gp ln S (nextP ln S top) ≤ gp ln S z := by
  obtain ⟨y, hy, hn⟩ := exists_other (top := top) I.nd hl
  exact next_in hy hn
theorem SI.yes (I : SI ks S top) (L : Lines ks ln) (hx : x ∈ S) : SI ks (S.filter fun y => decide (y ∈ ln x)) x := by
  have hk := I.key x hx
  refine ⟨List.mem_filter.mpr ⟨hx, decide_eq_true ((L.mem x hk x).mpr (.refl x))⟩, I.nd.sublist List.filter_sublist, fun y hy => ?_, fun y hy => I.key y (List.mem_filter.mp hy).1⟩
  exact (L.mem x hk y).mp (of_decide_eq_true (List.mem_filter.mp hy).2)
theorem SI.no (I : SI ks S top) (L : Lines ks ln) (D : Down ks) (hx : x ∈ S) (hn : x ≠ top) : SI ks (S.filter fun y => !decide (y ∈ ln x)) top := by
  have hk := I.key x hx
  refine ⟨List.mem_filter.mpr ⟨I.tin, ?_⟩, I.nd.sublist List.filter_sublist, fun y hy => I.anc y (List.mem_filter.mp hy).1, fun y hy => I.key y (List.mem_filter.mp hy).1⟩
  have : top ∉ ln x := fun m => by
    have h1 := ((L.mem x hk top).mp m).le D
    have h2 := (I.anc x hx).lt D hn
    omega
  simp [this]
theorem filter_lt {p : Int → Bool} {l : List Int} {x : Int} (hx : x ∈ l) (hp : p x = false) : (l.filter p).length < l.length := by
  induction l with
  | nil => cases hx
  | cons a r ih =>
    by_cases e : p a = true
    · rw [List.filter_cons_of_pos e, List.length_cons, List.length_cons]
      rcases List.mem_cons.mp hx with rfl | hx
      · rw [hp] at e; cases e
      · have := ih hx; omega
    · rw [List.filter_cons_of_neg e, List.length_cons]
      have := List.length_filter_le p r
      omega
theorem SI.less_yes (I : SI ks S top) (L : Lines ks ln) (D : Down ks) (hx : x ∈ S) (hn : x ≠ top) : (S.filter fun y => decide (y ∈ ln x)).length < S.length := by
  refine filter_lt I.tin ?_
  have : top ∉ ln x := fun m => by
    have h1 := ((L.mem x (I.key x hx) top).mp m).le D
    have h2 := (I.anc x hx).lt D hn
    omega
  simp [this]
theorem SI.less_no (I : SI ks S top) (L : Lines ks ln) (hx : x ∈ S) : (S.filter fun y => !decide (y ∈ ln x)).length < S.length := by
  refine filter_lt hx ?_
  have := (L.mem x (I.key x hx) x).mpr (.refl x)
  simp [this]
end
def Asked (H : Hp) (ts : List Addr) (rs : List (Int × Bool × Int)) : Prop := Paired (fun t r => H t = some (.tup [.int r.1, .bl r.2.1, .int r.2.2])) ts rs
theorem Asked.snoc {H H' : Hp} {ts : List Addr} {rs : List (Int × Bool × Int)} {t : Addr} {r : Int × Bool × Int} (n : Asked H ts rs) (s : ∀ t ∈ ts, ∀ o, H t = some o → H' t = some o) (ht : H' t = some (.tup [.int r.1, .bl r.2.1, .int r.2.2])) : Asked H' (ts ++ [t]) (rs ++ [r]) := by
  unfold Asked at *
  induction n with
  | nil => exact .cons ht .nil
  | cons a _ ih => exact .cons (s _ List.mem_cons_self _ a) (ih fun t ht => s t (List.mem_cons_of_mem _ ht))
theorem Asked.mono {H H' : Hp} {ts : List Addr} {rs : List (Int × Bool × Int)} (n : Asked H ts rs) (s : ∀ t ∈ ts, ∀ o, H t = some o → H' t = some o) : Asked H' ts rs := by
  unfold Asked at *
  induction n with
  | nil => exact .nil
  | cons a _ ih => exact .cons (s _ List.mem_cons_self _ a) (ih fun t ht => s t (List.mem_cons_of_mem _ ht))
theorem Asked.tup {H : Hp} {ts : List Addr} {rs : List (Int × Bool × Int)} (n : Asked H ts rs) : ∀ t ∈ ts, ∃ xs, H t = some (.tup xs) := by
  unfold Asked at n
  induction n with
  | nil => intro t ht; cases ht
  | cons a _ ih =>
    intro t ht
    rcases List.mem_cons.mp ht with rfl | ht
    · exact ⟨_, a⟩
    · exact ih t ht
theorem MakesAt.but {C p dk ds : Addr} {H H' : Hp} {ks : List (Int × Addr × List Int)} {ss : List (Int × V)} {n : Int} (M : MakesAt C H p dk ds ks ss n) {l : List Addr} (b : But l H H') (h : ∀ x ∈ l, ∃ ys, H x = some (.lst ys)) : MakesAt C H' p dk ds ks ss n := by
  have nn : ∀ {a : Addr} {o : HO}, H a = some o → (∀ ys, o ≠ .lst ys) → a ∉ l := fun {a o} e n m => by
    obtain ⟨ys, z⟩ := h a m
    rw [e] at z
    exact n ys (Option.some.inj z)
  obtain ⟨dx, ho⟩ := M.ob
  exact ⟨⟨dx, b _ _ ho (nn ho (fun _ z => by cases z))⟩, b _ _ M.hk (nn M.hk (fun _ z => by cases z)), b _ _ M.hs (nn M.hs (fun _ z => by cases z)), fun k hk => b _ _ (M.ht k hk) (nn (M.ht k hk) (fun _ z => by cases z)), M.ne⟩
section
variable {K : PySem.W.Frag} {mg : Str → Option Value}
/-- what the rule does: it notes the number in the list at ca, and tells br -/
def RuleOk (R : Sp) (H : Hp) (ks : List (Int × Addr × List Int)) (ca : Addr) (br : Int → Bool) : Prop := ∀ (H' : Hp) (cs : List Int) (x : Int) (Q' : VK), x ∈ ks.map (·.1) → cs.length ≤ 200 → But [ca] H H' → H' ca = some (.lst (cs.map V.int)) →
  (∀ H'', But [ca] H' H'' → H'' ca = some (.lst ((cs ++ [x]).map V.int)) → Q' (.bl (br x)) H'') → R [.int x] H' Q' E0
def spFB (T : Top K mg) : Addr → NdefX.NF → Expr → Sp → Sp := fun f F b R vs H Q E => ∃ p dk ds ks ss n k ln br ca cs0, vs = [.ref p, .int k, .ref f] ∧ H f = some (LamO f F b) ∧ H F.c = some (LamX.CodeO F.c F.qual) ∧
  MakesAt T.c_Makes H p dk ds ks ss n ∧ Closed ks ∧ ks.length < 64 ∧ Down ks ∧ Lines ks ln ∧ H ca = some (.lst (cs0.map V.int)) ∧ cs0.length ≤ 10 ∧ (k ∈ ks.map (·.1) → RuleOk R H ks ca br) ∧
  (¬ k ∈ ks.map (·.1) → ∀ d, H d = none → E (.ref T.c_NoMake) (some d) (upd H d (.xd [("number", .int k)]))) ∧
  (k ∈ ks.map (·.1) → br k = false → ∀ (H' : Hp) (d : Addr), But [ca] H H' → H' ca = some (.lst ((cs0 ++ [k]).map V.int)) → H' d = none → E (.ref T.c_NotBroken) (some d) (upd H' d (.xd [("number", .int k)]))) ∧
  (k ∈ ks.map (·.1) → br k = true → ∀ (H' : Hp) (q as : Addr) (ts : List Addr), But [ca] H H' → H q = none → H as = none → (∀ t ∈ ts, H t = none) → H' q = some (.tup [.int (runP ln br 64 (ln k) k).2, .ref as]) → H' as = some (.lst (ts.map V.ref)) → Asked H' ts ((k, true, ((ln k).length : Int)) :: (runP ln br 64 (ln k) k).1) →
    H' ca = some (.lst ((cs0 ++ k :: (runP ln br 64 (ln k) k).1.map (·.1)).map V.int)) → Q (.ref q) H')
end
section
variable {P : Program} {w : World} {K : PySem.W.Frag} {mg : Str → Option Value} {base : Heap}
theorem ok_NotBroken_init (T : Top K mg) : FnOk P w K mg base CX0 1 T.f_NotBroken_init T.d_NotBroken_init ["self", "number"] (spExc T.c_NotBroken "number") := by
  refine T.F_NotBroken_init.ok sc_NotBroken_init (fun vs H Q E h => ?_) (fun cdv A outer s H vs Q E hr h => ?_)
  · obtain ⟨a, v, rfl, _⟩ := h
    rfl
  · obtain ⟨a, v, rfl, ha, k⟩ := h
    refine ⟨_, (pss_one (ps_ost (pv 0) (pv 1))), ?_⟩
    exact ⟨_, rfl, _, rfl, a, _, rfl, T.O_NotBroken, T.n_NotBroken_number, .inl ⟨ha, fun dx hd ne => k dx hd ne⟩⟩
theorem gok_first_broken (T : Top K mg) : GOk P w K mg base (L2.CX P w) 7 T.f_first_broken ["_law_one"] 3 ["makes", "number", "rule"] (spFB T) := by
  refine gok_fun T.F_first_broken sc_first_broken (T.b_first_broken) (fun f F b R vs H Q E h => ?_) (fun cdv A outer s H vs f F b fr ws sp Q E hr hf hc Fn C h => ?_)
  · obtain ⟨p, dk, ds, ks, ss, n, k, ln, br, ca, cs0, rfl, _⟩ := h
    rfl
  · obtain ⟨p, dk, ds, ks, ss, n, k, ln, br, ca, cs0, rfl, _, _, M, hcl, hlen, hdn, L, hca, hc0, hR0, kno, kfalse, kq0⟩ := h
    obtain ⟨dx, h1⟩ := M.ob
    refine ⟨_, (pss_cons (ps_set (i := 3) sc_first_broken.nd rfl (by first | exact Or.inl rfl | exact Or.inr rfl) (pe_meth (pv 0) T.C_Makes T.M_Makes_line (ok_Makes_line T) (hr.mono (by decide)) T.b_Makes_line .nil (passes_call (takes_of rfl rfl rfl rfl) (fun _ _ _ _ h => h)) (pa_cons (pv 1) pa_nil)))
      (pss_cons (ps_if (pt_not (pt_val (pe_callF (i := 2) Fn C rfl hr (by decide) pass0 rfl (by first | exact Or.inl rfl | exact Or.inr (Or.inl rfl) | exact Or.inr (Or.inr rfl)) (pa_cons (pv 1) pa_nil)))) (pss_one (ps_raise rfl (takes_of rfl rfl rfl rfl) (pmk_oex T.O_NotBroken T.i_NotBroken T.t_NotBroken (ok_NotBroken_init T) (hr.mono (by decide)) T.b_NotBroken_init .nil pass0 rfl T.g_NotBroken (pa_cons (pv 1) pa_nil)))) pss_nil)
      (pss_cons (ps_set (i := 4) sc_first_broken.nd rfl (by first | exact Or.inl rfl | exact Or.inr rfl) (pv 1))
      (pss_cons (ps_set (i := 5) sc_first_broken.nd rfl (by first | exact Or.inl rfl | exact Or.inr rfl) (pe_lst (pa_cons (pe_tup (pa_cons (pv 1) (pa_cons pe_bl (pa_cons (pe_callB call_len_seq (by rfl) T.z_len PySem.boot_len (pa_cons (pv 3) pa_nil)) pa_nil)))) pa_nil)))
      (pss_cons (ps_while (passes_of rfl) (pt_cmpR op_gt (pe_callB call_len_seq (by rfl) T.z_len PySem.boot_len (pa_cons (pv 3) pa_nil)) pe_int (nomark _))
      (pss_cons (ps_set (i := 6) sc_first_broken.nd rfl (by first | exact Or.inl rfl | exact Or.inr rfl) (pe_call (ok_next_asked T) (hr.mono (by decide)) (by rfl) T.m_next_asked T.F_next_asked.kp T.b_next_asked .nil pass0 (pa_cons (pv 0) (pa_cons (pv 3) (pa_cons (pv 4) pa_nil)))))
      (pss_cons (ps_set (i := 7) sc_first_broken.nd rfl (by first | exact Or.inl rfl | exact Or.inr rfl) (pe_meth (pv 0) T.C_Makes T.M_Makes_line (ok_Makes_line T) (hr.mono (by decide)) T.b_Makes_line .nil (passes_call (takes_of rfl rfl rfl rfl) (fun _ _ _ _ h => h)) (pa_cons (pv 6) pa_nil)))
      (pss_cons (ps_set (i := 8) sc_first_broken.nd rfl (by first | exact Or.inl rfl | exact Or.inr rfl) (pe_callF (i := 2) Fn C rfl hr (by decide) pass0 rfl (by first | exact Or.inl rfl | exact Or.inr (Or.inl rfl) | exact Or.inr (Or.inr rfl)) (pa_cons (pv 6) pa_nil)))
      (pss_cons (ps_if (pt_val (pv 8)) (pss_cons (ps_set (i := 4) sc_first_broken.nd rfl (by first | exact Or.inl rfl | exact Or.inr rfl) (pv 6))
      (pss_one (ps_setLc (i := 3) (own := [("kin", 9)]) rfl sc_first_broken.nd rfl rfl (sw_true rfl rfl rfl (by decide +kernel)) (pi_list (pv 3)) (blkOk_by (own := [("kin", 9)]) (N := ["makes", "number", "rule", "still", "top", "asked", "one", "line", "broken", "kin"]) (sc := defScope s_first_broken) (by decide +kernel)) (fun _ _ _ _ _ => (pg_name (i := 9) sc_first_broken.nd rfl (by first | exact Or.inl rfl | exact Or.inr rfl))) (fun _ _ _ _ _ => (pts_one (pt_cmpR (show OpR _ (compareOp .In) (rIn K false) from op_in_seq) (pv 9) (pv 7) rfl))) (fun _ _ _ _ _ => (pv 9))))) (pss_one (ps_setLc (i := 3) (own := [("kin", 9)]) rfl sc_first_broken.nd rfl rfl (sw_true rfl rfl rfl (by decide +kernel)) (pi_list (pv 3)) (blkOk_by (own := [("kin", 9)]) (N := ["makes", "number", "rule", "still", "top", "asked", "one", "line", "broken", "kin"]) (sc := defScope s_first_broken) (by decide +kernel)) (fun _ _ _ _ _ => (pg_name (i := 9) sc_first_broken.nd rfl (by first | exact Or.inl rfl | exact Or.inr rfl))) (fun _ _ _ _ _ => (pts_one (pt_cmpR (show OpR _ (compareOp .NotIn) (rIn K true) from op_notIn_seq) (pv 9) (pv 7) rfl))) (fun _ _ _ _ _ => (pv 9)))))
      (pss_one (ps_expr (pe_bm PySem.F.plainAttrs_list PySem.F.slot_list_append PySem.F.type_list_append mt_append (pv 5) (pa_cons (pe_tup (pa_cons (pv 6) (pa_cons (pv 8) (pa_cons (pe_callB call_len_seq (by rfl) T.z_len PySem.boot_len (pa_cons (pv 3) pa_nil)) pa_nil)))) pa_nil)))))))))
      (pss_one (ps_ret (pe_tup (pa_cons (pv 4) (pa_cons (pv 5) pa_nil)))))))))), ?_⟩
    have hcaL : ∀ x ∈ [ca], ∃ ys, H x = some (.lst ys) := fun x hx => by
      obtain rfl : x = ca := by simpa using hx
      exact ⟨_, hca⟩
    have hkeys : (ks.map (·.1)).length < 64 := by rw [List.length_map]; exact hlen
    refine ⟨_, rfl, p, dx, _, rfl, h1, fl_Makes_m_line, _, rfl, p, dk, ds, ks, ss, n, k, rfl, M, hcl, hlen, fun hk H1 q l hl1 hl2 s1 hq hq1 => ?_, kno⟩
    obtain rfl := L.one hk hl1 hl2
    have hR := hR0 hk
    have I0 : SI ks (ln k) k := ⟨(L.mem k hk k).mpr (.refl k), lt_nodup (L.up k hk), fun y hy => (L.mem k hk y).mp hy, fun y hy => by
      refine anc_closed (l := ks.map (·.1)) (fun x hx e he => hcl.kin he) ((L.mem k hk y).mp hy) hk⟩
    have hl64 : (ln k).length ≤ 63 := by have := nodup_le _ _ I0.nd I0.key; omega
    refine ⟨rfl, s1 _ _ hf, _, rfl, s1 _ _ hf, s1 _ _ hc, hR H1 cs0 k _ hk (by omega) (.of s1) (s1 _ _ hca) fun H2 b2 hca2 => ⟨_, rfl, ?_⟩⟩
    cases hbr : br k with
    | false => exact iteT (mk_var rfl fun d hd => kfalse hk hbr H2 d ((But.of s1).trans b2) hca2 hd)
    | true =>
    refine iteF ?_
    have kq := kq0 hk hbr
    have nca : ∀ {a : Addr}, H a = none → a ≠ ca := fun e z => ne_of_none hca e z.symm
    have hq2 : H2 q = some (.lst ((ln k).map V.int)) := b2 _ _ hq1 (by simpa using nca hq)
    have b02 : But [ca] H H2 := (But.of s1).trans b2
    have off : ∀ {H' : Hp} {a : Addr}, But [ca] H H' → H' ca ≠ none → H' a = none → H a = none := fun {H' a} b n e => b.none e (by
      simp only [List.mem_cons, List.not_mem_nil, or_false]
      exact fun z => n (by rw [← z]; exact e))
    refine ⟨_, rfl, _, rfl, _, rfl, q, _, rfl, .inl (SqL.of hq2), (by show 3 ≤ sizeLine; decide), fun t ht => ⟨(by show 1 ≤ sizeLine; decide), fun as has => ?_⟩⟩
    have ht0 : H t = none := off b02 (by rw [hca2]; simp) ht
    have s23 : Same H2 (upd (upd H2 t (.tup [.int k, .bl true, .int (((ln k).map V.int).length : Int)])) as (.lst [.ref t])) := (same_upd ht).new ((same_upd ht : Same H2 _).free has)
    have has2 : H2 as = none := (same_upd ht : Same H2 _).free has
    have has0 : H as = none := off b02 (by rw [hca2]; simp) has2
    have nta : t ≠ as := fun z => by rw [← z, upd_same] at has; cases has
    have nqa : q ≠ as := ne_of_none hq2 has2
    refine ⟨fun m σ H' => ∃ S top st ts A x6 x7 x8 x9 fuel, m = S.length ∧ σ = [some (.ref p), some (.int k), some (.ref f), some (.ref st), some (.int top), some (.ref as), x6, x7, x8, x9] ∧ But [ca] H H' ∧ H st = none ∧ st ≠ as ∧ H' st = some (.lst (S.map V.int)) ∧ H' as = some (.lst (ts.map V.ref)) ∧ (∀ t ∈ ts, H t = none) ∧ Asked H' ts A ∧
        H' ca = some (.lst ((cs0 ++ A.map (·.1)).map V.int)) ∧ SI ks S top ∧ S.length ≤ fuel ∧ A.length + fuel ≤ 65 ∧ S.length ≤ 63 ∧ (k, true, ((ln k).length : Int)) :: (runP ln br 64 (ln k) k).1 = A ++ (runP ln br fuel S top).1 ∧ (runP ln br 64 (ln k) k).2 = (runP ln br fuel S top).2,
      ⟨_, ln k, k, q, [t], [(k, true, ((ln k).length : Int))], none, none, none, none, 64, rfl, rfl, b02.trans (.of s23), hq, nqa, s23 _ _ hq2, upd_same, fun t' ht' => ?_, .cons ?_ .nil, ?_, I0, by omega, by simp, hl64, rfl, rfl⟩, ?_⟩
    · obtain rfl : t' = t := by simpa using ht'
      exact ht0
    · rw [upd_ne nta, upd_same, List.length_map]
    · rw [s23 _ _ hca2]
      rfl
    rintro m σ H5 ⟨S, top, st, ts, A, x6, x7, x8, x9, fuel, rfl, rfl, b5, hst0, nsa, hst, has5, hts, hA, hca5, I, hfu, hAf, hS63, e1, e2⟩
    refine ⟨_, rfl, st, _, rfl, .inl (SqL.of hst), _, _, rfl, rfl, _, rfl, ?_⟩
    by_cases hl : 1 < S.length
    · refine iteP (decide_eq_true (by rw [List.length_map]; exact_mod_cast hl)) ⟨fun σ' H' => ∃ S' top st ts A x6 x7 x8 x9 fuel, S'.length < S.length ∧ σ' = [some (.ref p), some (.int k), some (.ref f), some (.ref st), some (.int top), some (.ref as), x6, x7, x8, x9] ∧ But [ca] H H' ∧ H st = none ∧ st ≠ as ∧ H' st = some (.lst (S'.map V.int)) ∧ H' as = some (.lst (ts.map V.ref)) ∧ (∀ t ∈ ts, H t = none) ∧ Asked H' ts A ∧
        H' ca = some (.lst ((cs0 ++ A.map (·.1)).map V.int)) ∧ SI ks S' top ∧ S'.length ≤ fuel ∧ A.length + fuel ≤ 65 ∧ S'.length ≤ 63 ∧ (k, true, ((ln k).length : Int)) :: (runP ln br 64 (ln k) k).1 = A ++ (runP ln br fuel S' top).1 ∧ (runP ln br 64 (ln k) k).2 = (runP ln br fuel S' top).2,
        fun σ' H' ⟨S', top, st, ts, A, x6, x7, x8, x9, fuel, lt, h⟩ => ⟨_, lt, S', top, st, ts, A, x6, x7, x8, x9, fuel, rfl, h⟩, ?_⟩
      have M5 := M.but b5 hcaL
      obtain ⟨hnx, hnt, _⟩ := I.next (ln := ln) hl
      refine ⟨_, rfl, _, rfl, _, rfl, p, dk, ds, ks, ss, n, st, S, top, ln, rfl, M5, hcl, hlen, L, I.key, hst, by omega, fun H6 s6 => ?_⟩
      generalize hx : nextP ln S top = x at hnx hnt
      have hkx := I.key x hnx
      have b6 : But [ca] H H6 := b5.trans (.of s6)
      have M6 := M5.same s6
      obtain ⟨dx6, h16⟩ := M6.ob
      refine ⟨_, rfl, p, dx6, _, rfl, h16, fl_Makes_m_line, _, rfl, p, dk, ds, ks, ss, n, x, rfl, M6, hcl, hlen, fun _ H7 q7 l hl1 hl2 s7 hq7 hq77 => ?_, fun h => absurd hkx h⟩
      obtain rfl := L.one hkx hl1 hl2
      have b7 : But [ca] H H7 := b6.trans (.of s7)
      have hf7 := b7 _ _ hf (by simp only [List.mem_cons, List.not_mem_nil, or_false]; exact ne_of hf hca (by intro z; cases z))
      have hc7 := b7 _ _ hc (by simp only [List.mem_cons, List.not_mem_nil, or_false]; exact ne_of hc hca (by intro z; cases z))
      have hca7 := s7 _ _ (s6 _ _ hca5)
      refine ⟨rfl, hf7, _, rfl, hf7, hc7, hR H7 (cs0 ++ A.map (·.1)) x _ hkx (by rw [List.length_append, List.length_map]; omega) b7 hca7 fun H8 b8 hca8 => ?_⟩
      have b08 : But [ca] H H8 := b7.trans b8
      have hq70 : H q7 = none := off b6 (by rw [s6 _ _ hca5]; simp) hq7
      have hq8 : H8 q7 = some (.lst ((ln x).map V.int)) := b8 _ _ hq77 (by simpa using nca hq70)
      have hst8 : H8 st = some (.lst (S.map V.int)) := b8 _ _ (s7 _ _ (s6 _ _ hst)) (by simpa using nca hst0)
      have has8 : H8 as = some (.lst (ts.map V.ref)) := b8 _ _ (s7 _ _ (s6 _ _ has5)) (by simpa using nca has0)
      have hA8 : Asked H8 ts A := hA.mono fun t' ht' o e => b8 _ _ (s7 _ _ (s6 _ _ e)) (by simpa using nca (hts t' ht'))
      refine ⟨_, rfl, _, rfl, ?_⟩
      refine if_nx (fun σ' H' => ∃ D, σ' = [some (.ref p), some (.int k), some (.ref f), some (.ref D), some (.int (if br x = true then x else top)), some (.ref as), some (.int x), some (.ref q7), some (.bl (br x)), x9] ∧ Same H8 H' ∧ H8 D = none ∧
        H' D = some (.lst ((if br x = true then S.filter (fun y => decide (y ∈ ln x)) else S.filter (fun y => !decide (y ∈ ln x))).map V.int))) ?_ (fun kk hb => ?_) fun kk hb => ?_
      rotate_left
      · refine ⟨_, rfl, _, rfl, st, rfl, ⟨_, SqL.of hst8⟩, fun D hD => ?_⟩
        refine lc_list (K := K) (a := st) (xs := S.map V.int) (fun i H2 => Same H8 H2 ∧ H2 D = some (.lst (((S.take i).filter fun y => decide (y ∈ ln x)).map V.int))) ⟨same_upd hD, upd_same⟩ (fun i H2 _ s2 => SqL.of (s2.1 _ _ hst8)) ?_ ?_
        · rintro i v H2 hi ⟨s2, hD2⟩
          obtain ⟨y, hy, rfl⟩ := map_at hi
          refine ⟨rfl, ?_⟩
          refine ⟨_, rfl, _, rfl, q7, _, rfl, .inl (SqL.of (s2 _ _ hq8)), rfl, flat_ints _, _, rfl, ?_⟩
          have e0 : (if false = true then !inV (V.int y) ((ln x).map V.int) else inV (V.int y) ((ln x).map V.int)) = decide (y ∈ ln x) := inV_ints _ _
          rw [e0]
          refine ite2 (fun e => ?_) fun e => ?_
          · refine ⟨_, rfl, _, hD2, by rw [List.length_map]; exact small1000 (Nat.le_trans (List.length_filter_le _ _) (Nat.le_trans (List.length_take_le' _ _) (by omega))), s2.new hD, ?_⟩
            rw [upd_same, filter_take hy, if_pos e, List.map_append]
            rfl
          · refine ⟨s2, ?_⟩
            rw [filter_take hy, if_neg e, List.append_nil]
            exact hD2
        · rintro H2 ⟨s2, hD2⟩
          rw [show (S.map V.int).length = S.length from List.length_map .., List.take_length] at hD2
          refine kk _ _ ⟨D, by rw [if_pos hb]; rfl, s2, hD, by rw [if_pos hb]; exact hD2⟩
      · refine ⟨_, rfl, st, rfl, ⟨_, SqL.of hst8⟩, fun D hD => ?_⟩
        refine lc_list (K := K) (a := st) (xs := S.map V.int) (fun i H2 => Same H8 H2 ∧ H2 D = some (.lst (((S.take i).filter fun y => !decide (y ∈ ln x)).map V.int))) ⟨same_upd hD, upd_same⟩ (fun i H2 _ s2 => SqL.of (s2.1 _ _ hst8)) ?_ ?_
        · rintro i v H2 hi ⟨s2, hD2⟩
          obtain ⟨y, hy, rfl⟩ := map_at hi
          refine ⟨rfl, ?_⟩
          refine ⟨_, rfl, _, rfl, q7, _, rfl, .inl (SqL.of (s2 _ _ hq8)), rfl, flat_ints _, _, rfl, ?_⟩
          have e0 : (if true = true then !inV (V.int y) ((ln x).map V.int) else inV (V.int y) ((ln x).map V.int)) = !decide (y ∈ ln x) := by rw [if_pos rfl, inV_ints]
          rw [e0]
          refine ite2 (fun e => ?_) fun e => ?_
          · refine ⟨_, rfl, _, hD2, by rw [List.length_map]; exact small1000 (Nat.le_trans (List.length_filter_le _ _) (Nat.le_trans (List.length_take_le' _ _) (by omega))), s2.new hD, ?_⟩
            rw [upd_same, filter_take hy, if_pos e, List.map_append]
            rfl
          · refine ⟨s2, ?_⟩
            rw [filter_take hy, if_neg e, List.append_nil]
            exact hD2
        · rintro H2 ⟨s2, hD2⟩
          rw [show (S.map V.int).length = S.length from List.length_map .., List.take_length] at hD2
          have hb' : ¬ br x = true := by rw [hb]; decide
          refine kk _ _ ⟨D, by rw [if_neg hb']; rfl, s2, hD, by rw [if_neg hb']; exact hD2⟩
      rintro σ9 H9 ⟨D, rfl, s9, hD8, hD9⟩
      have hD0 : H D = none := off b08 (by rw [hca8]; simp) hD8
      have nDa : D ≠ as := fun z => by rw [z, has8] at hD8; cases hD8
      generalize hS' : (if br x = true then S.filter (fun y => decide (y ∈ ln x)) else S.filter (fun y => !decide (y ∈ ln x))) = S' at hD9
      generalize ht' : (if br x = true then x else top) = top'
      have SI' : SI ks S' top' ∧ S'.length < S.length := by
        subst hS' ht'
        cases hb : br x with
        | true =>
          rw [if_pos rfl, if_pos rfl]
          exact ⟨I.yes L hnx, I.less_yes L hdn hnx hnt⟩
        | false =>
          rw [if_neg (by decide), if_neg (by decide)]
          exact ⟨I.no L hdn hnx hnt, I.less_no L hnx⟩
      obtain ⟨fu, rfl⟩ : ∃ fu, fuel = fu + 1 := ⟨fuel - 1, by omega⟩
      have er : runP ln br (fu + 1) S top = ((x, br x, (S'.length : Int)) :: (runP ln br fu S' top').1, (runP ln br fu S' top').2) := by
        rw [runP, if_neg (by omega)]
        simp only [hx, hS', ht']
      refine ⟨_, rfl, .inl ⟨rfl, _, SqL.of (s9 _ _ has8)⟩, _, rfl, _, rfl, _, rfl, D, _, rfl, .inl (SqL.of hD9), (by show 3 ≤ sizeLine; decide), fun t9 ht9 => ⟨as, _, _, rfl, rfl, (same_upd ht9) _ _ (s9 _ _ has8), ?_, ?_⟩⟩
      · rw [List.length_map]
        have := Paired.length hA
        exact small1000 (by omega)
      have ht90 : H t9 = none := off (b08.trans (.of s9)) (by rw [s9 _ _ hca8]; simp) ht9
      have nta9 : t9 ≠ as := fun z => by rw [z, s9 _ _ has8] at ht9; cases ht9
      refine ⟨S', top', D, ts ++ [t9], A ++ [(x, br x, (S'.length : Int))], _, _, _, _, fu, SI'.2, rfl, (((b08.trans (.of s9)).new ht90).new has0), hD0, nDa, ?_, ?_, ?_, ?_, ?_, SI'.1, by have := SI'.2; omega, by rw [List.length_append, List.length_singleton]; omega, by have := SI'.2; omega, ?_, ?_⟩
      · rw [upd_ne nDa]
        exact (same_upd ht9) _ _ hD9
      · rw [upd_same, List.map_append]
        rfl
      · intro t' ht'
        rcases List.mem_append.mp ht' with h' | h'
        · exact hts t' h'
        · obtain rfl : t' = t9 := by simpa using h'
          exact ht90
      · refine hA8.snoc (fun t' ht' o e => ?_) ?_
        · have n1 : t' ≠ as := fun z => by
            obtain ⟨xs, hxs⟩ := hA8.tup t' ht'
            rw [z, has8] at hxs
            cases hxs
          rw [upd_ne n1]
          exact (same_upd ht9) _ _ (s9 _ _ e)
        · rw [upd_ne nta9, upd_same, List.length_map]
      · rw [upd_ne (Ne.symm (nca has0)), (same_upd ht9) _ _ (s9 _ _ hca8)]
        simp
      · rw [e1, er]
        simp
      · rw [e2, er]
    · refine iteN (decide_eq_false (by rw [List.length_map]; exact_mod_cast hl)) ?_
      have ee := run_end (ln := ln) (br := br) (S := S) (top := top) (by omega) fuel
      rw [ee] at e1 e2
      rw [List.append_nil] at e1
      refine ⟨_, rfl, _, rfl, (by show 2 ≤ sizeLine; decide), fun q9 hq9 => ?_⟩
      have hq90 : H q9 = none := off b5 (by rw [hca5]; simp) hq9
      refine kq _ q9 as ts (b5.new hq90) hq90 has0 hts (by rw [upd_same, e2]) ((same_upd hq9) _ _ has5) (by rw [e1]; exact hA.mono fun t' _ o e => (same_upd hq9) _ _ e) ?_
      rw [(same_upd hq9) _ _ hca5, ← e1]
      rfl
end
end Z
namespace Z
open PySem PySem.Spec PyProof.Rows L2
/-! ### the law's words -/
theorem pos47 : (0 : Int) < 2147483647 := by decide
theorem pos29 : (0 : Int) < 2147483629 := by decide
theorem at_mem {α : Type} {xs : List α} {i : Int} (h0 : 0 ≤ i) (h1 : i < xs.length) : ∃ x, atI xs i = some x ∧ xs[i.toNat]? = some x := by
  obtain ⟨n, rfl⟩ := Int.eq_ofNat_of_zero_le h0
  have hn : n < xs.length := by exact_mod_cast h1
  refine ⟨xs[n], ?_, ?_⟩
  · unfold atI ixN
    rw [if_pos (by omega), if_pos (by exact_mod_cast hn), Int.toNat_natCast]
    show xs[n]? = _
    rw [List.getElem?_eq_getElem hn]
  · rw [Int.toNat_natCast, List.getElem?_eq_getElem hn]
def cntP : Nat → Int → Nat
  | 0, _ => 0
  | m + 1, n => if n ≤ 1 then 0 else cntP m ((2 * n + 1) / 3) + 1
theorem cnt_stable : ∀ (m : Nat) (n : Int), n ≤ m → cntP (m + 1) n = cntP m n
  | 0, n, h => by
    show (if n ≤ 1 then 0 else _) = 0
    rw [if_pos (by omega)]
  | m + 1, n, h => by
    show (if n ≤ 1 then 0 else cntP (m + 1) ((2 * n + 1) / 3) + 1) = (if n ≤ 1 then 0 else cntP m ((2 * n + 1) / 3) + 1)
    by_cases e : n ≤ 1
    · rw [if_pos e, if_pos e]
    · rw [if_neg e, if_neg e, cnt_stable m _ (by omega)]
section
variable {K : PySem.W.Frag} {mg : Str → Option Value}
def spCell (K : PySem.W.Frag) : Sp := fun vs H Q _ => ∃ (l : Addr) (k : Int) (xs : List Int), vs = [.ref l, .int k] ∧ 0 ≤ k ∧ SqL K H l (xs.map V.int) ∧ ∀ x : Int, Q (.int x) H
def spWhole : Sp := fun vs H Q _ => ∃ i, vs = [.int i] ∧ Q (.bl true) H
def spMix : Sp := fun vs H Q _ => ∃ c k : Int, vs = [.int c, .int k] ∧ ∀ r : Int, 0 ≤ r → Q (.int r) H
def spLawElders : Sp := fun vs H Q _ => ∃ c k : Int, vs = [.int c, .int k] ∧ 0 ≤ c ∧ 1 ≤ k ∧ ∀ (H' : Hp) (q : Addr) (es : List Int), Same H H' → H q = none → H' q = some (.lst (es.map V.int)) → es ≠ [] → (∃ a b, ∀ x ∈ es, x = a ∨ x = b) → es.length ≤ 2 → (∀ e ∈ es, 0 ≤ e ∧ e < k) → Q (.ref q) H'
def spSay : Sp := fun vs H Q _ => ∃ (ca bl : Addr) (cs : List Int) (bs : List Bool) (x : Int) (b : Bool), vs = [.ref ca, .ref bl, .int x] ∧ H ca = some (.lst (cs.map V.int)) ∧ cs.length ≤ 500 ∧ H bl = some (.lst (bs.map V.bl)) ∧ ca ≠ bl ∧ 0 ≤ x ∧ bs[x.toNat]? = some b ∧ Q (.bl b) (upd H ca (.lst ((cs ++ [x]).map V.int)))
def spCount : Sp := fun vs H Q _ => ∃ n : Int, vs = [.int n] ∧ n ≤ 64 ∧ Q (.int (cntP 64 n)) H
end
section
variable {P : Program} {w : World} {K : PySem.W.Frag} {mg : Str → Option Value} {base : Heap}
theorem ok_lw_cell (T : Top K mg) : FnOk P w K mg base CX0 1 T.f_lw_cell T.d_lw_cell ["_law_script", "_law_k"] (spCell K) := by
  refine T.F_lw_cell.ok sc_lw_cell (fun vs H Q E h => ?_) (fun cdv A outer s H vs Q E hr h => ?_)
  · obtain ⟨l, k, xs, rfl, _⟩ := h
    rfl
  · obtain ⟨l, k, xs, rfl, h0, hl, q⟩ := h
    refine ⟨_, (pss_cons (ps_if (pt_cmpR op_lt (pv 1) (pe_callB call_len_seq (by rfl) T.z_len PySem.boot_len (pa_cons (pv 0) pa_nil)) (nomark _)) (pss_one (ps_ret (pe_ix ix_list (pv 0) (pv 1) (fun _ _ => rfl)))) pss_nil)
      (pss_one (ps_ret pe_int))), ?_⟩
    refine ⟨_, rfl, _, rfl, l, _, rfl, .inl hl, _, _, rfl, rfl, _, rfl, ?_⟩
    refine ite2 (fun hk => ?_) fun hk => ?_
    · have hk' : k < ((xs.map V.int).length : Int) := of_decide_eq_true hk
      obtain ⟨v, e1, e2⟩ := at_mem h0 hk'
      obtain ⟨x, _, rfl⟩ := List.mem_map.mp (List.mem_of_getElem? e2)
      exact ⟨_, rfl, _, rfl, l, xs.map V.int, k, .int x, rfl, rfl, hl, e1, q _⟩
    · exact q 0
theorem ok_lw_whole (T : Top K mg) : FnOk P w K mg base CX0 1 T.f_lw_whole T.d_lw_whole ["_law_found_here"] (spWhole) := by
  refine T.F_lw_whole.ok sc_lw_whole (fun vs H Q E h => ?_) (fun cdv A outer s H vs Q E hr h => ?_)
  · obtain ⟨i, rfl, _⟩ := h
    rfl
  · obtain ⟨i, rfl, q⟩ := h
    refine ⟨_, (pss_one (ps_ret (pe_and (pe_callB call_isi (by rfl) T.z_isinstance (by decide +kernel) (pa_cons (pv 0) (pa_cons (pe_bltn (v := .ty "int") (by rfl) T.z_int (by decide +kernel) rfl) pa_nil))) (pe_one (pe_not (pe_callB call_isi (by rfl) T.z_isinstance (by decide +kernel) (pa_cons (pv 0) (pa_cons (pe_bltn (v := .ty "bool") (by rfl) T.z_bool (by decide +kernel) rfl) pa_nil)))))))), ?_⟩
    exact ⟨_, rfl, _, _, _, _, true, rfl, .ty "int", .base (.int _), kit_ty rfl, _, rfl, iteT ⟨_, rfl, _, _, _, _, false, rfl, .ty "bool", .base (.int _), kit_ty rfl, _, rfl, q⟩⟩
theorem ok_lw_mix (T : Top K mg) : FnOk P w K mg base CX0 1 T.f_lw_mix T.d_lw_mix ["_law_cell_here", "_law_k"] (spMix) := by
  refine T.F_lw_mix.ok sc_lw_mix (fun vs H Q E h => ?_) (fun cdv A outer s H vs Q E hr h => ?_)
  · obtain ⟨c, k, rfl, _⟩ := h
    rfl
  · obtain ⟨c, k, rfl, q⟩ := h
    refine ⟨_, (pss_cons (ps_set (i := 2) sc_lw_mix.nd rfl (by first | exact Or.inl rfl | exact Or.inr rfl) (pe_op op_mod (pe_op op_add (pe_op op_add (pe_op op_mod (pv 0) pe_int) (pe_op op_mul pe_int (pv 1))) pe_int) pe_int))
      (pss_cons (ps_set (i := 2) sc_lw_mix.nd rfl (by first | exact Or.inl rfl | exact Or.inr rfl) (pe_op op_mod (pe_op op_mul (pv 2) (pv 2)) pe_int))
      (pss_one (ps_ret (pe_op op_mod (pe_op op_mul (pe_op op_add (pv 2) (pe_op op_mul pe_int (pv 1))) pe_int) pe_int))))), ?_⟩
    refine ⟨_, rfl, _, _, rfl, rfl, pos29, _, rfl, _, _, rfl, rfl, .inl ⟨by decide, by decide⟩, _, _, rfl, rfl, _, _, rfl, rfl, _, _, rfl, rfl, pos29, ?_⟩
    have b1 := Int.emod_nonneg (c % 2147483629 + 7919 * k + 12345) (by decide : (2147483629 : Int) ≠ 0)
    have b2 := Int.emod_lt_of_pos (c % 2147483629 + 7919 * k + 12345) pos29
    refine ⟨_, rfl, _, rfl, _, _, rfl, rfl, .inl ⟨by omega, by omega⟩, _, _, rfl, rfl, pos29, ?_⟩
    refine ⟨_, rfl, _, rfl, _, _, rfl, rfl, .inl ⟨by decide, by decide⟩, _, _, rfl, rfl, _, _, rfl, rfl, .inr ⟨by decide, by decide⟩, _, _, rfl, rfl, pos47, ?_⟩
    exact q _ (Int.emod_nonneg _ (by decide))
theorem ok_lw_elders (T : Top K mg) : FnOk P w K mg base CX0 1 T.f_lw_elders T.d_lw_elders ["_law_cell_here", "_law_k"] (spLawElders) := by
  refine T.F_lw_elders.ok sc_lw_elders (fun vs H Q E h => ?_) (fun cdv A outer s H vs Q E hr h => ?_)
  · obtain ⟨c, k, rfl, _⟩ := h
    rfl
  · obtain ⟨c, k, rfl, hc, hk, q⟩ := h
    refine ⟨_, (pss_cons (ps_set (i := 2) sc_lw_elders.nd rfl (by first | exact Or.inl rfl | exact Or.inr rfl) (pe_op op_sub (pe_op op_sub (pv 1) pe_int) (pe_op op_mod (pv 0) (pe_callB (call_min2 rfl) (by rfl) T.z_min (by decide +kernel) (pa_cons (pv 1) (pa_cons pe_int pa_nil))))))
      (pss_cons (ps_set (i := 3) sc_lw_elders.nd rfl (by first | exact Or.inl rfl | exact Or.inr rfl) (pe_op op_mod (pe_op op_fdiv (pv 0) pe_int) (pv 1)))
      (pss_cons (ps_if (pt_cmpR op_eq (pe_op op_mod (pe_op op_fdiv (pv 0) pe_int) pe_int) pe_int (nomark _)) (pss_one (ps_ret (pe_lst (pa_cons (pv 2) pa_nil)))) pss_nil)
      (pss_one (ps_ret (pe_lst (pa_cons (pv 3) (pa_cons (pv 2) pa_nil)))))))), ?_⟩
    have mp : (0 : Int) < (if 3 < k then 3 else k) := by split <;> omega
    refine ⟨_, rfl, _, _, rfl, rfl, _, rfl, _, rfl, _, _, rfl, _, _, rfl, rfl, mp, _, _, rfl, rfl, ?_⟩
    have a0 := Int.emod_nonneg c (show (if 3 < k then 3 else k) ≠ 0 by omega)
    have a1 := Int.emod_lt_of_pos c mp
    have mk : (if 3 < k then 3 else k) ≤ k := by split <;> omega
    have o0 := Int.emod_nonneg (c / 3) (show k ≠ 0 by omega)
    have o1 := Int.emod_lt_of_pos (c / 3) (show (0 : Int) < k by omega)
    refine ⟨_, rfl, _, _, rfl, rfl, ⟨by show (0:Int) < 3; decide, by show (3:Int) < 1073741824; decide⟩, _, rfl, _, _, rfl, rfl, (show (0 : Int) < k by omega), ?_⟩
    refine ⟨_, rfl, _, _, rfl, rfl, ⟨by show (0:Int) < 7; decide, by show (7:Int) < 1073741824; decide⟩, _, _, rfl, rfl, (show (0 : Int) < 3 by decide), rfl, _, rfl, ite2 (fun _ => ?_) fun _ => ?_⟩
    · refine ⟨_, rfl, (by show 1 ≤ sizeLine; decide), fun r hr => q _ r [k - 1 - c % (if 3 < k then 3 else k)] (same_upd hr) hr upd_same (by simp) ⟨_, 0, fun x hx => .inl (by simpa using hx)⟩ (by simp) fun e he => ?_⟩
      obtain rfl : e = k - 1 - c % (if 3 < k then 3 else k) := by simpa using he
      omega
    · refine ⟨_, rfl, _, rfl, (by show 2 ≤ sizeLine; decide), fun r hr => q _ r [c / 3 % k, k - 1 - c % (if 3 < k then 3 else k)] (same_upd hr) hr upd_same (by simp) ⟨_, _, fun x hx => by simpa using hx⟩ (by simp) fun e he => ?_⟩
      rcases (by simpa using he : e = c / 3 % k ∨ e = k - 1 - c % (if 3 < k then 3 else k)) with rfl | rfl
      · exact ⟨o0, o1⟩
      · omega
theorem ok_lw_say (T : Top K mg) : FnOk P w K mg base CX0 1 T.f_lw_say T.d_lw_say ["_law_calls", "_law_broken", "_law_number"] (spSay) := by
  refine T.F_lw_say.ok sc_lw_say (fun vs H Q E h => ?_) (fun cdv A outer s H vs Q E hr h => ?_)
  · obtain ⟨ca, bl, cs, bs, x, b, rfl, _⟩ := h
    rfl
  · obtain ⟨ca, bl, cs, bs, x, b, rfl, hca, hlen, hbl, hne, h0, hb, q⟩ := h
    refine ⟨_, (pss_cons (ps_expr (pe_bm PySem.F.plainAttrs_list PySem.F.slot_list_append PySem.F.type_list_append mt_append (pv 0) (pa_cons (pv 2) pa_nil)))
      (pss_one (ps_ret (pe_ix ix_list (pv 1) (pv 2) (fun _ _ => rfl))))), ?_⟩
    refine ⟨_, rfl, .inl ⟨rfl, _, SqL.of hca⟩, _, rfl, ca, _, _, rfl, rfl, hca, by rw [List.length_map]; exact small1000 (by omega), ?_⟩
    obtain ⟨v, e1, e2⟩ := at_mem (xs := bs.map V.bl) h0 (by
      rw [List.length_map]
      have := (List.getElem?_eq_some_iff.mp hb).1
      omega)
    have ev : v = .bl b := by
      rw [List.getElem?_map, hb] at e2
      exact (Option.some.inj e2).symm
    subst ev
    refine ⟨_, rfl, _, rfl, bl, _, x, _, rfl, rfl, SqL.of (by rw [upd_ne (Ne.symm hne)]; exact hbl), e1, ?_⟩
    rw [show cs.map V.int ++ [V.int x] = (cs ++ [x]).map V.int from by simp]
    exact q
end
end Z
namespace Z
open PySem PySem.Spec PyProof.Rows L2
/-! ### a history: makes by their numbers -/
structure Hist (ks : List (Int × Addr × List Int)) : Prop where
  num : ∀ (i : Nat) k, ks[i]? = some k → k.1 = (i : Int)
  eld : ∀ k ∈ ks, ∀ e ∈ k.2.2, 0 ≤ e ∧ e < k.1
  two : ∀ k ∈ ks, k.2.2.length ≤ 2
  len : ks.length ≤ 63
theorem Hist.mem {ks : List (Int × Addr × List Int)} (h : Hist ks) {k : Int} : k ∈ ks.map (·.1) ↔ 0 ≤ k ∧ k < ks.length := by
  constructor
  · intro m
    obtain ⟨x, hx, rfl⟩ := List.mem_map.mp m
    obtain ⟨i, hi⟩ := List.mem_iff_getElem?.mp hx
    rw [h.num i x hi]
    have := (List.getElem?_eq_some_iff.mp hi).1
    omega
  · rintro ⟨h0, h1⟩
    obtain ⟨n, rfl⟩ := Int.eq_ofNat_of_zero_le h0
    have hn : n < ks.length := by exact_mod_cast h1
    exact List.mem_map.mpr ⟨ks[n], List.getElem_mem hn, h.num n _ (List.getElem?_eq_getElem hn)⟩
theorem Hist.nodup {ks : List (Int × Addr × List Int)} (h : Hist ks) : (ks.map (·.1)).Nodup := by
  rw [List.nodup_iff_pairwise_ne, List.pairwise_map, List.pairwise_iff_getElem]
  intro i j hi hj hij e
  rw [h.num i _ (List.getElem?_eq_getElem hi), h.num j _ (List.getElem?_eq_getElem hj)] at e
  omega
theorem Hist.kin {ks : List (Int × Addr × List Int)} (h : Hist ks) {i : Nat} {k : Int × Addr × List Int} (e : ks[i]? = some k) : kinOf ks (i : Int) = k.2.2 := by
  have hk : (i : Int) ∈ ks.map (·.1) := List.mem_map.mpr ⟨k, List.mem_of_getElem? e, h.num i k e⟩
  obtain ⟨x, hx, hm, h1⟩ := find_key hk
  rw [kin_at hx]
  obtain ⟨j, hj⟩ := List.mem_iff_getElem?.mp hm
  have := h.num j x hj
  have : j = i := by omega
  subst this
  rw [e] at hj
  cases hj
  rfl
theorem Hist.closed {ks : List (Int × Addr × List Int)} (h : Hist ks) : Closed ks := ⟨h.nodup, fun x hx e he => h.mem.mpr (by
  obtain ⟨i, hi⟩ := List.mem_iff_getElem?.mp hx
  have h1 := h.eld x hx e he
  have h2 := h.num i x hi
  have := (List.getElem?_eq_some_iff.mp hi).1
  omega)⟩
theorem Hist.down {ks : List (Int × Addr × List Int)} (h : Hist ks) : Down ks := fun k e he => by
  unfold kinOf at he
  cases q : ks.find? fun x => decide (x.1 = k) with
  | none => rw [q] at he; cases he
  | some x =>
    rw [q] at he
    have b := List.find?_some q
    have := h.eld x (List.mem_of_find?_eq_some q) e he
    have e1 : x.1 = k := of_decide_eq_true b
    omega
theorem Hist.low {ks : List (Int × Addr × List Int)} (h : Hist ks) {a b : Int} (k : Anc (kinOf ks) a b) (ha : 0 ≤ a) : 0 ≤ b := by
  induction k with
  | refl => exact ha
  | @step k e x m _ ih =>
    refine ih ?_
    unfold kinOf at m
    cases q : ks.find? fun x => decide (x.1 = k) with
    | none => rw [q] at m; cases m
    | some x =>
      rw [q] at m
      exact (h.eld x (List.mem_of_find?_eq_some q) e m).1
def nums (m : Nat) : List Int := (List.range (m + 1)).map fun (i : Nat) => (i : Int)
theorem mem_nums {m : Nat} {k : Int} : k ∈ nums m ↔ 0 ≤ k ∧ k ≤ m := by
  unfold nums
  rw [List.mem_map]
  constructor
  · rintro ⟨a, ha, rfl⟩
    have := List.mem_range.mp ha
    omega
  · rintro ⟨h1, h2⟩
    exact ⟨k.toNat, List.mem_range.mpr (by omega), Int.toNat_of_nonneg h1⟩
theorem low_len {l : List Int} {m : Nat} (n : l.Nodup) (h : ∀ x ∈ l, 0 ≤ x ∧ x ≤ m) : l.length ≤ m + 1 := by
  have := nodup_le l (nums m) n fun x hx => mem_nums.mpr (h x hx)
  unfold nums at this
  rwa [List.length_map, List.length_range] at this
def Kins (H : Hp) (ts : List Addr) (ks : List (Int × Addr × List Int)) : Prop := Paired (fun t k => H t = some (.tup (k.2.2.map V.int))) ts ks
def LineL (H : Hp) (ln : Int → List Int) (qs : List Addr) (m : Nat) : Prop := qs.length = m ∧ ∀ (i : Nat) q, qs[i]? = some q → H q = some (.lst ((ln (i : Int)).map V.int))
theorem Kins.at_ {H : Hp} {ts : List Addr} {ks : List (Int × Addr × List Int)} (n : Kins H ts ks) : ∀ {i : Nat} {k : Int × Addr × List Int}, ks[i]? = some k → ∃ t, ts[i]? = some t ∧ H t = some (.tup (k.2.2.map V.int)) := by
  unfold Kins at n
  induction n with
  | nil => intro i k h; cases h
  | cons a _ ih =>
    intro i k h
    cases i with
    | zero => cases h; exact ⟨_, rfl, a⟩
    | succ i => exact ih h
theorem Kins.same {H H' : Hp} {ts : List Addr} {ks : List (Int × Addr × List Int)} (n : Kins H ts ks) (s : Same H H') : Kins H' ts ks := by
  unfold Kins at *
  induction n with
  | nil => exact .nil
  | cons a _ ih => exact .cons (s _ _ a) ih
section
variable {K : PySem.W.Frag} {mg : Str → Option Value}
def spLines : Sp := fun vs H Q _ => ∃ (kl : Addr) (lts : List Addr) (ks : List (Int × Addr × List Int)), vs = [.ref kl] ∧ H kl = some (.lst (lts.map V.ref)) ∧ Kins H lts ks ∧ Hist ks ∧
  ∀ (H' : Hp) (q : Addr) (qs : List Addr) (ln : Int → List Int), Same H H' → H q = none → H' q = some (.lst (qs.map V.ref)) → (∀ t ∈ qs, H t = none) → LineL H' ln qs ks.length → Lines ks ln → Q (.ref q) H'
end
section
variable {P : Program} {w : World} {K : PySem.W.Frag} {mg : Str → Option Value} {base : Heap}
theorem ok_lw_lines (T : Top K mg) : FnOk P w K mg base CX0 1 T.f_lw_lines T.d_lw_lines ["_law_kin"] (spLines) := by
  refine T.F_lw_lines.ok sc_lw_lines (fun vs H Q E h => ?_) (fun cdv A outer s H vs Q E hr h => ?_)
  · obtain ⟨kl, lts, ks, rfl, _⟩ := h
    rfl
  · obtain ⟨kl, lts, ks, rfl, hkl, hK, hh, kq⟩ := h
    have hu := hu_of hr
    have hlt : lts.length = ks.length := Paired.length hK
    have hlen := hh.len
    refine ⟨_, (pss_cons (ps_set (i := 1) sc_lw_lines.nd rfl (by first | exact Or.inl rfl | exact Or.inr rfl) (pe_lst pa_nil))
      (pss_cons (ps_for PassesOwn.never rfl (pi_range1 (by rfl) T.z_range (pa_cons (pe_callB call_len_seq (by rfl) T.z_len PySem.boot_len (pa_cons (pv 0) pa_nil)) pa_nil)) (pg_name (i := 2) sc_lw_lines.nd rfl (by first | exact Or.inl rfl | exact Or.inr rfl))
      (pss_cons (ps_set (i := 3) sc_lw_lines.nd rfl (by first | exact Or.inl rfl | exact Or.inr rfl) (pe_disp (pps_cons (pv 2) pe_bl pps_nil) (by rfl) (by rfl) (fun z => by cases z) (by decide)))
      (pss_cons (ps_for PassesOwn.never rfl (pi_tup (pe_ix ix_list (pv 0) (pv 2) (fun _ _ => rfl))) (pg_name (i := 4) sc_lw_lines.nd rfl (by first | exact Or.inl rfl | exact Or.inr rfl))
      (pss_one (ps_for PassesOwn.never rfl (pi_list (pe_ix ix_list (pv 1) (pv 4) (fun _ _ => rfl))) (pg_name (i := 5) sc_lw_lines.nd rfl (by first | exact Or.inl rfl | exact Or.inr rfl))
      (pss_one (ps_dput hu (pv 3) (pv 5) pe_bl rfl)))))
      (pss_one (ps_expr (pe_bm PySem.F.plainAttrs_list PySem.F.slot_list_append PySem.F.type_list_append mt_append (pv 1) (pa_cons (pe_callB (call_sortedDI rfl) (by rfl) T.z_sorted (by decide +kernel) (pa_cons (pv 3) pa_nil)) pa_nil)))))))
      (pss_one (ps_ret (pv 1))))), ?_⟩
    refine ⟨(by show 0 ≤ sizeLine; decide), fun a ha => ?_⟩
    have s0 : Same H (upd H a (.lst [])) := same_upd ha
    refine ⟨_, rfl, kl, _, rfl, .inl (SqL.of (s0 _ _ hkl)), _, rfl, by rw [List.length_map]; omega, by rw [List.length_map]; omega, ?_⟩
    refine for_range (fun i σ H1 => ∃ qs ls x2 x3 x4 x5, σ = [some (.ref kl), some (.ref a), x2, x3, x4, x5] ∧ Same H H1 ∧ H1 a = some (.lst (qs.map V.ref)) ∧ qs.length = i ∧ ls.length = i ∧ (∀ t ∈ qs, H t = none ∧ t ≠ a) ∧
        (∀ (j : Nat) q (l : List Int), qs[j]? = some q → ls[j]? = some l → H1 q = some (.lst (l.map V.int)) ∧ l.Pairwise (· < ·) ∧ ∀ x, x ∈ l ↔ Anc (kinOf ks) (j : Int) x))
      ⟨[], [], none, none, none, none, rfl, s0, upd_same, rfl, rfl, fun t ht => absurd ht (by simp), fun j q l hj => by cases hj⟩ ?_ ?_
    · rintro i σ H1 hi ⟨qs, ls, x2, x3, x4, x5, rfl, s1, ha1, hqs, hls, hfr, hL⟩
      have hi' : i < ks.length := by rw [← hlt]; have : i < (((lts.map V.ref).length : Nat) : Int).toNat := hi; rw [List.length_map] at this; omega
      have hk0 : ks[i]? = some ks[i] := List.getElem?_eq_getElem hi'
      generalize ks[i] = kk at hk0
      obtain ⟨t, ht, htup⟩ := hK.at_ hk0
      have hkm := List.mem_of_getElem? hk0
      have hnum := hh.num i kk hk0
      have hkin := hh.kin hk0
      have hii : (0 + (i : Int)).toNat = i := by omega
      intro d hd
      refine ⟨_, rfl, upd_same, [(Sum.inl (0 + (i : Int)), .bl true)], rfl, (by show 1 ≤ 15; decide), ?_⟩
      have s2 : Same H1 (upd (upd H1 d (.dK [])) d (.dK [(Sum.inl (0 + (i : Int)), .bl true)])) := (same_upd hd).new hd
      obtain ⟨v, hv1, hv2⟩ := at_mem (xs := lts.map V.ref) (i := 0 + (i : Int)) (by omega) (by rw [List.length_map]; omega)
      have ev : v = .ref t := by
        rw [hii, List.getElem?_map, ht] at hv2
        exact (Option.some.inj hv2).symm
      subst ev
      have nda : d ≠ a := fun z => by rw [z, ha1] at hd; cases hd
      refine ⟨_, rfl, _, rfl, kl, _, _, _, rfl, rfl, SqL.of (s2 _ _ (s1 _ _ hkl)), hv1, t, rfl, ⟨_, SqT.of (s2 _ _ (s1 _ _ htup))⟩, ?_⟩
      refine for_tup (fun j σ H2 => ∃ kn x4 x5, σ = [some (.ref kl), some (.ref a), some (.int (0 + (i : Int))), some (.ref d), x4, x5] ∧ Same H1 H2 ∧ H2 d = some (.dK (knD kn)) ∧ kn.Nodup ∧ (∀ x ∈ kn, 0 ≤ x ∧ x ≤ (i : Int)) ∧ ∀ x, x ∈ kn ↔ x = (i : Int) ∨ ∃ j' e, j' < j ∧ kk.2.2[j']? = some e ∧ Anc (kinOf ks) e x)
        ⟨[(i : Int)], x4, x5, rfl, s2, by rw [upd_same, Int.zero_add]; rfl, by simp, fun x hx => (by simp at hx; omega), fun x => by simp⟩ (fun j σ H2 _ ⟨_, _, _, _, s3, _⟩ => SqT.of (s3 _ _ (s1 _ _ htup))) ?_ ?_
      · rintro j v σ H2 hj ⟨kn, x4', x5', rfl, s3, hd3, nk, bk, mk⟩
        obtain ⟨e, he, rfl⟩ := map_at hj
        have heb := hh.eld kk hkm e (List.mem_of_getElem? he)
        rw [hnum] at heb
        have hel : e.toNat < ls.length := by rw [hls]; omega
        have heq : e.toNat < qs.length := by rw [hqs]; omega
        have e1 : qs[e.toNat]? = some qs[e.toNat] := List.getElem?_eq_getElem heq
        have e2 : ls[e.toNat]? = some ls[e.toNat] := List.getElem?_eq_getElem hel
        generalize qs[e.toNat] = q at e1
        generalize ls[e.toNat] = l at e2
        obtain ⟨hq1, lup, lmem⟩ := hL _ q l e1 e2
        rw [Int.toNat_of_nonneg heb.1] at lmem
        obtain ⟨v, hv1, hv2⟩ := at_mem (xs := qs.map V.ref) (i := e) heb.1 (by rw [List.length_map]; omega)
        have ev : v = .ref q := by
          rw [List.getElem?_map, e1] at hv2
          exact (Option.some.inj hv2).symm
        subst ev
        have nqd : q ≠ d := fun z => by rw [← z, hq1] at hd; cases hd
        have hlow : ∀ x ∈ l, 0 ≤ x ∧ x ≤ (i : Int) := fun x hx => by
          have h1 := (lmem x).mp hx
          have := h1.le hh.down
          exact ⟨hh.low h1 heb.1, by omega⟩
        refine ⟨_, rfl, _, rfl, a, _, _, _, rfl, rfl, SqL.of (s3 _ _ ha1), hv1, q, rfl, ⟨_, SqL.of (s3 _ _ hq1)⟩, ?_⟩
        refine for_list (K := K) (a := q) (xs := l.map V.int) (fun m σ H3 => ∃ kn' x5, σ = [some (.ref kl), some (.ref a), some (.int (0 + (i : Int))), some (.ref d), some (.int e), x5] ∧ Same H1 H3 ∧ H3 d = some (.dK (knD kn')) ∧ kn'.Nodup ∧ (∀ x ∈ kn', 0 ≤ x ∧ x ≤ (i : Int)) ∧ ∀ x, x ∈ kn' ↔ x ∈ kn ∨ x ∈ l.take m)
          ⟨kn, x5', rfl, s3, hd3, nk, bk, fun x => by simp⟩ (fun m σ H3 _ ⟨_, _, _, s4, _⟩ => SqL.of (s4 _ _ hq1)) ?_ ?_
        · rintro m v σ H3 hm ⟨kn', x5, rfl, s4, hd4, nk', bk', mk'⟩
          obtain ⟨y, hy, rfl⟩ := map_at hm
          have hyl := hlow y (List.mem_of_getElem? hy)
          have hkl' := low_len nk' bk'
          refine ⟨_, rfl, _, rfl, d, _, rfl, DPut.k (k := Sum.inl y) hd4 (small1000 (by unfold knD; rw [List.length_map]; omega)), ?_⟩
          have tk : ∀ x, x ∈ l.take (m + 1) ↔ x ∈ l.take m ∨ x = y := fun x => by
            rw [List.take_add_one, hy]
            simp
          by_cases hyk : y ∈ kn'
          · rw [kn_put_in hyk]
            refine ⟨kn', _, rfl, s4.new hd, upd_same, nk', bk', fun x => ?_⟩
            rw [tk, mk' x]
            constructor
            · rintro (h | h)
              · exact .inl h
              · exact .inr (.inl h)
            · rintro (h | h | rfl)
              · exact .inl h
              · exact .inr h
              · exact (mk' x).mp hyk
          · rw [kn_put hyk]
            refine ⟨kn' ++ [y], _, rfl, s4.new hd, upd_same, List.nodup_append.mpr ⟨nk', by simp, fun x hx z hz => by
              obtain rfl : z = y := by simpa using hz
              exact fun q => hyk (by rw [← q]; exact hx)⟩, fun x hx => ?_, fun x => ?_⟩
            · rcases List.mem_append.mp hx with h | h
              · exact bk' x h
              · obtain rfl : x = y := by simpa using h
                exact hyl
            · rw [tk, List.mem_append, mk' x, List.mem_singleton, or_assoc]
        · rintro σ H3 ⟨kn', x5, rfl, s4, hd4, nk', bk', mk'⟩
          rw [List.length_map, List.take_length] at mk'
          refine ⟨kn', _, _, rfl, s4, hd4, nk', bk', fun x => ?_⟩
          rw [mk' x, mk x, lmem x]
          constructor
          · rintro ((h | ⟨j', e', h1, h2, h3⟩) | h)
            · exact .inl h
            · exact .inr ⟨j', e', by omega, h2, h3⟩
            · exact .inr ⟨j, e, by omega, he, h⟩
          · rintro (h | ⟨j', e', h1, h2, h3⟩)
            · exact .inl (.inl h)
            · rcases Nat.lt_succ_iff_lt_or_eq.mp h1 with h1 | rfl
              · exact .inl (.inr ⟨j', e', h1, h2, h3⟩)
              · rw [he] at h2
                cases h2
                exact .inr h3
      · rintro σ H2 ⟨kn, x4', x5', rfl, s3, hd3, nk, bk, mk⟩
        rw [List.length_map] at mk
        have hkl' := low_len nk bk
        refine ⟨_, rfl, .inl ⟨rfl, _, SqL.of (s3 _ _ ha1)⟩, _, rfl, d, knD kn, kn, rfl, .inl hd3, kn_keys kn, by omega, fun ys q hp hs hq => ⟨a, _, _, rfl, rfl, (same_upd hq) _ _ (s3 _ _ ha1), by rw [List.length_map]; exact small1000 (by omega), ?_⟩⟩
        have hys : ys.Pairwise (· < ·) := lt_of_le_nodup hs (hp.nodup_iff.mpr nk)
        have sq : Same H1 (upd H2 q (.lst (ys.map V.int))) := s3.new (s3.free hq)
        have nqa : q ≠ a := fun z => by rw [z, s3 _ _ ha1] at hq; cases hq
        refine ⟨qs ++ [q], ls ++ [ys], _, _, _, _, rfl, (s1.trans sq).new ha, by rw [upd_same, List.map_append]; rfl, by simp [hqs], by simp [hls], fun t' ht' => ?_, fun j q' l hj hl => ?_⟩
        · rcases List.mem_append.mp ht' with h | h
          · exact hfr t' h
          · obtain rfl : t' = q := by simpa using h
            exact ⟨s1.free (s3.free hq), nqa⟩
        · have keep : ∀ {b o}, H1 b = some o → b ≠ a → (upd (upd H2 q (.lst (ys.map V.int))) a (.lst (qs.map V.ref ++ [.ref q]))) b = some o := fun {b o} e n => by
            rw [upd_ne n]
            exact sq _ _ e
          by_cases hjl : j < qs.length
          · rw [List.getElem?_append_left hjl] at hj
            rw [List.getElem?_append_left (by omega)] at hl
            obtain ⟨h1, h2, h3⟩ := hL j q' l hj hl
            exact ⟨keep h1 (hfr q' (List.mem_of_getElem? hj)).2, h2, h3⟩
          · have hje : j = i := by
              have := (List.getElem?_eq_some_iff.mp hj).1
              rw [List.length_append, List.length_singleton] at this
              omega
            subst hje
            rw [List.getElem?_append_right (by omega), hqs, Nat.sub_self] at hj
            rw [List.getElem?_append_right (by omega), hls, Nat.sub_self] at hl
            cases hj
            cases hl
            refine ⟨by rw [upd_ne nqa, upd_same], hys, fun x => ?_⟩
            rw [hp.mem_iff, mk x, anc_iff, hkin]
            constructor
            · rintro (rfl | ⟨j', e', _, h2, h3⟩)
              · exact .inl rfl
              · exact .inr ⟨e', List.mem_of_getElem? h2, h3⟩
            · rintro (h | ⟨e', h2, h3⟩)
              · exact .inl h.symm
              · obtain ⟨j', hj'⟩ := List.mem_iff_getElem?.mp h2
                exact .inr ⟨j', e', (List.getElem?_eq_some_iff.mp hj').1, hj', h3⟩
    · rintro σ H1 ⟨qs, ls, x2, x3, x4, x5, rfl, s1, ha1, hqs, hls, hfr, hL⟩
      have hm : ((((lts.map V.ref).length : Nat) : Int)).toNat = ks.length := by rw [List.length_map]; omega
      rw [hm] at hqs hls
      have hget : ∀ (j : Nat), j < ks.length → ∃ l, ls[j]? = some l ∧ (ls[j]?).getD [] = l := fun j hj => ⟨ls[j]'(by omega), List.getElem?_eq_getElem (by omega), by rw [List.getElem?_eq_getElem (by omega)]; rfl⟩
      refine ⟨_, rfl, kq H1 a qs (fun k => (ls[k.toNat]?).getD []) s1 ha ha1 (fun t ht => (hfr t ht).1) ⟨hqs, fun j q hj => ?_⟩ ⟨fun k hk => ?_, fun k hk => ?_⟩⟩
      · obtain ⟨l, e1, e2⟩ := hget j (by have := (List.getElem?_eq_some_iff.mp hj).1; omega)
        show H1 q = some (.lst (((ls[((j : Nat) : Int).toNat]?).getD []).map V.int))
        rw [Int.toNat_natCast, e2]
        exact (hL j q l hj e1).1
      all_goals
        have hk' := hh.mem.mp hk
        have hj : k.toNat < ks.length := by omega
        obtain ⟨l, e1, e2⟩ := hget k.toNat hj
        have hq0 : qs[k.toNat]? = some (qs[k.toNat]'(by omega)) := List.getElem?_eq_getElem (by omega)
        obtain ⟨_, h2, h3⟩ := hL k.toNat _ l hq0 e1
        rw [Int.toNat_of_nonneg hk'.1] at h3
        simp only [e2]
        first
          | exact h2
          | exact h3
end
end Z
namespace Z
open PySem PySem.Spec PyProof.Rows L2
/-! ### the history is made -/
theorem Kins.but {H H' : Hp} {ts : List Addr} {ks : List (Int × Addr × List Int)} {l : List Addr} (n : Kins H ts ks) (b : But l H H') (h : ∀ x ∈ l, ∀ xs, H x ≠ some (.tup xs)) : Kins H' ts ks := by
  unfold Kins at *
  induction n with
  | nil => exact .nil
  | cons a _ ih => exact .cons (b _ _ a fun m => h _ m _ a) ih
theorem Kins.snoc {H : Hp} {ts : List Addr} {ks : List (Int × Addr × List Int)} {t : Addr} {k : Int × Addr × List Int} (n : Kins H ts ks) (h : H t = some (.tup (k.2.2.map V.int))) : Kins H (ts ++ [t]) (ks ++ [k]) := by
  unfold Kins at *
  induction n with
  | nil => exact .cons h .nil
  | cons a _ ih => exact .cons a ih
theorem Hist.snoc {ks : List (Int × Addr × List Int)} (h : Hist ks) {t : Addr} {so : List Int} (h1 : ∀ e ∈ so, 0 ≤ e ∧ e < ks.length) (h2 : so.length ≤ 2) (h3 : ks.length < 63) : Hist (ks ++ [((ks.length : Int), t, so)]) := by
  refine ⟨fun i k hi => ?_, fun k hk => ?_, fun k hk => ?_, by simp; omega⟩
  · by_cases e : i < ks.length
    · rw [List.getElem?_append_left e] at hi
      exact h.num i k hi
    · have hl := (List.getElem?_eq_some_iff.mp hi).1
      rw [List.length_append, List.length_singleton] at hl
      have : i = ks.length := by omega
      subst this
      rw [List.getElem?_append_right (by omega), Nat.sub_self] at hi
      cases hi
      rfl
  · rcases List.mem_append.mp hk with hk | hk
    · exact h.eld k hk
    · obtain rfl : k = ((ks.length : Int), t, so) := by simpa using hk
      exact h1
  · rcases List.mem_append.mp hk with hk | hk
    · exact h.two k hk
    · obtain rfl : k = ((ks.length : Int), t, so) := by simpa using hk
      exact h2
section
variable {K : PySem.W.Frag} {mg : Str → Option Value}
def spHistory (T : Top K mg) : Sp := fun vs H Q _ => ∃ (p dk ds t u cl : Addr) (cs : List Int), vs = [.ref p, .ref cl] ∧ MakesAt T.c_Makes H p dk ds [(0, t, [])] [(0, .ref u)] 1 ∧ H cl = some (.lst (cs.map V.int)) ∧ (∀ c ∈ cs, 0 ≤ c) ∧ cs.length ≤ 62 ∧
  ∀ (H' : Hp) (q : Addr) (lts : List Addr) (ks : List (Int × Addr × List Int)) (ss : List (Int × V)) (n : Int), But [p, dk, ds] H H' → H q = none → H' q = some (.lst (lts.map V.ref)) → Kins H' lts ks → Hist ks → ks.length = cs.length + 1 → MakesAt T.c_Makes H' p dk ds ks ss n → Q (.ref q) H'
end
section
variable {P : Program} {w : World} {K : PySem.W.Frag} {mg : Str → Option Value} {base : Heap}
theorem ok_lw_history (T : Top K mg) : FnOk P w K mg base CX0 5 T.f_lw_history T.d_lw_history ["_law_makes", "_law_cells"] (spHistory T) := by
  refine T.F_lw_history.ok sc_lw_history (fun vs H Q E h => ?_) (fun cdv A outer s H vs Q E hr h => ?_)
  · obtain ⟨p, dk, ds, t, u, cl, cs, rfl, _⟩ := h
    rfl
  · obtain ⟨p, dk, ds, t, u, cl, cs, rfl, M, hcl, hc0, hcl62, kq⟩ := h
    have hu := hu_of hr
    refine ⟨_, (pss_cons (ps_set (i := 2) sc_lw_history.nd rfl (by first | exact Or.inl rfl | exact Or.inr rfl) (pe_lst (pa_cons (pe_tup pa_nil) pa_nil)))
      (pss_cons (ps_for PassesOwn.never rfl (pi_range2 (by rfl) T.z_range (pa_cons pe_int (pa_cons (pe_op op_add (pe_callB call_len_seq (by rfl) T.z_len PySem.boot_len (pa_cons (pv 1) pa_nil)) pe_int) pa_nil))) (pg_name (i := 3) sc_lw_history.nd rfl (by first | exact Or.inl rfl | exact Or.inr rfl))
      (pss_cons (ps_set (i := 4) sc_lw_history.nd rfl (by first | exact Or.inl rfl | exact Or.inr rfl) (pe_call (ok_lw_elders T) (hr.mono (by decide)) (by rfl) T.m_lw_elders T.F_lw_elders.kp T.b_lw_elders .nil pass0 (pa_cons (pe_ix ix_list (pv 1) (pe_op op_sub (pv 3) pe_int) (fun _ _ => rfl)) (pa_cons (pv 3) pa_nil))))
      (pss_cons (ps_expr (pe_bm PySem.F.plainAttrs_list PySem.F.slot_list_append PySem.F.type_list_append mt_append (pv 2) (pa_cons (pe_callTy call_tuple_of (by rfl) T.z_tuple (by decide +kernel) (pa_cons (pe_callB (show CallR _ (.builtin "sorted") (rSortedSet w) from cr_sortedSet rfl) (by rfl) T.z_sorted (by decide +kernel) (pa_cons (pe_callTy (show CallR _ (.type "set") (rSetL K w) from cr_setL) (by rfl) T.z_set (by decide +kernel) (pa_cons (pv 4) pa_nil)) pa_nil)) pa_nil)) pa_nil)))
      (pss_one (ps_expr (pe_meth (pv 0) T.C_Makes T.M_Makes_made (ok_Makes_made T) (hr.mono (by decide)) T.b_Makes_made .nil pass0 (pa_cons (pv 4) (pa_cons (pe_tup (pa_cons (pe_tup pa_nil) (pa_cons pe_non pa_nil))) pa_nil))))))))
      (pss_one (ps_ret (pv 2))))), ?_⟩
    refine ⟨(by show 0 ≤ sizeLine; decide), fun e0 he0 => ⟨(by show 1 ≤ sizeLine; decide), fun a ha => ?_⟩⟩
    have s1 : Same H (upd (upd H e0 (.tup [])) a (.lst [.ref e0])) := (same_upd he0).new ((same_upd he0 : Same H _).free ha)
    have nea : e0 ≠ a := fun z => by rw [← z, upd_same] at ha; cases ha
    have ha0 : H a = none := (same_upd he0 : Same H _).free ha
    obtain ⟨dx0, hp0⟩ := M.ob
    have hpl : ∀ {H' : Hp} {ks ss n}, MakesAt T.c_Makes H' p dk ds ks ss n → ∀ x ∈ [p, dk, ds], ∀ xs, H' x ≠ some (.tup xs) := fun {H' ks ss n} M x hx xs => by
      obtain ⟨dx, hp⟩ := M.ob
      simp only [List.mem_cons, List.not_mem_nil, or_false] at hx
      rcases hx with rfl | rfl | rfl
      · rw [hp]; intro z; cases z
      · rw [M.hk]; intro z; cases z
      · rw [M.hs]; intro z; cases z
    have npl : ∀ {b : Addr} {o : HO}, H b = some o → ∀ c, H c = none → b ≠ c := fun e c n => ne_of_none e n
    have nap : a ∉ [p, dk, ds] := by
      simp only [List.mem_cons, List.not_mem_nil, or_false, not_or]
      exact ⟨Ne.symm (ne_of_none hp0 ha0), Ne.symm (ne_of_none M.hk ha0), Ne.symm (ne_of_none M.hs ha0)⟩
    have ncp : cl ∉ [p, dk, ds] := by
      simp only [List.mem_cons, List.not_mem_nil, or_false, not_or]
      exact ⟨ne_of hcl hp0 (by intro z; cases z), ne_of hcl M.hk (by intro z; cases z), ne_of hcl M.hs (by intro z; cases z)⟩
    refine ⟨_, rfl, cl, _, rfl, .inl (SqL.of (s1 _ _ hcl)), _, _, rfl, rfl, 1, _, rfl, by rw [List.length_map]; refine ⟨by decide, by decide, by omega, by omega⟩, ?_⟩
    have hn : (((cs.map V.int).length : Int) + 1 - 1).toNat = cs.length := by rw [List.length_map]; omega
    rw [hn]
    refine for_range (lo := 1) (fun i σ H1 => ∃ lts ks ss x3 x4, σ = [some (.ref p), some (.ref cl), some (.ref a), x3, x4] ∧ But [p, dk, ds] H H1 ∧ H1 a = some (.lst (lts.map V.ref)) ∧ Kins H1 lts ks ∧ Hist ks ∧ ks.length = i + 1 ∧ ss.map (·.1) = ks.map (·.1) ∧ MakesAt T.c_Makes H1 p dk ds ks ss ((i : Int) + 1))
      ⟨[e0], [(0, t, [])], [(0, .ref u)], none, none, rfl, .of s1, upd_same, .cons (by rw [upd_ne nea, upd_same]; rfl) .nil, ⟨fun i k hi => ?_, fun k hk => ?_, fun k hk => ?_, by simp⟩, rfl, rfl, by rw [show (((0 : Nat) : Int) + 1) = 1 from rfl]; exact M.same s1⟩ ?_ ?_
    · cases i with
      | zero => cases hi; rfl
      | succ i => cases hi
    · obtain rfl : k = (0, t, []) := by simpa using hk
      simp
    · obtain rfl : k = (0, t, []) := by simpa using hk
      simp
    · rintro i σ H1 hi ⟨lts, ks, ss, x3, x4, rfl, b1, ha1, hK, hh, hkl, hsk, M1⟩
      have hcl1 := b1 _ _ hcl ncp
      obtain ⟨v, hv1, hv2⟩ := at_mem (xs := cs.map V.int) (i := 1 + (i : Int) - 1) (by omega) (by rw [List.length_map]; omega)
      obtain ⟨c, hc, rfl⟩ := List.mem_map.mp (List.mem_of_getElem? hv2)
      refine ⟨_, rfl, _, rfl, _, _, rfl, rfl, cl, _, _, _, rfl, rfl, SqL.of hcl1, hv1, _, rfl, c, 1 + (i : Int), rfl, hc0 c hc, by omega, fun H2 q es s2 hq hq2 hne hab hel hbd => ?_⟩
      have ha2 := s2 _ _ ha1
      have hlt : lts.length = ks.length := Paired.length hK
      refine ⟨_, rfl, .inl ⟨rfl, _, SqL.of ha2⟩, _, rfl, q, es, rfl, SqL.of hq2, by omega, fun z cc hz hcc => ⟨z, _, cc, rfl, upd_same, by omega, fun so r so1 so2 so3 hr => ⟨r, _, rfl, .inl ⟨SqL.of upd_same, fun tt htt => ⟨a, lts.map V.ref, _, rfl, rfl, ?_, by rw [List.length_map]; exact small1000 (by omega), ?_⟩⟩⟩⟩⟩
      · have e1 : Same H2 (upd H2 z (SetO w z (fun j => decide (j ∈ es)) cc)) := same_upd hz
        have e2 := e1.new (o := .lst (so.map V.int)) (e1.free hr)
        exact (e2.new (o := .tup (so.map V.int)) (e2.free htt)) _ _ ha2
      have e1 : Same H2 (upd H2 z (SetO w z (fun j => decide (j ∈ es)) cc)) := same_upd hz
      have e2 := e1.new (o := .lst (so.map V.int)) (e1.free hr)
      have e3 := e2.new (o := .tup (so.map V.int)) (e2.free htt)
      have e4 : But [a] H2 (upd (upd (upd (upd H2 z (SetO w z (fun j => decide (j ∈ es)) cc)) r (.lst (so.map V.int))) tt (.tup (so.map V.int))) a (.lst (lts.map V.ref ++ [.ref tt]))) := (But.of e3).put (by simp)
      have ntta : tt ≠ a := fun zz => by
        rw [zz, e2 _ _ ha2] at htt
        cases htt
      generalize hH3 : (upd (upd (upd (upd H2 z (SetO w z (fun j => decide (j ∈ es)) cc)) r (.lst (so.map V.int))) tt (.tup (so.map V.int))) a (.lst (lts.map V.ref ++ [.ref tt]))) = H3 at e4 ⊢
      have ha3 : H3 a = some (.lst ((lts ++ [tt]).map V.ref)) := by rw [← hH3, upd_same, List.map_append]; rfl
      have ht3 : H3 tt = some (.tup (so.map V.int)) := by rw [← hH3, upd_ne ntta, upd_same]
      have b13 : But [a] H1 H3 := (But.of s2).trans e4
      have hb03 : But [p, dk, ds] H H3 := fun x o e n => b13 _ _ (b1 _ _ e n) (by simpa using npl e a ha0)
      have M3 : MakesAt T.c_Makes H3 p dk ds ks ss ((i : Int) + 1) := M1.but b13 fun x hx => by
        obtain rfl : x = a := by simpa using hx
        exact ⟨_, ha1⟩
      have K3 : Kins H3 lts ks := hK.but b13 fun x hx xs => by
        obtain rfl : x = a := by simpa using hx
        rw [ha1]
        intro z
        cases z
      have nqa : q ≠ a := fun z => by rw [z, ha1] at hq; cases hq
      have hq3 : H3 q = some (.lst (es.map V.int)) := e4 _ _ hq2 (by simpa using nqa)
      obtain ⟨dx3, hp3⟩ := M3.ob
      refine ⟨_, rfl, p, dx3, _, rfl, hp3, fl_Makes_m_made, _, rfl, (by show 0 ≤ sizeLine; decide), fun ee hee => ⟨(by show 2 ≤ sizeLine; decide), fun uu huu => ?_⟩⟩
      have s34 : Same H3 (upd (upd H3 ee (.tup [])) uu (.tup [.ref ee, .non])) := (same_upd hee).new ((same_upd hee : Same H3 _).free huu)
      have hin : ∀ x ∈ es, x ∈ ks.map (·.1) := fun x hx => hh.mem.mpr (by have := hbd x hx; omega)
      have hno : ¬ ((i : Int) + 1) ∈ ks.map (·.1) := fun m => by have := hh.mem.mp m; omega
      have hsl : ss.length = ks.length := by have := congrArg List.length hsk; rwa [List.length_map, List.length_map] at this
      have hkl63 := hh.len
      refine ⟨p, dk, ds, ks, ss, _, q, es, .ref uu, rfl, M3.same s34, SqL.of (s34 _ _ hq3), hne, by omega, hab, hin, by omega, by omega, hno, by rw [hsk]; exact hno, fun H5 t5 so5 hso5 hm5 b5 ht5 M5 => ?_⟩
      have eso : so5 = so := lt_one hso5 so1 fun x => by rw [hm5, so2, decide_eq_true_eq]
      subst eso
      have ekk : ((i : Int) + 1) = (ks.length : Int) := by omega
      have ht5a : H5 tt = some (.tup (so5.map V.int)) := b5 _ _ (s34 _ _ ht3) fun m => hpl (M3.same s34) tt m _ (s34 _ _ ht3)
      refine ⟨lts ++ [tt], ks ++ [((ks.length : Int), t5, so5)], ss ++ [((ks.length : Int), .ref uu)], _, _, rfl, fun x o e n => b5 _ _ (s34 _ _ (hb03 _ _ e n)) n, b5 _ _ (s34 _ _ ha3) nap, ((K3.same s34).but b5 (hpl (M3.same s34))).snoc ht5a, hh.snoc (fun e he => ?_) (by omega) (by omega), by simp [hkl], by simp [hsk], ?_⟩
      · have hee : e ∈ es := by
          have := (so2 e).mp he
          exact of_decide_eq_true this
        have := hbd e hee
        omega
      · rw [ekk] at M5
        have : ((i + 1 : Nat) : Int) + 1 = (ks.length : Int) + 1 := by omega
        rw [this]
        exact M5
    · rintro σ H1 ⟨lts, ks, ss, x3, x4, rfl, b1, ha1, hK, hh, hkl, hsk, M1⟩
      exact ⟨_, rfl, kq H1 a lts ks ss _ b1 ha0 ha1 hK hh hkl M1⟩
end
end Z
namespace Z
open PySem PySem.Spec PyProof.Rows L2
/-! ### the law's own walk -/
theorem Asked.at_ {H : Hp} {ts : List Addr} {rs : List (Int × Bool × Int)} (n : Asked H ts rs) : ∀ {i : Nat} {t : Addr}, ts[i]? = some t → ∃ r, rs[i]? = some r ∧ H t = some (.tup [.int r.1, .bl r.2.1, .int r.2.2]) := by
  unfold Asked at n
  induction n with
  | nil => intro i t h; cases h
  | cons a _ ih =>
    intro i t h
    cases i with
    | zero => cases h; exact ⟨_, rfl, a⟩
    | succ i => exact ih h
abbrev dpR (r : Int × Bool × Int) : PyData := .tuple [.int r.1, .bool r.2.1, .int r.2.2]
theorem dp_row {K : PySem.W.Frag} {H : Hp} {t : Addr} {r : Int × Bool × Int} (h : H t = some (.tup [.int r.1, .bl r.2.1, .int r.2.2])) : Dp K H (.ref t) (dpR r) := .tup (SqT.of h) (.cons (.int _) (.cons (.bl _) (.cons (.int _) .nil)))
theorem dp_rows {K : PySem.W.Frag} {H : Hp} {ts : List Addr} {rs : List (Int × Bool × Int)} (n : Asked H ts rs) : DpAll K H (ts.map V.ref) (rs.map dpR) := by
  unfold Asked at n
  induction n with
  | nil => exact .nil
  | cons a _ ih => exact .cons (dp_row a) ih
theorem lay_rows : ∀ rs : List (Int × Bool × Int), PyData.canLayAll0 (rs.map dpR) = true
  | [] => by simp [PyData.canLayAll0]
  | r :: t => by
    have := lay_rows t
    simp [PyData.canLayAll0, PyData.canLay0, dpR]
    simpa [dpR] using this
theorem depth_rows : ∀ rs : List (Int × Bool × Int), PyData.depthAll (rs.map dpR) ≤ 1
  | [] => by simp [PyData.depthAll]
  | r :: t => by
    have := depth_rows t
    simp [PyData.depthAll, PyData.depth, dpR]
    exact Nat.max_le.mpr ⟨Nat.le_refl _, by simpa [dpR] using this⟩
theorem shaped_row {r : Int × Bool × Int} : SeqAt.shaped (dpR r) = true := by
  show (PyData.canLay0 _ && decide (PyData.depth _ ≤ 64)) = true
  simp [PyData.canLay0, PyData.canLayAll0, PyData.depth, PyData.depthAll]
theorem shaped_rows {rs : List (Int × Bool × Int)} : SeqAt.shaped (.list (rs.map dpR)) = true := by
  have h1 := lay_rows rs
  have h2 := depth_rows rs
  show (PyData.canLayAll0 (rs.map dpR) && decide (PyData.depthAll (rs.map dpR) + 1 ≤ 64)) = true
  rw [h1, decide_eq_true (by omega)]
  rfl
theorem eqv_row {r : Int × Bool × Int} : PyData.eqv (dpR r) (dpR r) = true := by simp [PyData.eqv, PyData.eqvAll, dpR]
theorem eqv_ints (l : List Int) : PyData.eqv (.list (l.map PyData.int)) (.list (l.map PyData.int)) = true := SeqAt.eqv_refl _ (by
  have := PySem.W.ke_shaped_ints l
  exact (Bool.and_eq_true_iff.mp this).1)
theorem at_zero {α : Type} {f : Addr → α} {t : Addr} {ts : List Addr} : atI ((t :: ts).map f) 0 = some (f t) := by
  obtain ⟨v, e1, e2⟩ := at_mem (xs := (t :: ts).map f) (i := 0) (Int.le_refl _) (by rw [List.length_map, List.length_cons]; omega)
  rw [e1]
  exact e2.symm
def brF (bs : List Bool) (x : Int) : Bool := (bs[x.toNat]?).getD false
section
variable {P : Program} {w : World} {K : PySem.W.Frag} {mg : Str → Option Value} {base : Heap}
/-- lines_here[x] -/
theorem line_ix {H : Hp} {ln : Int → List Int} {qs : List Addr} {m : Nat} (h : LineL H ln qs m) {x : Int} (h0 : 0 ≤ x) (h1 : x < m) : ∃ q, atI (qs.map V.ref) x = some (.ref q) ∧ H q = some (.lst ((ln x).map V.int)) := by
  obtain ⟨v, e1, e2⟩ := at_mem (xs := qs.map V.ref) h0 (by rw [List.length_map, h.1]; exact h1)
  rw [List.getElem?_map] at e2
  cases hq : qs[x.toNat]? with
  | none => rw [hq] at e2; cases e2
  | some q =>
    rw [hq] at e2
    cases e2
    have := h.2 _ q hq
    rw [Int.toNat_of_nonneg h0] at this
    exact ⟨q, e1, this⟩
theorem br_ix {bs : List Bool} {x : Int} (h0 : 0 ≤ x) (h1 : x < bs.length) : atI (bs.map V.bl) x = some (.bl (brF bs x)) := by
  obtain ⟨v, e1, e2⟩ := at_mem (xs := bs.map V.bl) h0 (by rw [List.length_map]; exact h1)
  rw [e1]
  rw [List.getElem?_map] at e2
  unfold brF
  cases hb : bs[x.toNat]? with
  | none => rw [hb] at e2; cases e2
  | some b => rw [hb] at e2; exact e2.symm
theorem LineL.same {H H' : Hp} {ln : Int → List Int} {qs : List Addr} {m : Nat} (h : LineL H ln qs m) (s : Same H H') : LineL H' ln qs m := ⟨h.1, fun i q e => s _ _ (h.2 i q e)⟩
end
/-! ### the law's own search -/
def NRel (top : Int) (m : Nat) (dv : V) (lv : Int) (a : Int × Int) : Prop := (dv = .non ∧ a = (top, (m : Int) + 1)) ∨ (dv = .int a.1 ∧ lv = a.2 ∧ a.1 ≠ top)
theorem nrel_step {ln : Int → List Int} {S : List Int} {top y : Int} {dv : V} {lv : Int} {a : Int × Int} (h : NRel top S.length dv lv a) (hn : y ≠ top) (hc : dv = .non ∨ gp ln S y < lv) : NRel top S.length (.int y) (gp ln S y) (nStep ln S top a y) := by
  have : gp ln S y < a.2 := by
    rcases h with ⟨_, e⟩ | ⟨e1, e2, _⟩
    · rw [e]
      have := gp_le (ln := ln) (S := S) (x := y)
      show gp ln S y < (S.length : Int) + 1
      omega
    · rcases hc with hc | hc
      · rw [e1] at hc; cases hc
      · omega
  unfold nStep
  rw [if_neg hn, if_pos this]
  exact .inr ⟨rfl, rfl, hn⟩
theorem nrel_stay {ln : Int → List Int} {S : List Int} {top y : Int} {dv : V} {lv : Int} {a : Int × Int} (h : NRel top S.length dv lv a) (hc : y = top ∨ (dv ≠ .non ∧ ¬ gp ln S y < lv)) : NRel top S.length dv lv (nStep ln S top a y) := by
  unfold nStep
  rcases hc with rfl | ⟨h1, h2⟩
  · rw [if_pos rfl]; exact h
  · by_cases e : y = top
    · rw [if_pos e]; exact h
    · rw [if_neg e, if_neg]
      · exact h
      · rcases h with ⟨e1, _⟩ | ⟨_, e2, _⟩
        · exact absurd e1 h1
        · rw [← e2]; exact h2
section
variable {K : PySem.W.Frag} {mg : Str → Option Value}
def spLNext : Sp := fun vs H Q _ => ∃ (ll : Addr) (qs : List Addr) (ln : Int → List Int) (m : Nat) (st : Addr) (S : List Int) (top : Int), vs = [.ref ll, .ref st, .int top] ∧ H ll = some (.lst (qs.map V.ref)) ∧ LineL H ln qs m ∧ H st = some (.lst (S.map V.int)) ∧ (∀ x ∈ S, 0 ≤ x ∧ x < (m : Int)) ∧ S.length ≤ 63 ∧ (∃ y ∈ S, y ≠ top) ∧
  ∀ H', Same H H' → Q (.int (nextP ln S top)) H'
def spLDue : Sp := fun vs H Q _ => ∃ (ll : Addr) (qs : List Addr) (ln : Int → List Int) (ks : List (Int × Addr × List Int)) (k : Int) (bl : Addr) (bs : List Bool), vs = [.ref ll, .int k, .ref bl] ∧ H ll = some (.lst (qs.map V.ref)) ∧ LineL H ln qs ks.length ∧ Hist ks ∧ Lines ks ln ∧ k ∈ ks.map (·.1) ∧ H bl = some (.lst (bs.map V.bl)) ∧ bs.length = ks.length ∧
  ∀ (H' : Hp) (q as : Addr) (ts : List Addr), Same H H' → H q = none → H as = none → H' q = some (.tup [.int (runP ln (brF bs) 64 (ln k) k).2, .ref as]) → H' as = some (.lst (ts.map V.ref)) → Asked H' ts ((k, true, ((ln k).length : Int)) :: (runP ln (brF bs) 64 (ln k) k).1) → Q (.ref q) H'
def spLFound : Sp := fun vs H Q _ => ∃ (a b : Addr) (f : Int) (as1 as2 : Addr) (ts1 ts2 : List Addr) (rs : List (Int × Bool × Int)), vs = [.ref a, .ref b] ∧ H a = some (.tup [.int f, .ref as1]) ∧ H b = some (.tup [.int f, .ref as2]) ∧ H as1 = some (.lst (ts1.map V.ref)) ∧ H as2 = some (.lst (ts2.map V.ref)) ∧ Asked H ts1 rs ∧ Asked H ts2 rs ∧ Q (.bl true) H
end
section
variable {P : Program} {w : World} {K : PySem.W.Frag} {mg : Str → Option Value} {base : Heap}
theorem ok_lw_next (T : Top K mg) : FnOk P w K mg base CX0 1 T.f_lw_next T.d_lw_next ["_law_lines_here", "_law_still", "_law_top"] (spLNext) := by
  refine T.F_lw_next.ok sc_lw_next (fun vs H Q E h => ?_) (fun cdv A outer s H vs Q E hr h => ?_)
  · obtain ⟨ll, qs, ln, m, st, S, top, rfl, _⟩ := h
    rfl
  · obtain ⟨ll, qs, ln, m, st, S, top, rfl, hll, hL, hst, hSb, hS63, ⟨y0, hy0, hn0⟩, kq⟩ := h
    refine ⟨_, (pss_cons (ps_set (i := 3) sc_lw_next.nd rfl (by first | exact Or.inl rfl | exact Or.inr rfl) pe_non)
      (pss_cons (ps_set (i := 4) sc_lw_next.nd rfl (by first | exact Or.inl rfl | exact Or.inr rfl) pe_int)
      (pss_cons (ps_for PassesOwn.never rfl (pi_list (pv 1)) (pg_name (i := 5) sc_lw_next.nd rfl (by first | exact Or.inl rfl | exact Or.inr rfl))
      (pss_cons (ps_set (i := 6) sc_lw_next.nd rfl (by first | exact Or.inl rfl | exact Or.inr rfl) (pe_callB call_len_seq (by rfl) T.z_len PySem.boot_len (pa_cons (pe_lc (own := [("_law_one", 7)]) rfl sc_lw_next.nd (pi_list (pv 1)) (blkOk_by (own := [("_law_one", 7)]) (N := ["_law_lines_here", "_law_still", "_law_top", "_law_due_here", "_law_least", "_law_number", "_law_share", "_law_one", "_law_worse"]) (sc := defScope s_lw_next) (by decide +kernel)) (fun _ _ _ _ _ => (pg_name (i := 7) sc_lw_next.nd rfl (by first | exact Or.inl rfl | exact Or.inr rfl))) (fun _ _ _ _ _ => (pts_one (pt_cmpR (show OpR _ (compareOp .In) (rIn K false) from op_in_seq) (pv 7) (pe_ix (show IxR _ (rIxL K) from ix_list) (pv 0) (pv 5) (fun _ _ => rfl)) rfl))) (fun _ _ _ _ _ => (pv 7))) pa_nil)))
      (pss_cons (ps_set (i := 8) sc_lw_next.nd rfl (by first | exact Or.inl rfl | exact Or.inr rfl) (pe_callB (call_max2 rfl) (by rfl) T.z_max (by decide +kernel) (pa_cons (pv 6) (pa_cons (pe_op op_sub (pe_callB call_len_seq (by rfl) T.z_len PySem.boot_len (pa_cons (pv 1) pa_nil)) (pv 6)) pa_nil))))
      (pss_one (ps_if (PW.pt (pw_and (pt_cmpR op_ne (pv 5) (pv 2) (nomark _)) (pw_and1 (PW.pt (pw_or (pt_cmpR op_isN (pv 3) pe_non (nomark _)) (pw_or1 (pt_cmpR op_lt (pv 8) (pv 4) (nomark _)))))))) (pss_cons (ps_set (i := 3) sc_lw_next.nd rfl (by first | exact Or.inl rfl | exact Or.inr rfl) (pv 5))
      (pss_one (ps_set (i := 4) sc_lw_next.nd rfl (by first | exact Or.inl rfl | exact Or.inr rfl) (pv 8)))) pss_nil)))))
      (pss_one (ps_ret (pv 3)))))), ?_⟩
    refine ⟨_, rfl, st, rfl, ⟨_, SqL.of hst⟩, ?_⟩
    refine for_list (K := K) (a := st) (xs := S.map V.int) (fun i σ H1 => ∃ dv lv x5 x6 x7 x8, σ = [some (.ref ll), some (.ref st), some (.int top), some dv, some (.int lv), x5, x6, x7, x8] ∧ Same H H1 ∧ NRel top S.length dv lv ((S.take i).foldl (nStep ln S top) (top, (S.length : Int) + 1)))
      ⟨.non, 0, none, none, none, none, rfl, Same.refl _, .inl ⟨rfl, rfl⟩⟩ (fun i σ H1 _ ⟨_, _, _, _, _, _, _, s1, _⟩ => SqL.of (s1 _ _ hst)) ?_ ?_
    · rintro i v σ H1 hi ⟨dv, lv, x5, x6, x7, x8, rfl, s1, hrel⟩
      obtain ⟨x, hx, rfl⟩ := map_at hi
      have hxb := hSb x (List.mem_of_getElem? hx)
      have fo := foldl_take (f := nStep ln S top) (b := (top, (S.length : Int) + 1)) hx
      obtain ⟨q, hq1, hq2⟩ := line_ix hL hxb.1 hxb.2
      refine ⟨_, rfl, st, rfl, ⟨_, SqL.of (s1 _ _ hst)⟩, fun D hD => ?_⟩
      refine lc_list (K := K) (a := st) (xs := S.map V.int) (fun i H2 => Same H1 H2 ∧ H2 D = some (.lst (((S.take i).filter fun y => decide (y ∈ ln x)).map V.int))) ⟨same_upd hD, upd_same⟩ (fun i H2 _ s2 => SqL.of (s2.1 _ _ (s1 _ _ hst))) ?_ ?_
      · rintro i v H2 hi ⟨s2, hD2⟩
        obtain ⟨y, hy, rfl⟩ := map_at hi
        have s12 := s1.trans s2
        refine ⟨rfl, ?_⟩
        refine ⟨_, rfl, _, rfl, _, rfl, ll, _, _, _, rfl, rfl, SqL.of (s12 _ _ hll), hq1, q, _, rfl, .inl (SqL.of (s12 _ _ hq2)), rfl, flat_ints _, _, rfl, ?_⟩
        have e0 : (if false = true then !inV (V.int y) ((ln x).map V.int) else inV (V.int y) ((ln x).map V.int)) = decide (y ∈ ln x) := inV_ints _ _
        rw [e0]
        refine ite2 (fun e => ?_) fun e => ?_
        · refine ⟨_, rfl, _, hD2, by rw [List.length_map]; exact small1000 (Nat.le_trans (List.length_filter_le _ _) (Nat.le_trans (List.length_take_le' _ _) (by omega))), s2.new hD, ?_⟩
          rw [upd_same, filter_take hy, if_pos e, List.map_append]
          rfl
        · refine ⟨s2, ?_⟩
          rw [filter_take hy, if_neg e, List.append_nil]
          exact hD2
      · rintro H2 ⟨s2, hD2⟩
        rw [show (S.map V.int).length = S.length from List.length_map .., List.take_length] at hD2
        have s12 := s1.trans s2
        refine ⟨D, _, rfl, .inl (SqL.of hD2), _, rfl, _, rfl, st, _, rfl, .inl (SqL.of (s12 _ _ hst)), _, rfl, _, _, rfl, rfl, _, _, rfl, ?_⟩
        have eg : (if (((S.map V.int).length : Nat) : Int) - ((((S.filter fun y => decide (y ∈ ln x)).map V.int).length : Nat) : Int) > ((((S.filter fun y => decide (y ∈ ln x)).map V.int).length : Nat) : Int) then (((S.map V.int).length : Nat) : Int) - ((((S.filter fun y => decide (y ∈ ln x)).map V.int).length : Nat) : Int) else ((((S.filter fun y => decide (y ∈ ln x)).map V.int).length : Nat) : Int)) = gp ln S x := by
          unfold gp
          simp only [List.length_map]
        rw [eg]
        refine ⟨_, rfl, _, rfl, rfl, _, rfl, ?_⟩
        by_cases ex : x = top
        · refine iteN (by rw [ex, decide_eq_true rfl]; rfl) (iteF ⟨dv, lv, _, _, _, _, rfl, s12, ?_⟩)
          rw [fo]
          exact nrel_stay hrel (.inl ex)
        · refine iteP (by rw [decide_eq_false fun z => ex (V.int.inj z)]; rfl) ?_
          refine ⟨_, rfl, rfl, _, rfl, ?_⟩
          by_cases ed : dv = .non
          · refine iteP (decide_eq_true ed) (iteT ⟨_, rfl, _, rfl, .int x, gp ln S x, _, _, _, _, rfl, s12, ?_⟩)
            rw [fo]
            exact nrel_step hrel ex (.inl ed)
          · refine iteN (decide_eq_false ed) ⟨_, rfl, _, rfl, _, _, rfl, rfl, _, rfl, ite2 (fun el => ?_) fun el => ?_⟩
            · refine ⟨_, rfl, _, rfl, .int x, gp ln S x, _, _, _, _, rfl, s12, ?_⟩
              rw [fo]
              exact nrel_step hrel ex (.inr (of_decide_eq_true el))
            · refine ⟨dv, lv, _, _, _, _, rfl, s12, ?_⟩
              rw [fo]
              exact nrel_stay hrel (.inr ⟨ed, fun z => el (decide_eq_true z)⟩)
    · rintro σ H1 ⟨dv, lv, x5, x6, x7, x8, rfl, s1, hrel⟩
      rw [show (S.map V.int).length = S.length from List.length_map .., List.take_length] at hrel
      obtain ⟨h1, h2, _⟩ := next_in (ln := ln) hy0 hn0
      rcases hrel with ⟨_, e⟩ | ⟨e, _, _⟩
      · exfalso
        have : nextP ln S top = top := by unfold nextP; rw [e]
        exact h2 this
      · refine ⟨_, rfl, ?_⟩
        rw [e]
        exact kq H1 s1
theorem ok_lw_found (T : Top K mg) : FnOk P w K mg base CX0 2 T.f_lw_found T.d_lw_found ["_law_found_here", "_law_due_here"] (spLFound) := by
  refine T.F_lw_found.ok sc_lw_found (fun vs H Q E h => ?_) (fun cdv A outer s H vs Q E hr h => ?_)
  · obtain ⟨a, b, f, as1, as2, ts1, ts2, rs, rfl, _⟩ := h
    rfl
  · obtain ⟨a, b, f, as1, as2, ts1, ts2, rs, rfl, ha, hb, h1, h2, A1, A2, q⟩ := h
    refine ⟨_, (pss_cons (ps_if (PW.pt (pw_or (pt_not (pt_val (pe_callB call_isi (by rfl) T.z_isinstance (by decide +kernel) (pa_cons (pv 0) (pa_cons (pe_bltn (v := .ty "tuple") (by rfl) T.z_tuple (by decide +kernel) rfl) pa_nil))))) (pw_or (pt_cmpR op_ne (pe_callB call_len_seq (by rfl) T.z_len PySem.boot_len (pa_cons (pv 0) pa_nil)) pe_int (nomark _)) (pw_or (pt_not (pt_val (pe_call (ok_lw_whole T) (hr.mono (by decide)) (by rfl) T.m_lw_whole T.F_lw_whole.kp T.b_lw_whole .nil pass0 (pa_cons (pe_ix ix_tup (pv 0) pe_int (fun _ _ => rfl)) pa_nil)))) (pw_or1 (pt_not (pt_val (pe_callB call_isi (by rfl) T.z_isinstance (by decide +kernel) (pa_cons (pe_ix ix_tup (pv 0) pe_int (fun _ _ => rfl)) (pa_cons (pe_bltn (v := .ty "list") (by rfl) T.z_list (by decide +kernel) rfl) pa_nil)))))))))) (pss_one (ps_ret pe_bl)) pss_nil)
      (pss_cons (ps_for PassesOwn.never rfl (pi_list (pe_ix ix_tup (pv 0) pe_int (fun _ _ => rfl))) (pg_name (i := 2) sc_lw_found.nd rfl (by first | exact Or.inl rfl | exact Or.inr rfl))
      (pss_cons (ps_if (PW.pt (pw_or (pt_not (pt_val (pe_callB call_isi (by rfl) T.z_isinstance (by decide +kernel) (pa_cons (pv 2) (pa_cons (pe_bltn (v := .ty "tuple") (by rfl) T.z_tuple (by decide +kernel) rfl) pa_nil))))) (pw_or (pt_cmpR op_ne (pe_callB call_len_seq (by rfl) T.z_len PySem.boot_len (pa_cons (pv 2) pa_nil)) pe_int (nomark _)) (pw_or (pt_not (pt_val (pe_call (ok_lw_whole T) (hr.mono (by decide)) (by rfl) T.m_lw_whole T.F_lw_whole.kp T.b_lw_whole .nil pass0 (pa_cons (pe_ix ix_tup (pv 2) pe_int (fun _ _ => rfl)) pa_nil)))) (pw_or1 (pt_not (pt_val (pe_callB call_isi (by rfl) T.z_isinstance (by decide +kernel) (pa_cons (pe_ix ix_tup (pv 2) pe_int (fun _ _ => rfl)) (pa_cons (pe_bltn (v := .ty "bool") (by rfl) T.z_bool (by decide +kernel) rfl) pa_nil)))))))))) (pss_one (ps_ret pe_bl)) pss_nil)
      (pss_one (ps_if (pt_not (pt_val (pe_call (ok_lw_whole T) (hr.mono (by decide)) (by rfl) T.m_lw_whole T.F_lw_whole.kp T.b_lw_whole .nil pass0 (pa_cons (pe_ix ix_tup (pv 2) pe_int (fun _ _ => rfl)) pa_nil)))) (pss_one (ps_ret pe_bl)) pss_nil))))
      (pss_one (ps_ret (pe_and (pe_cmpR (op_eqD hr.units) (pe_ix ix_tup (pv 0) pe_int (fun _ _ => rfl)) (pe_ix ix_tup (pv 1) pe_int (fun _ _ => rfl)) (nomark _)) (pe_one (pe_cmpR (op_eqD hr.units) (pe_ix ix_tup (pv 0) pe_int (fun _ _ => rfl)) (pe_ix ix_tup (pv 1) pe_int (fun _ _ => rfl)) (nomark _)))))))), ?_⟩
    refine ⟨_, rfl, _, _, _, _, true, rfl, .ty "tuple", .base (.tup ha), kit_ty rfl, _, rfl, iteF ?_⟩
    refine ⟨_, rfl, a, _, rfl, .inr (SqT.of ha), rfl, _, rfl, iteN (congrArg (!·) (decide_eq_true rfl)) ?_⟩
    refine ⟨_, rfl, a, _, 0, .int f, rfl, rfl, SqT.of ha, rfl, f, rfl, _, rfl, iteF ?_⟩
    refine ⟨_, rfl, a, _, 1, .ref as1, rfl, rfl, SqT.of ha, rfl, _, _, _, _, true, rfl, .ty "list", .base (.lst h1), kit_ty rfl, _, rfl, iteF ?_⟩
    refine ⟨_, rfl, a, _, 1, .ref as1, rfl, rfl, SqT.of ha, rfl, as1, rfl, ⟨_, SqL.of h1⟩, ?_⟩
    refine for_list (K := K) (a := as1) (xs := ts1.map V.ref) (fun i σ H1 => ∃ x2, σ = [some (.ref a), some (.ref b), x2] ∧ H1 = H) ⟨none, rfl, rfl⟩ (fun i σ H1 _ ⟨_, _, e⟩ => by rw [e]; exact SqL.of h1) ?_ ?_
    · rintro i v σ H1 hi ⟨x2, rfl, rfl⟩
      obtain ⟨t, ht, rfl⟩ := map_at hi
      obtain ⟨r, hr0, htr⟩ := A1.at_ ht
      refine ⟨_, rfl, _, _, _, _, true, rfl, .ty "tuple", .base (.tup htr), kit_ty rfl, _, rfl, iteF ?_⟩
      refine ⟨_, rfl, t, _, rfl, .inr (SqT.of htr), rfl, _, rfl, iteN (congrArg (!·) (decide_eq_true rfl)) ?_⟩
      refine ⟨_, rfl, t, _, 0, .int r.1, rfl, rfl, SqT.of htr, rfl, r.1, rfl, _, rfl, iteF ?_⟩
      refine ⟨_, rfl, t, _, 1, .bl r.2.1, rfl, rfl, SqT.of htr, rfl, _, _, _, _, true, rfl, .ty "bool", .base (.bl _), kit_ty rfl, _, rfl, iteF ?_⟩
      exact ⟨_, rfl, t, _, 2, .int r.2.2, rfl, rfl, SqT.of htr, rfl, r.2.2, rfl, _, rfl, iteF ⟨_, rfl, rfl⟩⟩
    · rintro σ H1 ⟨x2, rfl, rfl⟩
      refine ⟨_, rfl, a, _, 0, .int f, rfl, rfl, SqT.of ha, rfl, _, rfl, b, _, 0, .int f, rfl, rfl, SqT.of hb, rfl, .int f, .int f, .int _, .int _, by simp [SeqAt.shaped, PyData.canLay0, PyData.depth], by simp [SeqAt.shaped, PyData.canLay0, PyData.depth], _, rfl, ?_⟩
      rw [show PyData.eqv (.int f) (.int f) = true from by simp [PyData.eqv]]
      refine iteT ⟨_, rfl, a, _, 1, .ref as1, rfl, rfl, SqT.of ha, rfl, _, rfl, b, _, 1, .ref as2, rfl, rfl, SqT.of hb, rfl, _, _, .lst (SqL.of h1) (dp_rows A1), .lst (SqL.of h2) (dp_rows A2), shaped_rows, shaped_rows, ?_⟩
      rw [show PyData.eqv (.list (rs.map dpR)) (.list (rs.map dpR)) = true from SeqAt.eqv_refl _ (Bool.and_eq_true_iff.mp (shaped_rows (rs := rs))).1]
      exact q
end
end Z
namespace Z
open PySem PySem.Spec PyProof.Rows L2
section
variable {P : Program} {w : World} {K : PySem.W.Frag} {mg : Str → Option Value} {base : Heap}
theorem si_start {ks : List (Int × Addr × List Int)} {ln : Int → List Int} (L : Lines ks ln) (hh : Hist ks) {k : Int} (hk : k ∈ ks.map (·.1)) : SI ks (ln k) k := ⟨(L.mem k hk k).mpr (.refl k), lt_nodup (L.up k hk), fun y hy => (L.mem k hk y).mp hy, fun y hy => anc_closed (l := ks.map (·.1)) (fun x hx e he => hh.closed.kin he) ((L.mem k hk y).mp hy) hk⟩
theorem ok_lw_due (T : Top K mg) : FnOk P w K mg base CX0 2 T.f_lw_due T.d_lw_due ["_law_lines_here", "_law_number", "_law_broken"] (spLDue) := by
  refine T.F_lw_due.ok sc_lw_due (fun vs H Q E h => ?_) (fun cdv A outer s H vs Q E hr h => ?_)
  · obtain ⟨ll, qs, ln, ks, k, bl, bs, rfl, _⟩ := h
    rfl
  · obtain ⟨ll, qs, ln, ks, k, bl, bs, rfl, hll, hL, hh, L, hk, hbl, hbs, kq⟩ := h
    have hlen := hh.len
    have hkb : ∀ x ∈ ks.map (·.1), 0 ≤ x ∧ x < (ks.length : Int) := fun x hx => hh.mem.mp hx
    refine ⟨_, (pss_cons (ps_set (i := 3) sc_lw_due.nd rfl (by first | exact Or.inl rfl | exact Or.inr rfl) (pe_callTy call_list_of (by rfl) T.z_list (by decide +kernel) (pa_cons (pe_ix ix_list (pv 0) (pv 1) (fun _ _ => rfl)) pa_nil)))
      (pss_cons (ps_set (i := 4) sc_lw_due.nd rfl (by first | exact Or.inl rfl | exact Or.inr rfl) (pv 1))
      (pss_cons (ps_set (i := 5) sc_lw_due.nd rfl (by first | exact Or.inl rfl | exact Or.inr rfl) (pe_lst (pa_cons (pe_tup (pa_cons (pv 1) (pa_cons pe_bl (pa_cons (pe_callB call_len_seq (by rfl) T.z_len PySem.boot_len (pa_cons (pv 3) pa_nil)) pa_nil)))) pa_nil)))
      (pss_cons (ps_while PassesOwn.never (pt_cmpR op_gt (pe_callB call_len_seq (by rfl) T.z_len PySem.boot_len (pa_cons (pv 3) pa_nil)) pe_int (nomark _))
      (pss_cons (ps_set (i := 6) sc_lw_due.nd rfl (by first | exact Or.inl rfl | exact Or.inr rfl) (pe_call (ok_lw_next T) (hr.mono (by decide)) (by rfl) T.m_lw_next T.F_lw_next.kp T.b_lw_next .nil pass0 (pa_cons (pv 0) (pa_cons (pv 3) (pa_cons (pv 4) pa_nil)))))
      (pss_cons (ps_if (pt_val (pe_ix ix_list (pv 2) (pv 6) (fun _ _ => rfl))) (pss_cons (ps_setLc (i := 3) (own := [("_law_heir", 7)]) rfl sc_lw_due.nd rfl rfl (sw_true rfl rfl rfl (by decide +kernel)) (pi_list (pv 3)) (blkOk_by (own := [("_law_heir", 7)]) (N := ["_law_lines_here", "_law_number", "_law_broken", "_law_still", "_law_top", "_law_asked", "_law_one", "_law_heir"]) (sc := defScope s_lw_due) (by decide +kernel)) (fun _ _ _ _ _ => (pg_name (i := 7) sc_lw_due.nd rfl (by first | exact Or.inl rfl | exact Or.inr rfl))) (fun _ _ _ _ _ => (pts_one (pt_cmpR (show OpR _ (compareOp .In) (rIn K false) from op_in_seq) (pv 7) (pe_ix (show IxR _ (rIxL K) from ix_list) (pv 0) (pv 6) (fun _ _ => rfl)) rfl))) (fun _ _ _ _ _ => (pv 7)))
      (pss_one (ps_set (i := 4) sc_lw_due.nd rfl (by first | exact Or.inl rfl | exact Or.inr rfl) (pv 6)))) (pss_one (ps_setLc (i := 3) (own := [("_law_heir", 7)]) rfl sc_lw_due.nd rfl rfl (sw_true rfl rfl rfl (by decide +kernel)) (pi_list (pv 3)) (blkOk_by (own := [("_law_heir", 7)]) (N := ["_law_lines_here", "_law_number", "_law_broken", "_law_still", "_law_top", "_law_asked", "_law_one", "_law_heir"]) (sc := defScope s_lw_due) (by decide +kernel)) (fun _ _ _ _ _ => (pg_name (i := 7) sc_lw_due.nd rfl (by first | exact Or.inl rfl | exact Or.inr rfl))) (fun _ _ _ _ _ => (pts_one (pt_cmpR (show OpR _ (compareOp .NotIn) (rIn K true) from op_notIn_seq) (pv 7) (pe_ix (show IxR _ (rIxL K) from ix_list) (pv 0) (pv 6) (fun _ _ => rfl)) rfl))) (fun _ _ _ _ _ => (pv 7)))))
      (pss_one (ps_expr (pe_bm PySem.F.plainAttrs_list PySem.F.slot_list_append PySem.F.type_list_append mt_append (pv 5) (pa_cons (pe_tup (pa_cons (pv 6) (pa_cons (pe_ix ix_list (pv 2) (pv 6) (fun _ _ => rfl)) (pa_cons (pe_callB call_len_seq (by rfl) T.z_len PySem.boot_len (pa_cons (pv 3) pa_nil)) pa_nil)))) pa_nil)))))))
      (pss_one (ps_ret (pe_tup (pa_cons (pv 4) (pa_cons (pv 5) pa_nil))))))))), ?_⟩
    obtain ⟨q0, hq0, hq01⟩ := line_ix hL (hkb k hk).1 (hkb k hk).2
    have I0 := si_start L hh hk
    have hl64 : (ln k).length ≤ 63 := by have := nodup_le _ _ I0.nd I0.key; rw [List.length_map] at this; omega
    refine ⟨_, rfl, _, rfl, ll, _, _, _, rfl, rfl, SqL.of hll, hq0, q0, _, rfl, .inl (SqL.of hq01), fun st0 hst0 => ?_⟩
    have s1 : Same H (upd H st0 (.lst ((ln k).map V.int))) := same_upd hst0
    refine ⟨_, rfl, _, rfl, _, rfl, st0, _, rfl, .inl (SqL.of upd_same), (by show 3 ≤ sizeLine; decide), fun t ht => ⟨(by show 1 ≤ sizeLine; decide), fun as has => ?_⟩⟩
    have ht0 : H t = none := s1.free ht
    have s2 := s1.new (o := .tup [.int k, .bl true, .int (((ln k).map V.int).length : Int)]) ht0
    have has0 : H as = none := s2.free has
    have s3 := s2.new (o := .lst [.ref t]) has0
    have nta : t ≠ as := fun z => by rw [← z, upd_same] at has; cases has
    have nst : st0 ≠ t := fun z => by rw [← z, upd_same] at ht; cases ht
    have nsa : st0 ≠ as := fun z => by rw [← z, upd_ne nst, upd_same] at has; cases has
    refine ⟨fun m σ H' => ∃ S top st ts A x6 x7 fuel, m = S.length ∧ σ = [some (.ref ll), some (.int k), some (.ref bl), some (.ref st), some (.int top), some (.ref as), x6, x7] ∧ Same H H' ∧ H st = none ∧ st ≠ as ∧ H' st = some (.lst (S.map V.int)) ∧ H' as = some (.lst (ts.map V.ref)) ∧ (∀ t ∈ ts, H t = none) ∧ Asked H' ts A ∧
        SI ks S top ∧ S.length ≤ fuel ∧ A.length + fuel ≤ 65 ∧ S.length ≤ 63 ∧ (k, true, ((ln k).length : Int)) :: (runP ln (brF bs) 64 (ln k) k).1 = A ++ (runP ln (brF bs) fuel S top).1 ∧ (runP ln (brF bs) 64 (ln k) k).2 = (runP ln (brF bs) fuel S top).2,
      ⟨_, ln k, k, st0, [t], [(k, true, ((ln k).length : Int))], none, none, 64, rfl, rfl, s3, hst0, nsa, ?_, upd_same, fun t' ht' => ?_, .cons ?_ .nil, I0, by omega, by simp, hl64, rfl, rfl⟩, ?_⟩
    · rw [upd_ne nsa, upd_ne nst, upd_same]
    · obtain rfl : t' = t := by simpa using ht'
      exact ht0
    · rw [upd_ne nta, upd_same, List.length_map]
    rintro m σ H5 ⟨S, top, st, ts, A, x6, x7, fuel, rfl, rfl, s5, hst0', nsa', hst, has5, hts, hA, I, hfu, hAf, hS63, e1, e2⟩
    refine ⟨_, rfl, st, _, rfl, .inl (SqL.of hst), _, _, rfl, rfl, _, rfl, ?_⟩
    by_cases hl : 1 < S.length
    · refine iteP (decide_eq_true (by rw [List.length_map]; exact_mod_cast hl)) ⟨fun σ' H' => ∃ S' top st ts A x6 x7 fuel, S'.length < S.length ∧ σ' = [some (.ref ll), some (.int k), some (.ref bl), some (.ref st), some (.int top), some (.ref as), x6, x7] ∧ Same H H' ∧ H st = none ∧ st ≠ as ∧ H' st = some (.lst (S'.map V.int)) ∧ H' as = some (.lst (ts.map V.ref)) ∧ (∀ t ∈ ts, H t = none) ∧ Asked H' ts A ∧
        SI ks S' top ∧ S'.length ≤ fuel ∧ A.length + fuel ≤ 65 ∧ S'.length ≤ 63 ∧ (k, true, ((ln k).length : Int)) :: (runP ln (brF bs) 64 (ln k) k).1 = A ++ (runP ln (brF bs) fuel S' top).1 ∧ (runP ln (brF bs) 64 (ln k) k).2 = (runP ln (brF bs) fuel S' top).2,
        fun σ' H' ⟨S', top, st, ts, A, x6, x7, fuel, lt, h⟩ => ⟨_, lt, S', top, st, ts, A, x6, x7, fuel, rfl, h⟩, ?_⟩
      obtain ⟨hnx, hnt, _⟩ := I.next (ln := ln) hl
      have hoth := exists_other (top := top) I.nd hl
      refine ⟨_, rfl, _, rfl, _, rfl, ll, qs, ln, ks.length, st, S, top, rfl, s5 _ _ hll, hL.same s5, hst, fun y hy => hkb y (I.key y hy), hS63, hoth, fun H8 s8 => ?_⟩
      generalize hx : nextP ln S top = x at hnx hnt
      have hkx := I.key x hnx
      have hxb := hkb x hkx
      have hxb' : x < (bs.length : Int) := by rw [hbs]; exact hxb.2
      have s08 := s5.trans s8
      obtain ⟨q7, hq71, hq7⟩ := line_ix hL hxb.1 hxb.2
      have hst8 := s8 _ _ hst
      have has8 := s8 _ _ has5
      have hA8 : Asked H8 ts A := hA.mono fun t' _ o e => s8 _ _ e
      have hll8 := s08 _ _ hll
      have hq8 := s08 _ _ hq7
      refine ⟨_, rfl, _, rfl, bl, _, _, _, rfl, rfl, SqL.of (s08 _ _ hbl), br_ix hxb.1 hxb', _, rfl, ?_⟩
      refine if_nx (fun σ' H' => ∃ D y7, σ' = [some (.ref ll), some (.int k), some (.ref bl), some (.ref D), some (.int (if brF bs x = true then x else top)), some (.ref as), some (.int x), y7] ∧ Same H8 H' ∧ H8 D = none ∧
        H' D = some (.lst ((if brF bs x = true then S.filter (fun y => decide (y ∈ ln x)) else S.filter (fun y => !decide (y ∈ ln x))).map V.int))) ?_ (fun kk hb => ?_) fun kk hb => ?_
      rotate_left
      · refine ⟨_, rfl, st, rfl, ⟨_, SqL.of hst8⟩, fun D hD => ?_⟩
        refine lc_list (K := K) (a := st) (xs := S.map V.int) (fun i H2 => Same H8 H2 ∧ H2 D = some (.lst (((S.take i).filter fun y => decide (y ∈ ln x)).map V.int))) ⟨same_upd hD, upd_same⟩ (fun i H2 _ s2 => SqL.of (s2.1 _ _ hst8)) ?_ ?_
        · rintro i v H2 hi ⟨s2, hD2⟩
          obtain ⟨y, hy, rfl⟩ := map_at hi
          refine ⟨rfl, ?_⟩
          refine ⟨_, rfl, _, rfl, _, rfl, ll, _, _, _, rfl, rfl, SqL.of (s2 _ _ hll8), hq71, q7, _, rfl, .inl (SqL.of (s2 _ _ hq8)), rfl, flat_ints _, _, rfl, ?_⟩
          have e0 : (if false = true then !inV (V.int y) ((ln x).map V.int) else inV (V.int y) ((ln x).map V.int)) = decide (y ∈ ln x) := inV_ints _ _
          rw [e0]
          refine ite2 (fun e => ?_) fun e => ?_
          · refine ⟨_, rfl, _, hD2, by rw [List.length_map]; exact small1000 (Nat.le_trans (List.length_filter_le _ _) (Nat.le_trans (List.length_take_le' _ _) (by omega))), s2.new hD, ?_⟩
            rw [upd_same, filter_take hy, if_pos e, List.map_append]
            rfl
          · refine ⟨s2, ?_⟩
            rw [filter_take hy, if_neg e, List.append_nil]
            exact hD2
        · rintro H2 ⟨s2, hD2⟩
          rw [show (S.map V.int).length = S.length from List.length_map .., List.take_length] at hD2
          exact ⟨_, rfl, kk _ _ ⟨D, _, by rw [if_pos hb]; rfl, s2, hD, by rw [if_pos hb]; exact hD2⟩⟩
      · have hb' : ¬ brF bs x = true := by rw [hb]; decide
        refine ⟨_, rfl, st, rfl, ⟨_, SqL.of hst8⟩, fun D hD => ?_⟩
        refine lc_list (K := K) (a := st) (xs := S.map V.int) (fun i H2 => Same H8 H2 ∧ H2 D = some (.lst (((S.take i).filter fun y => !decide (y ∈ ln x)).map V.int))) ⟨same_upd hD, upd_same⟩ (fun i H2 _ s2 => SqL.of (s2.1 _ _ hst8)) ?_ ?_
        · rintro i v H2 hi ⟨s2, hD2⟩
          obtain ⟨y, hy, rfl⟩ := map_at hi
          refine ⟨rfl, ?_⟩
          refine ⟨_, rfl, _, rfl, _, rfl, ll, _, _, _, rfl, rfl, SqL.of (s2 _ _ hll8), hq71, q7, _, rfl, .inl (SqL.of (s2 _ _ hq8)), rfl, flat_ints _, _, rfl, ?_⟩
          have e0 : (if true = true then !inV (V.int y) ((ln x).map V.int) else inV (V.int y) ((ln x).map V.int)) = !decide (y ∈ ln x) := by rw [if_pos rfl, inV_ints]
          rw [e0]
          refine ite2 (fun e => ?_) fun e => ?_
          · refine ⟨_, rfl, _, hD2, by rw [List.length_map]; exact small1000 (Nat.le_trans (List.length_filter_le _ _) (Nat.le_trans (List.length_take_le' _ _) (by omega))), s2.new hD, ?_⟩
            rw [upd_same, filter_take hy, if_pos e, List.map_append]
            rfl
          · refine ⟨s2, ?_⟩
            rw [filter_take hy, if_neg e, List.append_nil]
            exact hD2
        · rintro H2 ⟨s2, hD2⟩
          rw [show (S.map V.int).length = S.length from List.length_map .., List.take_length] at hD2
          exact kk _ _ ⟨D, _, by rw [if_neg hb']; rfl, s2, hD, by rw [if_neg hb']; exact hD2⟩
      rintro σ9 H9 ⟨D, y7, rfl, s9, hD8, hD9⟩
      have hD0 : H D = none := s08.free hD8
      have nDa : D ≠ as := fun z => by rw [z, has8] at hD8; cases hD8
      have s09 := s08.trans s9
      generalize hS' : (if brF bs x = true then S.filter (fun y => decide (y ∈ ln x)) else S.filter (fun y => !decide (y ∈ ln x))) = S' at hD9
      generalize ht' : (if brF bs x = true then x else top) = top'
      have SI' : SI ks S' top' ∧ S'.length < S.length := by
        subst hS' ht'
        cases hb : brF bs x with
        | true =>
          rw [if_pos rfl, if_pos rfl]
          exact ⟨I.yes L hnx, I.less_yes L hh.down hnx hnt⟩
        | false =>
          rw [if_neg (by decide), if_neg (by decide)]
          exact ⟨I.no L hh.down hnx hnt, I.less_no L hnx⟩
      obtain ⟨fu, rfl⟩ : ∃ fu, fuel = fu + 1 := ⟨fuel - 1, by omega⟩
      have er : runP ln (brF bs) (fu + 1) S top = ((x, brF bs x, (S'.length : Int)) :: (runP ln (brF bs) fu S' top').1, (runP ln (brF bs) fu S' top').2) := by
        rw [runP, if_neg (by omega)]
        simp only [hx, hS', ht']
      refine ⟨_, rfl, .inl ⟨rfl, _, SqL.of (s9 _ _ has8)⟩, _, rfl, _, rfl, _, rfl, bl, _, _, _, rfl, rfl, SqL.of (s09 _ _ hbl), br_ix hxb.1 hxb', _, rfl, D, _, rfl, .inl (SqL.of hD9), (by show 3 ≤ sizeLine; decide), fun t9 ht9 => ⟨as, _, _, rfl, rfl, (same_upd ht9) _ _ (s9 _ _ has8), ?_, ?_⟩⟩
      · rw [List.length_map]
        have := Paired.length hA
        exact small1000 (by omega)
      have ht90 : H t9 = none := s09.free ht9
      have nta9 : t9 ≠ as := fun z => by rw [z, s9 _ _ has8] at ht9; cases ht9
      refine ⟨S', top', D, ts ++ [t9], A ++ [(x, brF bs x, (S'.length : Int))], _, _, fu, SI'.2, rfl, ((s09.new ht90).new has0), hD0, nDa, ?_, ?_, ?_, ?_, SI'.1, by have := SI'.2; omega, by rw [List.length_append, List.length_singleton]; omega, by have := SI'.2; omega, ?_, ?_⟩
      · rw [upd_ne nDa]
        exact (same_upd ht9) _ _ hD9
      · rw [upd_same, List.map_append]
        rfl
      · intro t' ht'
        rcases List.mem_append.mp ht' with h' | h'
        · exact hts t' h'
        · obtain rfl : t' = t9 := by simpa using h'
          exact ht90
      · refine hA8.snoc (fun t' ht' o e => ?_) ?_
        · have n1 : t' ≠ as := fun z => by
            obtain ⟨xs, hxs⟩ := hA8.tup t' ht'
            rw [z, has8] at hxs
            cases hxs
          rw [upd_ne n1]
          exact (same_upd ht9) _ _ (s9 _ _ e)
        · rw [upd_ne nta9, upd_same, List.length_map]
      · rw [e1, er]
        simp
      · rw [e2, er]
    · refine iteN (decide_eq_false (by rw [List.length_map]; exact_mod_cast hl)) ?_
      have ee := run_end (ln := ln) (br := brF bs) (S := S) (top := top) (by omega) fuel
      rw [ee] at e1 e2
      rw [List.append_nil] at e1
      refine ⟨_, rfl, _, rfl, (by show 2 ≤ sizeLine; decide), fun q9 hq9 => ?_⟩
      have hq90 : H q9 = none := s5.free hq9
      exact kq _ q9 as ts (s5.new hq90) hq90 has0 (by rw [upd_same, e2]) ((same_upd hq9) _ _ has5) (by rw [e1]; exact hA.mono fun t' _ o e => (same_upd hq9) _ _ e)
end
end Z
namespace Z
open PySem PySem.Spec PyProof.Rows L2
/-! ### the rule that notes, the search asked -/
def lamA : Stmt → Expr
  | .Assign _ (.Call _ [_, _, l] _ _) _ => l
  | _ => .Constant (.int 0) 0 ⟨0, 0, 0, 0⟩
def lamT : Stmt → Expr
  | .Try (.Expr (.Call _ [_, _, l] _ _) _ :: _) _ _ _ _ => l
  | _ => .Constant (.int 0) 0 ⟨0, 0, 0, 0⟩
abbrev lam_lw_whole_make : Expr := lamT ((defBody s_lw_whole_make).getD 2 (.Pass ⟨0, 0, 0, 0⟩))
abbrev lam_lw_no_make : Expr := lamT ((defBody s_lw_no_make).getD 2 (.Pass ⟨0, 0, 0, 0⟩))
abbrev lam_lw_once : Expr := lamA ((defBody s_lw_once).getD 1 (.Pass ⟨0, 0, 0, 0⟩))
theorem hnd_lw_whole_make : NdefX.ndefB (defScope s_lw_whole_make) (lamS lam_lw_whole_make) ["_law_calls", "_law_broken"] = true := by decide +kernel
theorem hnd_lw_no_make : NdefX.ndefB (defScope s_lw_no_make) (lamS lam_lw_no_make) ["_law_calls", "_law_number"] = true := by decide +kernel
theorem hnd_lw_once : NdefX.ndefB (defScope s_lw_once) (lamS lam_lw_once) ["_law_calls", "_law_broken"] = true := by decide +kernel
def QW : Str := (envOfC "_law_whole_make" (defScope s_lw_whole_make) 0 0 .none).qual ++ "<lambda>"
def QN : Str := (envOfC "_law_no_make" (defScope s_lw_no_make) 0 0 .none).qual ++ "<lambda>"
def QO : Str := (envOfC "_law_once" (defScope s_lw_once) 0 0 .none).qual ++ "<lambda>"
def spRule : List (Option V) → Sp := fun ws vs H Q _ => ∃ (ca bl : Addr) (cs : List Int) (bs : List Bool) (x : Int) (b : Bool), ws = [some (.ref ca), some (.ref bl)] ∧ vs = [.int x] ∧ H ca = some (.lst (cs.map V.int)) ∧ cs.length ≤ 500 ∧ H bl = some (.lst (bs.map V.bl)) ∧ ca ≠ bl ∧ 0 ≤ x ∧ bs[x.toNat]? = some b ∧
  Q (.bl b) (upd H ca (.lst ((cs ++ [x]).map V.int)))
theorem rule_ok {H : Hp} {ks : List (Int × Addr × List Int)} {ca bl : Addr} {bs : List Bool} (hbl : H bl = some (.lst (bs.map V.bl))) (hne : ca ≠ bl) (hk : ∀ x : Int, x ∈ ks.map (·.1) → 0 ≤ x ∧ x < (bs.length : Int)) : RuleOk (spRule [some (.ref ca), some (.ref bl)]) H ks ca (brF bs) := by
  intro H' cs x Q' hx hl b hca k
  have hx' := hk x hx
  have hlt : x.toNat < bs.length := by omega
  refine ⟨ca, bl, cs, bs, x, brF bs x, rfl, rfl, hca, by omega, b _ _ hbl (by simpa using Ne.symm hne), hne, hx'.1, ?_, k _ (But.refl.put (by simp)) upd_same⟩
  unfold brF
  rw [List.getElem?_eq_getElem hlt]
  rfl
/-- what is no table stands where tables alone are written -/
theorem up_tab {l : List Addr} {H H' : Hp} (b : But l H H') (h : ∀ x ∈ l, ∃ ps, H x = some (.tbl ps)) {a : Addr} {o : HO} (e : H a = some o) (m : ∀ q, o ≠ .tbl q) : H' a = some o := b _ _ e fun z => by
  obtain ⟨ps, hp⟩ := h a z
  rw [e] at hp
  exact m ps (Option.some.inj hp)
theorem tab_at {P : Addr} {q : Str} {H : Hp} (t : LamX.Tabs [(P, q)] H) : ∀ x ∈ [P], ∃ ps, H x = some (.tbl ps) := fun x hx => by
  obtain rfl : x = P := by simpa using hx
  obtain ⟨ps, h, _⟩ := t _ (List.mem_singleton.mpr rfl)
  exact ⟨ps, h⟩
theorem tabs_other {P : Addr} {q : Str} {l : List Addr} {H H' : Hp} (t : LamX.Tabs [(P, q)] H) (b : But l H H') (h : ∀ x ∈ l, ∃ ps, H x = some (.tbl ps)) (hn : P ∉ l) : LamX.Tabs [(P, q)] H' := by
  intro p hp
  obtain rfl : p = (P, q) := List.mem_singleton.mp hp
  obtain ⟨ps, h1, h2, h3⟩ := t _ (List.mem_singleton.mpr rfl)
  refine ⟨ps, b _ _ h1 hn, h2, fun pos cv hc => ?_⟩
  obtain ⟨c, e1, e2⟩ := h3 pos cv hc
  exact ⟨c, e1, up_tab b h e2 (fun _ z => by unfold LamX.CodeO at z; cases z)⟩
theorem MakesAt.tab {C p dk ds : Addr} {H H' : Hp} {ks : List (Int × Addr × List Int)} {ss : List (Int × V)} {n : Int} (M : MakesAt C H p dk ds ks ss n) {l : List Addr} (b : But l H H') (h : ∀ x ∈ l, ∃ ps, H x = some (.tbl ps)) : MakesAt C H' p dk ds ks ss n := by
  obtain ⟨dx, ho⟩ := M.ob
  exact ⟨⟨dx, up_tab b h ho (fun _ z => by cases z)⟩, up_tab b h M.hk (fun _ z => by cases z), up_tab b h M.hs (fun _ z => by cases z), fun k hk => up_tab b h (M.ht k hk) (fun _ z => by cases z), M.ne⟩
theorem LineL.tab {H H' : Hp} {ln : Int → List Int} {qs : List Addr} {m : Nat} (L : LineL H ln qs m) {l : List Addr} (b : But l H H') (h : ∀ x ∈ l, ∃ ps, H x = some (.tbl ps)) : LineL H' ln qs m := ⟨L.1, fun i q e => up_tab b h (L.2 i q e) (fun _ z => by cases z)⟩
theorem Asked.tab {H H' : Hp} {ts : List Addr} {rs : List (Int × Bool × Int)} (A : Asked H ts rs) {l : List Addr} (b : But l H H') (h : ∀ x ∈ l, ∃ ps, H x = some (.tbl ps)) : Asked H' ts rs := A.mono fun t ht o e => by
  obtain ⟨xs, hx⟩ := A.tup t ht
  rw [hx] at e
  cases e
  exact up_tab b h hx (fun _ z => by cases z)
section
variable {P : Program} {w : World} {K : PySem.W.Frag} {mg : Str → Option Value} {base : Heap}
theorem lok_lw_whole_make (T : Top K mg) {q : Str} {cl : List (Str × Addr)} {c' f : Addr} : LOk P w K mg base CX0 3 f ⟨"<lambda>", q, lamP lam_lw_whole_make, [], lamS lam_lw_whole_make, cl, c'⟩ (lamB lam_lw_whole_make) ["_law_one"] ["_law_calls", "_law_broken"] spRule := by
  refine lok_of (N := ["_law_one", "_law_calls", "_law_broken"]) (NdefX.nscope_by (show NdefX.nscB ["_law_one", "_law_calls", "_law_broken"] ["_law_one"] ["_law_calls", "_law_broken"] (lamS lam_lw_whole_make) = true by decide +kernel)) (fun pm cv ctv us hl => match us, hl with | [_], _ => rfl) (fun ws vs H Q E h => ?_) (fun A outer s H vs ws Q E hr hf hc hwl h => ?_)
  · obtain ⟨ca, bl, cs, bs, x, b, _, rfl, _⟩ := h
    rfl
  · obtain ⟨ca, bl, cs, bs, x, b, rfl, rfl, h1, h2, h3, h4, h5, h6, h7⟩ := h
    refine ⟨_, pe_call (ok_lw_say T) (hr.mono (by decide)) (by rfl) T.m_lw_say T.F_lw_say.kp T.b_lw_say .nil pass0 (pa_cons (pv 1) (pa_cons (pv 2) (pa_cons (pv 0) pa_nil))), ?_⟩
    exact ⟨_, rfl, _, rfl, _, rfl, ca, bl, cs, bs, x, b, rfl, h1, h2, h3, h4, h5, h6, h7⟩
theorem lok_lw_once (T : Top K mg) {q : Str} {cl : List (Str × Addr)} {c' f : Addr} : LOk P w K mg base CX0 3 f ⟨"<lambda>", q, lamP lam_lw_once, [], lamS lam_lw_once, cl, c'⟩ (lamB lam_lw_once) ["_law_one"] ["_law_calls", "_law_broken"] spRule := by
  refine lok_of (N := ["_law_one", "_law_calls", "_law_broken"]) (NdefX.nscope_by (show NdefX.nscB ["_law_one", "_law_calls", "_law_broken"] ["_law_one"] ["_law_calls", "_law_broken"] (lamS lam_lw_once) = true by decide +kernel)) (fun pm cv ctv us hl => match us, hl with | [_], _ => rfl) (fun ws vs H Q E h => ?_) (fun A outer s H vs ws Q E hr hf hc hwl h => ?_)
  · obtain ⟨ca, bl, cs, bs, x, b, _, rfl, _⟩ := h
    rfl
  · obtain ⟨ca, bl, cs, bs, x, b, rfl, rfl, h1, h2, h3, h4, h5, h6, h7⟩ := h
    refine ⟨_, pe_call (ok_lw_say T) (hr.mono (by decide)) (by rfl) T.m_lw_say T.F_lw_say.kp T.b_lw_say .nil pass0 (pa_cons (pv 1) (pa_cons (pv 2) (pa_cons (pv 0) pa_nil))), ?_⟩
    exact ⟨_, rfl, _, rfl, _, rfl, ca, bl, cs, bs, x, b, rfl, h1, h2, h3, h4, h5, h6, h7⟩
theorem run_len (ln : Int → List Int) (br : Int → Bool) : ∀ (m : Nat) (S : List Int) (top : Int), (runP ln br m S top).1.length ≤ m
  | 0, _, _ => Nat.le_refl _
  | m + 1, S, top => by
    rw [runP]
    split
    · exact Nat.zero_le _
    · rw [List.length_cons]
      exact Nat.succ_le_succ (run_len ln br m _ _)
/-- never asked -/
theorem lok_no {F : NdefX.NF} {b : Expr} {f : Addr} : LOk P w K mg base CX0 3 f F b ["_law_one"] ["_law_calls", "_law_number"] (fun _ _ _ _ _ => False) := ⟨fun _ _ _ _ _ h => h.elim, fun _ _ _ _ _ _ _ _ _ _ _ _ _ _ _ h => h.elim⟩
end
section
variable {K : PySem.W.Frag} {mg : Str → Option Value}
def spWholeMake (T : Top K mg) (Pt : Addr) : Sp := fun vs H Q _ => ∃ (p dk ds : Addr) (ks : List (Int × Addr × List Int)) (ss : List (Int × V)) (n : Int) (ln : Int → List Int) (k : Int) (bl : Addr) (bs : List Bool), vs = [.ref p, .int k, .ref bl] ∧
  MakesAt T.c_Makes H p dk ds ks ss n ∧ Hist ks ∧ Lines ks ln ∧ H bl = some (.lst (bs.map V.bl)) ∧ bs.length = ks.length ∧ k ∈ ks.map (·.1) ∧ brF bs k = false ∧ LamX.Tabs [(Pt, QW)] H ∧ ∀ H', But [Pt] H H' → LamX.Tabs [(Pt, QW)] H' → Q (.bl true) H'
def spNoMake (T : Top K mg) (Pt : Addr) : Sp := fun vs H Q _ => ∃ (p dk ds : Addr) (ks : List (Int × Addr × List Int)) (ss : List (Int × V)) (n : Int) (ln : Int → List Int) (k : Int), vs = [.ref p, .int k] ∧
  MakesAt T.c_Makes H p dk ds ks ss n ∧ Hist ks ∧ Lines ks ln ∧ ¬ k ∈ ks.map (·.1) ∧ LamX.Tabs [(Pt, QN)] H ∧ ∀ H', But [Pt] H H' → LamX.Tabs [(Pt, QN)] H' → Q (.bl true) H'
def spOnce (T : Top K mg) (Pt : Addr) : Sp := fun vs H Q _ => ∃ (p dk ds : Addr) (ks : List (Int × Addr × List Int)) (ss : List (Int × V)) (n : Int) (ln : Int → List Int) (k : Int) (bl : Addr) (bs : List Bool) (du as2 : Addr) (ts2 : List Addr), vs = [.ref p, .int k, .ref bl, .ref du] ∧
  MakesAt T.c_Makes H p dk ds ks ss n ∧ Hist ks ∧ Lines ks ln ∧ H bl = some (.lst (bs.map V.bl)) ∧ bs.length = ks.length ∧ k ∈ ks.map (·.1) ∧ brF bs k = true ∧ H du = some (.tup [.int (runP ln (brF bs) 64 (ln k) k).2, .ref as2]) ∧ H as2 = some (.lst (ts2.map V.ref)) ∧ Asked H ts2 ((k, true, ((ln k).length : Int)) :: (runP ln (brF bs) 64 (ln k) k).1) ∧
  LamX.Tabs [(Pt, QO)] H ∧ ∀ H', But [Pt] H H' → LamX.Tabs [(Pt, QO)] H' → Q (.bl true) H'
end
section
variable {P : Program} {w : World} {K : PySem.W.Frag} {mg : Str → Option Value} {base : Heap}
theorem ok_lw_whole_make (T : Top K mg) {Pt_lw_whole_make : Addr} (TB_lw_whole_make : LamX.TabB base mg T.ca_lw_whole_make Pt_lw_whole_make) : FnOk P w K mg base CX0 8 T.f_lw_whole_make T.d_lw_whole_make ["_law_makes", "_law_number", "_law_broken"] (spWholeMake T Pt_lw_whole_make) := by
  refine T.F_lw_whole_make.ok sc_lw_whole_make (fun vs H Q E h => ?_) (fun A outer s H vs Q E hr h => ?_)
  · obtain ⟨p, dk, ds, ks, ss, n, ln, k, bl, bs, rfl, _⟩ := h
    rfl
  · obtain ⟨p, dk, ds, ks, ss, n, ln, k, bl, bs, rfl, M, hh, L, hbl, hbs, hk, hbr, hT, kq⟩ := h
    have hlen := hh.len
    have hkb : ∀ x : Int, x ∈ ks.map (·.1) → 0 ≤ x ∧ x < (bs.length : Int) := fun x hx => by rw [hbs]; exact hh.mem.mp hx
    refine ⟨_, (pss_cons (ps_set (i := 3) sc_lw_whole_make.nd rfl (by first | exact Or.inl rfl | exact Or.inr rfl) (pe_lst pa_nil))
      (pss_cons (ps_set (i := 4) sc_lw_whole_make.nd rfl (by first | exact Or.inl rfl | exact Or.inr rfl) pe_non)
      (pss_try_keep (x := "NotBroken") (i := 5) rfl rfl sc_lw_whole_make.nd rfl rfl ⟨by rfl, by decide, .inl T.g_NotBroken⟩
      (fun W pn xe tk po => (pss_one (ps_expr (pe_give (k := 7) (kl := 3) (mk := fun c' => ⟨"<lambda>", (envOfC "_law_whole_make" (defScope s_lw_whole_make) s.heap.objs.size T.f_lw_whole_make (.ref T.ca_lw_whole_make)).qual ++ "<lambda>", lamP lam_lw_whole_make, [], lamS lam_lw_whole_make, cloFrom (envOfC "_law_whole_make" (defScope s_lw_whole_make) s.heap.objs.size T.f_lw_whole_make (.ref T.ca_lw_whole_make)).cells (lamS lam_lw_whole_make).names [], c'⟩) (b := lamB lam_lw_whole_make) (js := [3, 2]) (cl := cloFrom (envOfC "_law_whole_make" (defScope s_lw_whole_make) s.heap.objs.size T.f_lw_whole_make (.ref T.ca_lw_whole_make)).cells (lamS lam_lw_whole_make).names []) (by rfl) T.m_first_broken T.F_first_broken.kp (gok_first_broken T) (fun f c' => lok_lw_whole_make T) (fun _ => rfl)
      (fun ok => NdefX.Caps.made ok (NdefX.ndef_free hnd_lw_whole_make) (NdefX.ndef_fr hnd_lw_whole_make) rfl) (hr.mono (by decide)) (fun σ => passAt tk σ) (pa_cons (pv 0) (pa_cons (pv 1) (pa_cons (pe_lamM (mk := fun c' => ⟨"<lambda>", (envOfC "_law_whole_make" (defScope s_lw_whole_make) s.heap.objs.size T.f_lw_whole_make (.ref T.ca_lw_whole_make)).qual ++ "<lambda>", lamP lam_lw_whole_make, [], lamS lam_lw_whole_make, cloFrom (envOfC "_law_whole_make" (defScope s_lw_whole_make) s.heap.objs.size T.f_lw_whole_make (.ref T.ca_lw_whole_make)).cells (lamS lam_lw_whole_make).names [], c'⟩) (fun _ => rfl) (T := [(Pt_lw_whole_make, (envOfC "_law_whole_make" (defScope s_lw_whole_make) s.heap.objs.size T.f_lw_whole_make (.ref T.ca_lw_whole_make)).qual ++ "<lambda>")]) (P := Pt_lw_whole_make) (c := T.ca_lw_whole_make) TB_lw_whole_make rfl (List.mem_singleton.mpr rfl) (fun p hp _ => by cases List.mem_singleton.mp hp; rfl) rfl (NdefX.ndef_free hnd_lw_whole_make)) pa_nil)))))))
      (fun a oe cls dd pn hz hf => (pss_one (ps_set (i := 4) sc_lw_whole_make.nd rfl (by first | exact Or.inl rfl | exact Or.inr rfl) (pe_xf T.X_NotBroken T.n_NotBroken_number hz hf (pv 5) rfl))))
      (pss_one (ps_ret (pe_and (pe_cmpR op_eq (pv 4) (pv 1) (nomark _)) (pe_one (pe_cmpR (op_eqD hr.units) (pv 3) (pe_lst (pa_cons (pv 1) pa_nil)) (nomark _))))))
      (fun a oe cls dd hz hf => (pss_one (ps_ret (pe_and (pe_cmpR op_eq (pv 4) (pv 1) (nomark _)) (pe_one (pe_cmpR (show OpR _ (compareOp .Eq) (rEqD K) from op_eqD hr.units) (pv 3) (pe_lst (pa_cons (pv 1) pa_nil)) (nomark _)))))))))), ?_⟩
    refine ⟨(by show 0 ≤ sizeLine; decide), fun ca hca => ?_⟩
    have s1 : Same H (upd H ca (.lst [])) := same_upd hca
    have hT1 := hT.ext s1
    have tb1 := tab_at hT1
    refine ⟨_, rfl, _, rfl, hT1, fun f c' H2 b2 T2 hf0 hf2 hc2 => ⟨f, c', hf2, hc2, ?_⟩⟩
    have hca2 : H2 ca = some (.lst ((([] : List Int)).map V.int)) := up_tab b2 tb1 upd_same (fun _ z => by cases z)
    have M2 := (M.same s1).tab b2 tb1
    have hbl2 : H2 bl = some (.lst (bs.map V.bl)) := up_tab b2 tb1 (s1 _ _ hbl) (fun _ z => by cases z)
    have ncb : ca ≠ bl := fun z => by rw [z, hbl] at hca; cases hca
    refine ⟨p, dk, ds, ks, ss, n, k, ln, brF bs, ca, [], rfl, hf2, hc2, M2, hh.closed, by omega, hh.down, L, hca2, by decide, fun _ => rule_ok hbl2 ncb hkb, fun h => absurd hk h, fun _ _ H3 d b3 hca3 hd3 => ?_, fun _ h => by rw [hbr] at h; cases h⟩
    refine ⟨true, T.xm_NotBroken, rfl, fun a ha => ⟨_, rfl, rfl, rfl, d, _, _, rfl, upd_same, rfl, ?_⟩⟩
    have s34 : Same H3 (upd H3 d (.xd [("number", .int k)])) := same_upd hd3
    refine ⟨_, rfl, _, rfl, rfl, _, rfl, iteP (decide_eq_true rfl) ⟨_, rfl, _, rfl, (by show 1 ≤ sizeLine; decide), fun e he => ⟨_, _, dp_lst (l := [k]) (SqL.of ((same_upd he) _ _ (s34 _ _ hca3))), dp_lst (l := [k]) (SqL.of upd_same), PySem.W.ke_shaped_ints _, PySem.W.ke_shaped_ints _, ?_⟩⟩⟩
    rw [eqv_ints]
    have T3 : LamX.Tabs [(Pt_lw_whole_make, QW)] H3 := tabs_but T2 b3 fun x hx => by
      obtain rfl : x = ca := by simpa using hx
      exact .inl ⟨_, hca2⟩
    have s35 : Same H3 (upd (upd H3 d (.xd [("number", .int k)])) e (.lst [.int k])) := s34.new (s34.free he)
    exact kq _ (fun x o e m => s35 _ _ (b3 _ _ (b2 _ _ (s1 _ _ e) m) (by simpa using ne_of_none e hca))) (T3.ext s35)
theorem ok_lw_no_make (T : Top K mg) {Pt_lw_no_make : Addr} (TB_lw_no_make : LamX.TabB base mg T.ca_lw_no_make Pt_lw_no_make) : FnOk P w K mg base CX0 8 T.f_lw_no_make T.d_lw_no_make ["_law_makes", "_law_number"] (spNoMake T Pt_lw_no_make) := by
  refine T.F_lw_no_make.ok sc_lw_no_make (fun vs H Q E h => ?_) (fun A outer s H vs Q E hr h => ?_)
  · obtain ⟨p, dk, ds, ks, ss, n, ln, k, rfl, _⟩ := h
    rfl
  · obtain ⟨p, dk, ds, ks, ss, n, ln, k, rfl, M, hh, L, hk, hT, kq⟩ := h
    have hlen := hh.len
    refine ⟨_, (pss_cons (ps_set (i := 2) sc_lw_no_make.nd rfl (by first | exact Or.inl rfl | exact Or.inr rfl) (pe_lst pa_nil))
      (pss_cons (ps_set (i := 3) sc_lw_no_make.nd rfl (by first | exact Or.inl rfl | exact Or.inr rfl) pe_non)
      (pss_try_keep (x := "NoMake") (i := 4) rfl rfl sc_lw_no_make.nd rfl rfl ⟨by rfl, by decide, .inl T.g_NoMake⟩
      (fun W pn xe tk po => (pss_one (ps_expr (pe_give (k := 7) (kl := 3) (mk := fun c' => ⟨"<lambda>", (envOfC "_law_no_make" (defScope s_lw_no_make) s.heap.objs.size T.f_lw_no_make (.ref T.ca_lw_no_make)).qual ++ "<lambda>", lamP lam_lw_no_make, [], lamS lam_lw_no_make, cloFrom (envOfC "_law_no_make" (defScope s_lw_no_make) s.heap.objs.size T.f_lw_no_make (.ref T.ca_lw_no_make)).cells (lamS lam_lw_no_make).names [], c'⟩) (b := lamB lam_lw_no_make) (js := [2, 1]) (cl := cloFrom (envOfC "_law_no_make" (defScope s_lw_no_make) s.heap.objs.size T.f_lw_no_make (.ref T.ca_lw_no_make)).cells (lamS lam_lw_no_make).names []) (by rfl) T.m_first_broken T.F_first_broken.kp (gok_first_broken T) (fun f c' => lok_no) (fun _ => rfl)
      (fun ok => NdefX.Caps.made ok (NdefX.ndef_free hnd_lw_no_make) (NdefX.ndef_fr hnd_lw_no_make) rfl) (hr.mono (by decide)) (fun σ => passAt tk σ) (pa_cons (pv 0) (pa_cons (pv 1) (pa_cons (pe_lamM (mk := fun c' => ⟨"<lambda>", (envOfC "_law_no_make" (defScope s_lw_no_make) s.heap.objs.size T.f_lw_no_make (.ref T.ca_lw_no_make)).qual ++ "<lambda>", lamP lam_lw_no_make, [], lamS lam_lw_no_make, cloFrom (envOfC "_law_no_make" (defScope s_lw_no_make) s.heap.objs.size T.f_lw_no_make (.ref T.ca_lw_no_make)).cells (lamS lam_lw_no_make).names [], c'⟩) (fun _ => rfl) (T := [(Pt_lw_no_make, (envOfC "_law_no_make" (defScope s_lw_no_make) s.heap.objs.size T.f_lw_no_make (.ref T.ca_lw_no_make)).qual ++ "<lambda>")]) (P := Pt_lw_no_make) (c := T.ca_lw_no_make) TB_lw_no_make rfl (List.mem_singleton.mpr rfl) (fun p hp _ => by cases List.mem_singleton.mp hp; rfl) rfl (NdefX.ndef_free hnd_lw_no_make)) pa_nil)))))))
      (fun a oe cls dd pn hz hf => (pss_one (ps_set (i := 3) sc_lw_no_make.nd rfl (by first | exact Or.inl rfl | exact Or.inr rfl) (pe_xf T.X_NoMake T.n_NoMake_number hz hf (pv 4) rfl))))
      (pss_one (ps_ret (pe_and (pe_cmpR op_eq (pv 3) (pv 1) (nomark _)) (pe_one (pe_cmpR (op_eqD hr.units) (pv 2) (pe_lst pa_nil) (nomark _))))))
      (fun a oe cls dd hz hf => (pss_one (ps_ret (pe_and (pe_cmpR op_eq (pv 3) (pv 1) (nomark _)) (pe_one (pe_cmpR (show OpR _ (compareOp .Eq) (rEqD K) from op_eqD hr.units) (pv 2) (pe_lst pa_nil) (nomark _)))))))))), ?_⟩
    refine ⟨(by show 0 ≤ sizeLine; decide), fun ca hca => ?_⟩
    have s1 : Same H (upd H ca (.lst [])) := same_upd hca
    have hT1 := hT.ext s1
    have tb1 := tab_at hT1
    refine ⟨_, rfl, _, rfl, hT1, fun f c' H2 b2 T2 hf0 hf2 hc2 => ⟨f, c', hf2, hc2, ?_⟩⟩
    have hca2 : H2 ca = some (.lst ((([] : List Int)).map V.int)) := up_tab b2 tb1 upd_same (fun _ z => by cases z)
    have M2 := (M.same s1).tab b2 tb1
    refine ⟨p, dk, ds, ks, ss, n, k, ln, fun _ => false, ca, [], rfl, hf2, hc2, M2, hh.closed, by omega, hh.down, L, hca2, by decide, fun h => absurd h hk, fun _ d hd => ?_, fun h => absurd h hk, fun h => absurd h hk⟩
    refine ⟨true, T.xm_NoMake, rfl, fun a ha => ⟨_, rfl, rfl, rfl, d, _, _, rfl, upd_same, rfl, ?_⟩⟩
    have s34 : Same H2 (upd H2 d (.xd [("number", .int k)])) := same_upd hd
    refine ⟨_, rfl, _, rfl, rfl, _, rfl, iteP (decide_eq_true rfl) ⟨_, rfl, (by show 0 ≤ sizeLine; decide), fun e he => ⟨_, _, dp_lst (l := []) (SqL.of ((same_upd he) _ _ (s34 _ _ hca2))), dp_lst (l := []) (SqL.of upd_same), PySem.W.ke_shaped_ints _, PySem.W.ke_shaped_ints _, ?_⟩⟩⟩
    rw [eqv_ints]
    have s35 : Same H2 (upd (upd H2 d (.xd [("number", .int k)])) e (.lst [])) := s34.new (s34.free he)
    exact kq _ (fun x o e m => s35 _ _ (b2 _ _ (s1 _ _ e) m)) (T2.ext s35)
theorem ok_lw_once (T : Top K mg) {Pt_lw_once : Addr} (TB_lw_once : LamX.TabB base mg T.ca_lw_once Pt_lw_once) : FnOk P w K mg base CX0 8 T.f_lw_once T.d_lw_once ["_law_makes", "_law_number", "_law_broken", "_law_due_here"] (spOnce T Pt_lw_once) := by
  refine T.F_lw_once.ok sc_lw_once (fun vs H Q E h => ?_) (fun A outer s H vs Q E hr h => ?_)
  · obtain ⟨p, dk, ds, ks, ss, n, ln, k, bl, bs, du, as2, ts2, rfl, _⟩ := h
    rfl
  · obtain ⟨p, dk, ds, ks, ss, n, ln, k, bl, bs, du, as2, ts2, rfl, M, hh, L, hbl, hbs, hk, hbr, hdu, has2, hA2, hT, kq⟩ := h
    have hlen := hh.len
    have hkb : ∀ x : Int, x ∈ ks.map (·.1) → 0 ≤ x ∧ x < (bs.length : Int) := fun x hx => by rw [hbs]; exact hh.mem.mp hx
    refine ⟨_, (pss_cons (ps_set (i := 4) sc_lw_once.nd rfl (by first | exact Or.inl rfl | exact Or.inr rfl) (pe_lst pa_nil))
      (pss_cons (ps_set (i := 5) sc_lw_once.nd rfl (by first | exact Or.inl rfl | exact Or.inr rfl) (pe_give (k := 7) (kl := 3) (mk := fun c' => ⟨"<lambda>", (envOfC "_law_once" (defScope s_lw_once) s.heap.objs.size T.f_lw_once (.ref T.ca_lw_once)).qual ++ "<lambda>", lamP lam_lw_once, [], lamS lam_lw_once, cloFrom (envOfC "_law_once" (defScope s_lw_once) s.heap.objs.size T.f_lw_once (.ref T.ca_lw_once)).cells (lamS lam_lw_once).names [], c'⟩) (b := lamB lam_lw_once) (js := [4, 2]) (cl := cloFrom (envOfC "_law_once" (defScope s_lw_once) s.heap.objs.size T.f_lw_once (.ref T.ca_lw_once)).cells (lamS lam_lw_once).names []) (by rfl) T.m_first_broken T.F_first_broken.kp (gok_first_broken T) (fun f c' => lok_lw_once T) (fun _ => rfl)
      (fun ok => NdefX.Caps.made ok (NdefX.ndef_free hnd_lw_once) (NdefX.ndef_fr hnd_lw_once) rfl) (hr.mono (by decide)) (fun σ => passL_at σ) (pa_cons (pv 0) (pa_cons (pv 1) (pa_cons (pe_lamM (mk := fun c' => ⟨"<lambda>", (envOfC "_law_once" (defScope s_lw_once) s.heap.objs.size T.f_lw_once (.ref T.ca_lw_once)).qual ++ "<lambda>", lamP lam_lw_once, [], lamS lam_lw_once, cloFrom (envOfC "_law_once" (defScope s_lw_once) s.heap.objs.size T.f_lw_once (.ref T.ca_lw_once)).cells (lamS lam_lw_once).names [], c'⟩) (fun _ => rfl) (T := [(Pt_lw_once, (envOfC "_law_once" (defScope s_lw_once) s.heap.objs.size T.f_lw_once (.ref T.ca_lw_once)).qual ++ "<lambda>")]) (P := Pt_lw_once) (c := T.ca_lw_once) TB_lw_once rfl (List.mem_singleton.mpr rfl) (fun p hp _ => by cases List.mem_singleton.mp hp; rfl) rfl (NdefX.ndef_free hnd_lw_once)) pa_nil)))))
      (pss_cons (ps_if (PW.pt (pw_or (pt_not (pt_val (pe_call (ok_lw_found T) (hr.mono (by decide)) (by rfl) T.m_lw_found T.F_lw_found.kp T.b_lw_found .nil pass0 (pa_cons (pv 5) (pa_cons (pv 3) pa_nil))))) (pw_or1 (pt_cmpR (op_neD hr.units) (pv 4) (pe_lc (own := [("_law_one", 6)]) rfl sc_lw_once.nd (pi_list (pe_ix ix_tup (pv 3) pe_int (fun _ _ => rfl))) (blkOk_by (own := [("_law_one", 6)]) (N := ["_law_makes", "_law_number", "_law_broken", "_law_due_here", "_law_calls", "_law_found_here", "_law_one"]) (sc := defScope s_lw_once) (by decide +kernel)) (fun _ _ _ _ _ => (pg_name (i := 6) sc_lw_once.nd rfl (by first | exact Or.inl rfl | exact Or.inr rfl))) (fun _ _ _ _ _ => pts_nil) (fun _ _ _ _ _ => (pe_ix (show IxR _ (rIxT K) from ix_tup) (pv 6) pe_int (fun _ _ => rfl)))) (nomark _))))) (pss_one (ps_ret pe_bl)) pss_nil)
      (pss_cons (ps_expr (pe_bm0 PySem.F.plainAttrs_list PySem.F.slot_list_clear PySem.F.type_list_clear mt_clear (pe_ix ix_tup (pv 5) pe_int (fun _ _ => rfl))))
      (pss_one (ps_ret pe_bl)))))), ?_⟩
    refine ⟨(by show 0 ≤ sizeLine; decide), fun ca hca => ?_⟩
    have s1 : Same H (upd H ca (.lst [])) := same_upd hca
    have hT1 := hT.ext s1
    have tb1 := tab_at hT1
    refine ⟨_, rfl, _, rfl, hT1, fun f c' H2 b2 T2 hf0 hf2 hc2 => ⟨f, c', hf2, hc2, ?_⟩⟩
    have hca2 : H2 ca = some (.lst ((([] : List Int)).map V.int)) := up_tab b2 tb1 upd_same (fun _ z => by cases z)
    have M2 := (M.same s1).tab b2 tb1
    have hbl2 : H2 bl = some (.lst (bs.map V.bl)) := up_tab b2 tb1 (s1 _ _ hbl) (fun _ z => by cases z)
    have ncb : ca ≠ bl := fun z => by rw [z, hbl] at hca; cases hca
    refine ⟨p, dk, ds, ks, ss, n, k, ln, brF bs, ca, [], rfl, hf2, hc2, M2, hh.closed, by omega, hh.down, L, hca2, by decide, fun _ => rule_ok hbl2 ncb hkb, fun h => absurd hk h, fun _ h => (by rw [hbr] at h; cases h), fun _ _ H3 q as ts b3 hq has0 hts hq3 has3 hA hca3 => ?_⟩
    have hrl := run_len ln (brF bs) 64 (ln k) k
    generalize runP ln (brF bs) 64 (ln k) k = rr at hdu hA2 hq3 hA hca3 hrl
    obtain ⟨rows, fnd⟩ := rr
    simp only [] at hdu hA2 hq3 hA hca3 hrl
    have up3 : ∀ {a : Addr} {o : HO}, H a = some o → (∀ q, o ≠ .tbl q) → H3 a = some o := fun e m => b3 _ _ (up_tab b2 tb1 (s1 _ _ e) m) (by simpa using ne_of_none e hca)
    have hdu3 := up3 hdu (fun _ z => by cases z)
    have has23 := up3 has2 (fun _ z => by cases z)
    have hA23 : Asked H3 ts2 ((k, true, ((ln k).length : Int)) :: rows) := hA2.mono fun t ht o e => by
      obtain ⟨xs, hx⟩ := hA2.tup t ht
      rw [hx] at e
      cases e
      exact up3 hx (fun _ z => by cases z)
    have T3 : LamX.Tabs [(Pt_lw_once, QO)] H3 := tabs_but T2 b3 fun x hx => by
      obtain rfl : x = ca := by simpa using hx
      exact .inl ⟨_, hca2⟩
    refine ⟨_, rfl, _, rfl, q, du, fnd, as, as2, ts, ts2, _, rfl, hq3, hdu3, has3, has23, hA, hA23, _, rfl, iteF ?_⟩
    have hca3' : H3 ca = some (.lst ((k :: rows.map (·.1)).map V.int)) := hca3
    generalize hcs : k :: rows.map (·.1) = cs at hca3'
    have htl : ts2.length = cs.length := by
      have := Paired.length hA23
      rw [List.length_cons] at this
      rw [this, ← hcs, List.length_cons, List.length_map]
    have hcl : cs.length ≤ 65 := by rw [← hcs, List.length_cons, List.length_map]; omega
    refine ⟨_, rfl, _, rfl, du, _, 1, .ref as2, rfl, rfl, SqT.of hdu3, rfl, as2, rfl, ⟨_, SqL.of has23⟩, fun D hD => ?_⟩
    refine lc_list (K := K) (a := as2) (xs := ts2.map V.ref) (fun i H4 => Same H3 H4 ∧ H4 D = some (.lst ((cs.take i).map V.int))) ⟨same_upd hD, upd_same⟩ (fun i H4 _ s4 => SqL.of (s4.1 _ _ has23)) ?_ ?_
    · rintro i v H4 hi ⟨s4, hD4⟩
      obtain ⟨t, ht, rfl⟩ := map_at hi
      obtain ⟨r, hr4, htr⟩ := hA23.at_ ht
      have hci : cs[i]? = some r.1 := by
        rw [← hcs]
        have : (((k, true, ((ln k).length : Int)) :: rows).map (·.1))[i]? = some r.1 := by rw [List.getElem?_map, hr4]; rfl
        exact this
      refine ⟨rfl, lc_yes ?_⟩
      refine ⟨_, rfl, t, _, 0, .int r.1, rfl, rfl, SqT.of (s4 _ _ htr), rfl, _, hD4, by rw [List.length_map]; exact small1000 (Nat.le_trans (List.length_take_le' _ _) (by omega)), s4.new hD, ?_⟩
      rw [upd_same, List.take_add_one, hci, List.map_append]
      rfl
    rintro H4 ⟨s4, hD4⟩
    rw [show (ts2.map V.ref).length = cs.length from by rw [List.length_map]; exact htl, List.take_length] at hD4
    refine ⟨_, _, dp_lst (SqL.of (s4 _ _ hca3')), dp_lst (SqL.of hD4), PySem.W.ke_shaped_ints _, PySem.W.ke_shaped_ints _, _, rfl, iteN (by rw [eqv_ints]; rfl) ?_⟩
    refine ⟨_, rfl, q, _, 1, .ref as, rfl, rfl, SqT.of (s4 _ _ hq3), rfl, .inl ⟨rfl, _, SqL.of (s4 _ _ has3)⟩, as, _, rfl, rfl, s4 _ _ has3, ?_⟩
    have T4 : LamX.Tabs [(Pt_lw_once, QO)] (upd H4 as (.lst [])) := tabs_but (T3.ext s4) (But.refl.put (l := [as]) (by simp)) fun x hx => by
      obtain rfl : x = as := by simpa using hx
      exact .inl ⟨_, s4 _ _ has3⟩
    refine kq _ (fun x o e m => ?_) T4
    rw [upd_ne (ne_of_none (b2 _ _ (s1 _ _ e) m) has0)]
    exact s4 _ _ (b3 _ _ (b2 _ _ (s1 _ _ e) m) (by simpa using ne_of_none e hca))
end
end Z
namespace Z
open PySem PySem.Spec PyProof.Rows L2
/-! ### the law -/
theorem small12 {n : Nat} (h : n ≤ 64) : n ≤ sizeLine := Nat.le_trans h (by decide)
theorem ix_nat {n : Nat} {i : Int} (h0 : 0 ≤ i) (h1 : i < n) : ixN n i = some i.toNat := by
  unfold ixN
  rw [if_pos h0, if_pos h1]
theorem ix_last {n : Nat} (h : 0 < n) : ixN n (-1) = some (n - 1) := by
  unfold ixN
  rw [if_neg (by decide)]
  first
    | (rw [if_pos (by omega)]; congr 1; done)
    | (rw [if_pos (by omega)]; congr 1; omega)
    | (split <;> simp <;> omega)
theorem seq_tab {K : PySem.W.Frag} {H H' : Hp} {a : Addr} {xs : List V} {l : List Addr} (h : SqL K H a xs) (b : But l H H') (t : ∀ x ∈ l, ∃ ps, H x = some (.tbl ps)) : SqL K H' a xs := by
  rcases h with (h | ⟨o, h⟩) | h
  · exact .inl (.inl (up_tab b t h (fun _ z => by cases z)))
  · exact .inl (.inr ⟨o, up_tab b t h (fun _ z => by cases z)⟩)
  · exact .inr h
theorem new_same {H H' : Hp} {p dx : Addr} {o o' : HO} (hp : H p = none) (hd : H dx = none) (b : But [p] (upd (upd H dx o) p o') H') : Same H H' := fun c u e => b c u (by rw [upd_ne (ne_of_none e hp), upd_ne (ne_of_none e hd)]; exact e) (by
  simp only [List.mem_cons, List.not_mem_nil, or_false]
  exact ne_of_none e hp)
theorem cut_mem {xs : List V} {lo hi : Option Int} {x : V} (h : x ∈ cutV xs lo hi) : x ∈ xs := List.mem_of_mem_drop (List.mem_of_mem_take h)
theorem cut_len42 {xs : List V} : (cutV xs (some 3) (some 27)).length ≤ 24 := by
  unfold cutV
  rw [List.length_take, List.length_drop, show (some (3 : Int)) = some ((3 : Nat) : Int) from rfl, show (some (27 : Int)) = some ((27 : Nat) : Int) from rfl, HT.sIx_nat, HT.sIx_nat]
  omega
section
variable {K : PySem.W.Frag} {mg : Str → Option Value}
def spSearched (T : Top K mg) (Pw Po : Addr) : Sp := fun vs H Q _ => ∃ (p dk ds : Addr) (ks : List (Int × Addr × List Int)) (ss : List (Int × V)) (n : Int) (ll : Addr) (qs : List Addr) (ln : Int → List Int) (k : Int) (bl : Addr) (bs : List Bool), vs = [.ref p, .ref ll, .int k, .ref bl] ∧
  MakesAt T.c_Makes H p dk ds ks ss n ∧ Hist ks ∧ Lines ks ln ∧ H ll = some (.lst (qs.map V.ref)) ∧ LineL H ln qs ks.length ∧ H bl = some (.lst (bs.map V.bl)) ∧ bs.length = ks.length ∧ k ∈ ks.map (·.1) ∧ LamX.Tabs [(Pw, QW)] H ∧ LamX.Tabs [(Po, QO)] H ∧ Pw ≠ Po ∧
  ∀ H', But [Pw, Po] H H' → LamX.Tabs [(Pw, QW)] H' → LamX.Tabs [(Po, QO)] H' → Q (.bl true) H'
def spLaw (K : PySem.W.Frag) (Pw Pn Po : Addr) : Sp := fun vs H Q _ => ∃ (l : Addr) (ns : List Int), vs = [.ref l] ∧ SqL K H l (ns.map V.int) ∧ ns.length ≤ 1000 ∧ H Pw = some (.tbl #[]) ∧ H Pn = some (.tbl #[]) ∧ H Po = some (.tbl #[]) ∧ (Pw ≠ Pn ∧ Pw ≠ Po ∧ Pn ≠ Po) ∧ ∀ H', Q (.bl true) H'
end
section
variable {P : Program} {w : World} {K : PySem.W.Frag} {mg : Str → Option Value} {base : Heap}
theorem ok_lw_searched (T : Top K mg) {Pt_lw_whole_make : Addr} (TB_lw_whole_make : LamX.TabB base mg T.ca_lw_whole_make Pt_lw_whole_make) {Pt_lw_no_make : Addr} (TB_lw_no_make : LamX.TabB base mg T.ca_lw_no_make Pt_lw_no_make) {Pt_lw_once : Addr} (TB_lw_once : LamX.TabB base mg T.ca_lw_once Pt_lw_once) : FnOk P w K mg base CX0 9 T.f_lw_searched T.d_lw_searched ["_law_makes", "_law_lines_here", "_law_number", "_law_broken"] (spSearched T Pt_lw_whole_make Pt_lw_once) := by
  refine T.F_lw_searched.ok sc_lw_searched (fun vs H Q E h => ?_) (fun cdv A outer s H vs Q E hr h => ?_)
  · obtain ⟨p, dk, ds, ks, ss, n, ll, qs, ln, k, bl, bs, rfl, _⟩ := h
    rfl
  · obtain ⟨p, dk, ds, ks, ss, n, ll, qs, ln, k, bl, bs, rfl, M, hh, L, hll, hL, hbl, hbs, hk, hTw, hTo, hne, kq⟩ := h
    have hkb := hh.mem.mp hk
    refine ⟨_, (pss_cons (ps_if (pt_not (pt_val (pe_ix ix_list (pv 3) (pv 2) (fun _ _ => rfl)))) (pss_one (ps_ret (pe_call (ok_lw_whole_make T TB_lw_whole_make) (hr.mono (by decide)) (by rfl) T.m_lw_whole_make T.F_lw_whole_make.kp T.b_lw_whole_make .nil pass0 (pa_cons (pv 0) (pa_cons (pv 2) (pa_cons (pv 3) pa_nil)))))) pss_nil)
      (pss_cons (ps_set (i := 4) sc_lw_searched.nd rfl (by first | exact Or.inl rfl | exact Or.inr rfl) (pe_call (ok_lw_due T) (hr.mono (by decide)) (by rfl) T.m_lw_due T.F_lw_due.kp T.b_lw_due .nil pass0 (pa_cons (pv 1) (pa_cons (pv 2) (pa_cons (pv 3) pa_nil)))))
      (pss_one (ps_ret (pe_and (pe_call (ok_lw_once T TB_lw_once) (hr.mono (by decide)) (by rfl) T.m_lw_once T.F_lw_once.kp T.b_lw_once .nil pass0 (pa_cons (pv 0) (pa_cons (pv 2) (pa_cons (pv 3) (pa_cons (pv 4) pa_nil))))) (pe_one (pe_call (ok_lw_once T TB_lw_once) (hr.mono (by decide)) (by rfl) T.m_lw_once T.F_lw_once.kp T.b_lw_once .nil pass0 (pa_cons (pv 0) (pa_cons (pv 2) (pa_cons (pv 3) (pa_cons (pv 4) pa_nil))))))))))), ?_⟩
    refine ⟨_, rfl, _, rfl, bl, _, _, _, rfl, rfl, SqL.of hbl, br_ix hkb.1 (by rw [hbs]; exact hkb.2), _, rfl, ?_⟩
    cases hbr : brF bs k with
    | false =>
      refine iteT ⟨_, rfl, _, rfl, _, rfl, p, dk, ds, ks, ss, n, ln, k, bl, bs, rfl, M, hh, L, hbl, hbs, hk, hbr, hTw, fun H1 b1 T1 => ?_⟩
      exact kq H1 (b1.mono (by simp)) T1 (tabs_other hTo b1 (tab_at hTw) (by simpa using Ne.symm hne))
    | true =>
      refine iteF ⟨_, rfl, _, rfl, _, rfl, ll, qs, ln, ks, k, bl, bs, rfl, hll, hL, hh, L, hk, hbl, hbs, fun H1 q as ts s1 hq has hq1 has1 hA1 => ?_⟩
      have M1 := M.same s1
      have To1 := hTo.ext s1
      have Tw1 := hTw.ext s1
      refine ⟨_, rfl, _, rfl, _, rfl, _, rfl, p, dk, ds, ks, ss, n, ln, k, bl, bs, q, as, ts, rfl, M1, hh, L, s1 _ _ hbl, hbs, hk, hbr, hq1, has1, hA1, To1, fun H2 b2 T2 => ⟨_, rfl, iteT ?_⟩⟩
      have tb1 := tab_at To1
      have M2 := M1.tab b2 tb1
      refine ⟨_, rfl, _, rfl, _, rfl, _, rfl, p, dk, ds, ks, ss, n, ln, k, bl, bs, q, as, ts, rfl, M2, hh, L, up_tab b2 tb1 (s1 _ _ hbl) (fun _ z => by cases z), hbs, hk, hbr, up_tab b2 tb1 hq1 (fun _ z => by cases z), up_tab b2 tb1 has1 (fun _ z => by cases z), hA1.tab b2 tb1, T2, fun H3 b3 T3 => ?_⟩
      have b13 : But [Pt_lw_once] H1 H3 := b2.trans b3
      refine kq H3 (fun x o e m => b13 _ _ (s1 _ _ e) (fun z => m (by simp at z; simp [z]))) (tabs_other Tw1 b13 tb1 (by simpa using hne)) T3
theorem ok_law (T : Top K mg) {Pt_lw_whole_make : Addr} (TB_lw_whole_make : LamX.TabB base mg T.ca_lw_whole_make Pt_lw_whole_make) {Pt_lw_no_make : Addr} (TB_lw_no_make : LamX.TabB base mg T.ca_lw_no_make Pt_lw_no_make) {Pt_lw_once : Addr} (TB_lw_once : LamX.TabB base mg T.ca_lw_once Pt_lw_once) : FnOk P w K mg base CX0 10 T.f_law T.d_law ["_law_script"] (spLaw K Pt_lw_whole_make Pt_lw_no_make Pt_lw_once) := by
  refine T.F_law.ok sc_law (fun vs H Q E h => ?_) (fun cdv A outer s H vs Q E hr h => ?_)
  · obtain ⟨l, ns, rfl, _⟩ := h
    rfl
  · obtain ⟨l, ns, rfl, hl, hlen, hPw, hPn, hPo, hdist, kq⟩ := h
    refine ⟨_, (pss_cons (ps_set (i := 1) sc_law.nd rfl (by first | exact Or.inl rfl | exact Or.inr rfl) (pe_make0 T.K_Makes (ok_Makes_init T) (hr.mono (by decide)) rfl T.g_Makes T.b_Makes_init .nil pass0))
      (pss_cons (ps_set (i := 2) sc_law.nd rfl (by first | exact Or.inl rfl | exact Or.inr rfl) (pe_op op_cat (pe_lc (own := [("_law_cell_here", 3)]) rfl sc_law.nd (pi_list (pe_slice sl_list (pv 0) (po_some pe_int) (po_some pe_int))) (blkOk_by (own := [("_law_cell_here", 3)]) (N := ["_law_script", "_law_makes", "_law_cells", "_law_cell_here", "_law_k", "_law_kin", "_law_lines_here", "_law_number", "_law_share", "_law_far", "_law_start", "_law_broken"]) (sc := defScope s_law) (by decide +kernel)) (fun _ _ _ _ _ => (pg_name (i := 3) sc_law.nd rfl (by first | exact Or.inl rfl | exact Or.inr rfl))) (fun _ _ _ _ _ => pts_nil) (fun _ _ _ _ _ => (pe_call (ok_lw_mix T) (hr.mono (by decide)) (by rfl) T.m_lw_mix T.F_lw_mix.kp T.b_lw_mix .nil pass0 (pa_cons (pv 3) (pa_cons pe_int pa_nil))))) (pe_lc (own := [("_law_k", 4)]) rfl sc_law.nd (pi_range1 (by rfl) T.z_range (pa_cons pe_int pa_nil)) (blkOk_by (own := [("_law_k", 4)]) (N := ["_law_script", "_law_makes", "_law_cells", "_law_cell_here", "_law_k", "_law_kin", "_law_lines_here", "_law_number", "_law_share", "_law_far", "_law_start", "_law_broken"]) (sc := defScope s_law) (by decide +kernel)) (fun _ _ _ _ _ => (pg_name (i := 4) sc_law.nd rfl (by first | exact Or.inl rfl | exact Or.inr rfl))) (fun _ _ _ _ _ => pts_nil) (fun _ _ _ _ _ => (pe_call (ok_lw_mix T) (hr.mono (by decide)) (by rfl) T.m_lw_mix T.F_lw_mix.kp T.b_lw_mix .nil pass0 (pa_cons (pe_call (ok_lw_cell T) (hr.mono (by decide)) (by rfl) T.m_lw_cell T.F_lw_cell.kp T.b_lw_cell .nil pass0 (pa_cons (pv 0) (pa_cons pe_int pa_nil))) (pa_cons (pv 4) pa_nil)))))))
      (pss_cons (ps_set (i := 5) sc_law.nd rfl (by first | exact Or.inl rfl | exact Or.inr rfl) (pe_call (ok_lw_history T) (hr.mono (by decide)) (by rfl) T.m_lw_history T.F_lw_history.kp T.b_lw_history .nil pass0 (pa_cons (pv 1) (pa_cons (pv 2) pa_nil))))
      (pss_cons (ps_set (i := 6) sc_law.nd rfl (by first | exact Or.inl rfl | exact Or.inr rfl) (pe_call (ok_lw_lines T) (hr.mono (by decide)) (by rfl) T.m_lw_lines T.F_lw_lines.kp T.b_lw_lines .nil pass0 (pa_cons (pv 5) pa_nil)))
      (pss_cons (ps_set (i := 7) sc_law.nd rfl (by first | exact Or.inl rfl | exact Or.inr rfl) (pe_call (ok_lw_cell T) (hr.mono (by decide)) (by rfl) T.m_lw_cell T.F_lw_cell.kp T.b_lw_cell .nil pass0 (pa_cons (pv 0) (pa_cons pe_int pa_nil))))
      (pss_cons (ps_set (i := 8) sc_law.nd rfl (by first | exact Or.inl rfl | exact Or.inr rfl) (pe_op op_add pe_int (pe_op op_mod (pe_op op_fdiv (pv 7) pe_int) pe_int)))
      (pss_cons (ps_set (i := 9) sc_law.nd rfl (by first | exact Or.inl rfl | exact Or.inr rfl) (pe_op op_mod (pv 7) pe_int))
      (pss_cons (ps_if (PW.pt (pw_or (pt_not (pt_val (pe_call (ok_lw_no_make T TB_lw_no_make) (hr.mono (by decide)) (by rfl) T.m_lw_no_make T.F_lw_no_make.kp T.b_lw_no_make .nil pass0 (pa_cons (pv 1) (pa_cons (pe_op op_add (pe_callB call_len_seq (by rfl) T.z_len PySem.boot_len (pa_cons (pv 5) pa_nil)) (pv 9)) pa_nil))))) (pw_or1 (pt_not (pt_val (pe_call (ok_lw_no_make T TB_lw_no_make) (hr.mono (by decide)) (by rfl) T.m_lw_no_make T.F_lw_no_make.kp T.b_lw_no_make .nil pass0 (pa_cons (pv 1) (pa_cons (pe_op op_sub (pe_un un_neg pe_int) (pv 9)) pa_nil)))))))) (pss_one (ps_ret pe_bl)) pss_nil)
      (pss_cons (ps_for PassesOwn.never rfl (pi_list (pe_lst (pa_cons (pe_op op_sub (pe_callB call_len_seq (by rfl) T.z_len PySem.boot_len (pa_cons (pv 5) pa_nil)) pe_int) (pa_cons (pe_op op_mod (pv 7) (pe_callB call_len_seq (by rfl) T.z_len PySem.boot_len (pa_cons (pv 5) pa_nil))) (pa_cons pe_int pa_nil))))) (pg_name (i := 10) sc_law.nd rfl (by first | exact Or.inl rfl | exact Or.inr rfl))
      (pss_cons (ps_setLc (i := 11) (own := [("_law_k", 4)]) rfl sc_law.nd rfl rfl (sw_true rfl rfl rfl (by decide +kernel)) (pi_range1 (by rfl) T.z_range (pa_cons (pe_callB call_len_seq (by rfl) T.z_len PySem.boot_len (pa_cons (pv 5) pa_nil)) pa_nil)) (blkOk_by (own := [("_law_k", 4)]) (N := ["_law_script", "_law_makes", "_law_cells", "_law_cell_here", "_law_k", "_law_kin", "_law_lines_here", "_law_number", "_law_share", "_law_far", "_law_start", "_law_broken"]) (sc := defScope s_law) (by decide +kernel)) (fun _ _ _ _ _ => (pg_name (i := 4) sc_law.nd rfl (by first | exact Or.inl rfl | exact Or.inr rfl))) (fun _ _ _ _ _ => pts_nil) (fun _ _ _ _ _ => (pe_cmpR op_lt (pe_op op_mod (pe_call (ok_lw_mix T) (hr.mono (by decide)) (by rfl) T.m_lw_mix T.F_lw_mix.kp T.b_lw_mix .nil pass0 (pa_cons (pv 7) (pa_cons (pe_op op_add pe_int (pv 4)) pa_nil))) pe_int) (pv 8) (nomark _))))
      (pss_cons (ps_if (pt_cmpR op_gt (pe_op op_mod (pe_call (ok_lw_mix T) (hr.mono (by decide)) (by rfl) T.m_lw_mix T.F_lw_mix.kp T.b_lw_mix .nil pass0 (pa_cons (pe_call (ok_lw_cell T) (hr.mono (by decide)) (by rfl) T.m_lw_cell T.F_lw_cell.kp T.b_lw_cell .nil pass0 (pa_cons (pv 0) (pa_cons pe_int pa_nil))) (pa_cons (pv 10) pa_nil))) pe_int) pe_int (nomark _)) (pss_one (ps_asg pe_bl (pg_sub (pv 11) (pv 10) set_list))) pss_nil)
      (pss_one (ps_if (pt_not (pt_val (pe_call (ok_lw_searched T TB_lw_whole_make TB_lw_no_make TB_lw_once) (hr.mono (by decide)) (by rfl) T.m_lw_searched T.F_lw_searched.kp T.b_lw_searched .nil pass0 (pa_cons (pv 1) (pa_cons (pv 6) (pa_cons (pv 10) (pa_cons (pv 11) pa_nil))))))) (pss_one (ps_ret pe_bl)) pss_nil)))))
      (pss_one (ps_ret pe_bl))))))))))), ?_⟩
    intro p dx hp hdx ne
    refine ⟨p, dx, rfl, upd_same, fun H1 dk ds t u B1 hdk hds nkds ht M1 => ⟨rfl, ?_⟩⟩
    have s1 : Same H H1 := new_same hp hdx B1
    have fr : ∀ {a : Addr}, upd (upd H dx (.own p)) p (.ins T.c_Makes dx []) a = none → H a = none := fun {a} e => by
      have n1 : p ≠ a := fun z => by rw [← z, upd_same] at e; cases e
      have n2 : dx ≠ a := fun z => by rw [← z, upd_ne ne, upd_same] at e; cases e
      rw [upd_ne (Ne.symm n1), upd_ne (Ne.symm n2)] at e
      exact e
    -- the cells
    refine ⟨_, rfl, _, rfl, _, rfl, l, _, rfl, s1.seq hl, fun sl hsl => ⟨sl, rfl, ⟨_, SqL.of upd_same⟩, fun D hD => ?_⟩⟩
    have s2 : Same H1 (upd H1 sl (.lst (cutV (ns.map V.int) (some 3) (some 27)))) := same_upd hsl
    refine lc_list (K := K) (a := sl) (xs := cutV (ns.map V.int) (some 3) (some 27)) (fun i H3 => ∃ rs : List Int, Same (upd H1 sl (.lst (cutV (ns.map V.int) (some 3) (some 27)))) H3 ∧ H3 D = some (.lst (rs.map V.int)) ∧ rs.length = i ∧ ∀ r ∈ rs, 0 ≤ r) ⟨[], same_upd hD, upd_same, rfl, by simp⟩ (fun i H3 _ ⟨_, s3, _⟩ => SqL.of (s3 _ _ upd_same)) ?_ ?_
    · rintro i v H3 hi ⟨rs, s3, hD3, hrl, hr0⟩
      obtain ⟨c, hc, rfl⟩ := List.mem_map.mp (cut_mem (List.mem_of_getElem? hi))
      have hi40 : i < 24 := Nat.lt_of_lt_of_le (List.getElem?_eq_some_iff.mp hi).1 cut_len42
      refine ⟨rfl, lc_yes ?_⟩
      refine ⟨_, rfl, c, 1, rfl, fun r hr => ⟨_, hD3, by rw [List.length_map]; exact small1000 (by omega), rs ++ [r], s3.new hD, by rw [upd_same, List.map_append]; rfl, by simp [hrl], fun x hx => ?_⟩⟩
      rcases List.mem_append.mp hx with h | h
      · exact hr0 x h
      · obtain rfl : x = r := by simpa using h
        exact hr
    rintro H3 ⟨rs, s3, hD3, hrl, hr0⟩
    have hrl40 : rs.length ≤ 24 := by rw [hrl]; exact cut_len42
    have s13 : Same H1 H3 := s2.trans s3
    refine ⟨2, rfl, by decide, by decide, fun D2 hD2 => ?_⟩
    refine lc_range (fun i H4 => ∃ rs2 : List Int, Same H3 H4 ∧ H4 D2 = some (.lst (rs2.map V.int)) ∧ rs2.length = i ∧ ∀ r ∈ rs2, 0 ≤ r) ⟨[], same_upd hD2, upd_same, rfl, by simp⟩ ?_ ?_
    · rintro i H4 hi ⟨rs2, s4, hD4, hrl2, hr02⟩
      have hi2 : i < 2 := hi
      refine ⟨rfl, lc_yes ?_⟩
      refine ⟨_, rfl, l, 0, ns, rfl, by decide, (s1.trans (s13.trans s4)).seq hl, fun x => ⟨_, rfl, x, _, rfl, fun r hr => ⟨_, hD4, by rw [List.length_map]; exact small1000 (by omega), rs2 ++ [r], s4.new hD2, by rw [upd_same, List.map_append]; rfl, by simp [hrl2], fun y hy => ?_⟩⟩⟩
      rcases List.mem_append.mp hy with h | h
      · exact hr02 y h
      · obtain rfl : y = r := by simpa using h
        exact hr
    rintro H4 ⟨rs2, s4, hD4, hrl2, hr02⟩
    have hrl2' : rs2.length = 2 := hrl2
    have s14 : Same H1 H4 := s13.trans s4
    refine ⟨D, D2, _, _, rfl, rfl, s4 _ _ hD3, hD4, by rw [List.length_map, List.length_map]; exact small12 (by omega), fun cl hcl => ?_⟩
    have s5 : Same H1 (upd H4 cl (.lst (rs.map V.int ++ rs2.map V.int))) := s14.new (s14.free hcl)
    have hcl5 : (upd H4 cl (.lst (rs.map V.int ++ rs2.map V.int))) cl = some (.lst ((rs ++ rs2).map V.int)) := by rw [upd_same, List.map_append]
    generalize (upd H4 cl (.lst (rs.map V.int ++ rs2.map V.int))) = H5 at s5 hcl5 ⊢
    have s05 : Same H H5 := s1.trans s5
    -- the history
    refine ⟨_, rfl, _, rfl, p, dk, ds, t, u, cl, rs ++ rs2, rfl, M1.same s5, hcl5, fun c hc => (List.mem_append.mp hc).elim (hr0 c) (hr02 c), by rw [List.length_append]; omega, fun H6 kl lts ks ss n b6 hkl0 hkl hK hh hkl' M6 => ?_⟩
    have nfresh : ∀ {a : Addr} {o : HO}, H a = some o → a ∉ [p, dk, ds] := fun {a o} e => by
      simp only [List.mem_cons, List.not_mem_nil, or_false, not_or]
      exact ⟨ne_of_none e hp, ne_of_none e (fr hdk), ne_of_none e (fr hds)⟩
    have s06 : Same H H6 := fun a o e => b6 _ _ (s05 _ _ e) (nfresh e)
    have hksl : ks.length = rs.length + 3 := by rw [hkl', List.length_append]; omega
    have hlts : lts.length = ks.length := Paired.length hK
    refine ⟨_, rfl, kl, lts, ks, rfl, hkl, hK, hh, fun H7 ll qs ln s7 hll0 hll hqf hqs' L => ?_⟩
    have s07 := s06.trans s7
    refine ⟨_, rfl, l, 1, ns, rfl, by decide, s07.seq hl, fun x => ?_⟩
    have hTab : ∀ {P0 : Addr} {q0 : Str}, H P0 = some (.tbl #[]) → LamX.Tabs [(P0, q0)] H7 := fun {P0 q0} e y hy => by
      obtain rfl : y = (P0, q0) := List.mem_singleton.mp hy
      exact LamX.TabS.nil (s07 _ _ e)
    have Tw7 := hTab (q0 := QW) hPw
    have Tn7 := hTab (q0 := QN) hPn
    have To7 := hTab (q0 := QO) hPo
    obtain ⟨d1, d2, d3⟩ := hdist
    have M7 := M6.same s7
    -- the share, the makes that are not there
    refine ⟨_, rfl, _, _, rfl, rfl, ⟨by show (0:Int) < 97; decide, by show (97:Int) < 1073741824; decide⟩, _, _, rfl, rfl, (show (0 : Int) < 9 by decide), _, _, rfl, rfl, ?_⟩
    refine ⟨_, rfl, _, _, rfl, rfl, (show (0 : Int) < 1000 by decide), ?_⟩
    have f0 := Int.emod_nonneg x (show (1000 : Int) ≠ 0 by decide)
    refine ⟨_, rfl, _, rfl, kl, _, rfl, .inl (SqL.of (s7 _ _ hkl)), _, rfl, _, _, rfl, rfl, p, dk, ds, ks, ss, n, ln, _, rfl, M7, hh, L, fun m => ?_, Tn7, fun H8 b8 Tn8 => ⟨_, rfl, iteF ?_⟩⟩
    · have := hh.mem.mp m
      rw [List.length_map] at this
      omega
    have tb7 := tab_at Tn7
    have M8 := M7.tab b8 tb7
    refine ⟨_, rfl, _, rfl, _, rfl, _, _, rfl, rfl, p, dk, ds, ks, ss, n, ln, _, rfl, M8, hh, L, fun m => ?_, Tn8, fun H9 b9 Tn9 => ⟨_, rfl, iteF ?_⟩⟩
    · have := hh.mem.mp m
      omega
    have tb8 := tab_at Tn8
    have M9 := M8.tab b9 tb8
    have b79 : But [Pt_lw_no_make] H7 H9 := b8.trans b9
    have up9 : ∀ {a : Addr} {o : HO}, H7 a = some o → (∀ q, o ≠ .tbl q) → H9 a = some o := fun e m => up_tab b79 tb7 e m
    have Tw9 := tabs_other Tw7 b79 tb7 (by simpa using d1)
    have To9 := tabs_other To7 b79 tb7 (by simpa using Ne.symm d3)
    have hl7 := s07.seq hl
    have hl9 := seq_tab hl7 b79 tb7
    have hkl9 := up9 (s7 _ _ hkl) (fun _ z => by cases z)
    have hll9 := up9 hll (fun _ z => by cases z)
    have hqs9 := hqs'.tab b79 tb7
    have hlen3 : 0 < ks.length := by omega
    have ek : (((lts.map V.ref).length : Nat) : Int) = (ks.length : Int) := by rw [List.length_map, hlts]
    refine ⟨_, rfl, kl, _, rfl, .inl (SqL.of hkl9), _, _, rfl, rfl, _, rfl, _, rfl, kl, _, rfl, .inl (SqL.of hkl9), _, _, rfl, rfl, (by show (0 : Int) < (((lts.map V.ref).length : Nat) : Int); omega), (by show 3 ≤ sizeLine; decide), fun sl2 hsl2 => ⟨sl2, rfl, ⟨_, SqL.of upd_same⟩, ?_⟩⟩
    have s9 : Same H9 (upd H9 sl2 (.lst [.int ((((lts.map V.ref).length : Nat) : Int) - 1), .int (x % (((lts.map V.ref).length : Nat) : Int)), .int 0])) := same_upd hsl2
    have st0 := Int.emod_nonneg x (show (((lts.map V.ref).length : Nat) : Int) ≠ 0 by omega)
    have st1 := Int.emod_lt_of_pos x (show (0 : Int) < (((lts.map V.ref).length : Nat) : Int) by omega)
    refine for_list (K := K) (a := sl2) (xs := [V.int ((((lts.map V.ref).length : Nat) : Int) - 1), .int (x % (((lts.map V.ref).length : Nat) : Int)), .int 0]) (fun i σ Hi => ∃ y10 y11, σ = [some (.ref l), some (.ref p), some (.ref cl), none, none, some (.ref kl), some (.ref ll), some (.int x), some (.int (1 + x / 97 % 9)), some (.int (x % 1000)), y10, y11] ∧
        MakesAt T.c_Makes Hi p dk ds ks ss n ∧ SqL K Hi l (ns.map V.int) ∧ Hi kl = some (.lst (lts.map V.ref)) ∧ Hi ll = some (.lst (qs.map V.ref)) ∧ LineL Hi ln qs ks.length ∧ Hi sl2 = some (.lst [.int ((((lts.map V.ref).length : Nat) : Int) - 1), .int (x % (((lts.map V.ref).length : Nat) : Int)), .int 0]) ∧ LamX.Tabs [(Pt_lw_whole_make, QW)] Hi ∧ LamX.Tabs [(Pt_lw_once, QO)] Hi)
      ⟨none, none, rfl, M9.same s9, s9.seq hl9, s9 _ _ hkl9, s9 _ _ hll9, hqs9.same s9, upd_same, Tw9.ext s9, To9.ext s9⟩ (fun i σ Hi _ ⟨_, _, _, _, _, _, _, _, h, _⟩ => SqL.of h) ?_ ?_
    · rintro i v σ Hi hi ⟨y10, y11, rfl, Mi, hli, hkli, hlli, hqsi, hsli, Twi, Toi⟩
      obtain ⟨start, rfl, hs0, hs1⟩ : ∃ start : Int, v = .int start ∧ 0 ≤ start ∧ start < (ks.length : Int) := by
        have hm := List.mem_of_getElem? hi
        simp only [List.mem_cons, List.not_mem_nil, or_false] at hm
        rcases hm with rfl | rfl | rfl
        · exact ⟨_, rfl, by omega, by omega⟩
        · exact ⟨_, rfl, st0, by omega⟩
        · exact ⟨0, rfl, by omega, by omega⟩
      refine ⟨_, rfl, kl, _, rfl, .inl (SqL.of hkli), _, rfl, by omega, by omega, fun bl hbl => ?_⟩
      have hm : ((((lts.map V.ref).length : Nat) : Int)).toNat = ks.length := by omega
      rw [hm]
      refine lc_range (fun i H8 => ∃ bs : List Bool, Same Hi H8 ∧ H8 bl = some (.lst (bs.map V.bl)) ∧ bs.length = i) ⟨[], same_upd hbl, upd_same, rfl⟩ ?_ ?_
      · rintro i H8 hi ⟨bs, s8, hb8, hbs⟩
        refine ⟨rfl, lc_yes ?_⟩
        refine ⟨_, rfl, _, rfl, _, _, rfl, rfl, x, _, rfl, fun r hr => ⟨_, _, rfl, rfl, (show (0 : Int) < 10 by decide), _, rfl, _, _, rfl, rfl, ?_⟩⟩
        refine ⟨_, hb8, by rw [List.length_map]; exact small1000 (by have := hh.len; omega), bs ++ [_], s8.new hbl, by rw [upd_same, List.map_append]; rfl, by simp [hbs]⟩
      rintro Hj ⟨bs, sj, hbj, hbs⟩
      refine ⟨_, rfl, l, 2, ns, rfl, by decide, sj.seq hli, fun x2 => ⟨_, rfl, x2, _, rfl, fun r hr => ⟨_, _, rfl, rfl, (show (0 : Int) < 10 by decide), _, _, rfl, rfl, _, rfl, ?_⟩⟩⟩
      refine if_nx (fun σ' H' => ∃ bs' : List Bool, σ' = [some (.ref l), some (.ref p), some (.ref cl), none, none, some (.ref kl), some (.ref ll), some (.int x), some (.int (1 + x / 97 % 9)), some (.int (x % 1000)), some (.int start), some (.ref bl)] ∧ Same Hi H' ∧ H' bl = some (.lst (bs'.map V.bl)) ∧ bs'.length = ks.length) ?_ (fun kk _ => ?_) fun kk _ => ?_
      rotate_left
      · refine ⟨_, rfl, _, rfl, bl, _, start, start.toNat, rfl, rfl, hbj, ix_nat hs0 (by rw [show (bs.map V.bl).length = ks.length from by rw [List.length_map]; exact hbs]; exact hs1), ?_⟩
        exact kk _ _ ⟨bs.set start.toNat true, rfl, sj.new hbl, by rw [upd_same, List.map_set], by rw [List.length_set]; exact hbs⟩
      · exact kk _ _ ⟨bs, rfl, sj, hbj, hbs⟩
      rintro σk Hk ⟨bs', rfl, sk, hbk, hbs'⟩
      refine ⟨_, rfl, _, rfl, _, rfl, _, rfl, p, dk, ds, ks, ss, n, ll, qs, ln, start, bl, bs', rfl, Mi.same sk, hh, L, sk _ _ hlli, hqsi.same sk, hbk, hbs', hh.mem.mpr ⟨hs0, hs1⟩, Twi.ext sk, Toi.ext sk, d2, fun Hm bm Twm Tom => ⟨_, rfl, iteF ?_⟩⟩
      have tbk : ∀ y ∈ [Pt_lw_whole_make, Pt_lw_once], ∃ ps, Hk y = some (.tbl ps) := fun y hy => by
        simp only [List.mem_cons, List.not_mem_nil, or_false] at hy
        rcases hy with rfl | rfl
        · exact tab_at (Twi.ext sk) _ (by simp)
        · exact tab_at (Toi.ext sk) _ (by simp)
      exact ⟨_, _, rfl, (Mi.same sk).tab bm tbk, seq_tab (sk.seq hli) bm tbk, up_tab bm tbk (sk _ _ hkli) (fun _ z => by cases z), up_tab bm tbk (sk _ _ hlli) (fun _ z => by cases z), (hqsi.same sk).tab bm tbk, up_tab bm tbk (sk _ _ hsli) (fun _ z => by cases z), Twm, Tom⟩
    · rintro σ Hi _
      exact kq Hi
end
end Z
namespace Z
open PySem PySem.Spec PyProof.Rows L2
theorem all_mk {l : PySem.W.OpenLaw} {w : World} {K : PySem.W.Frag} {h : Heap} {mg : Str → Option Value} {fa : Addr} (X : K.In h) (G : h.Ns mainGlobals mg) (hfa : mg "law" = some (.ref fa)) {c_BadElders : Addr} {c_NoMake : Addr} {nm_NoMake : Str} {qn_NoMake : Str} {N_NoMake : Addr} {bs_NoMake : List Value} {bm_NoMake : List Value} {sn_NoMake : List Str} {sub_NoMake : List Value} {ab_NoMake : Bool} {col_NoMake : Option Bool} {dd_NoMake : Option Addr} {k0_NoMake : Option Value} {k1_NoMake : Option Value} {k2_NoMake : Option Value} {k3_NoMake : Option Value} {k5_NoMake : Option Value} {c_NotBroken : Addr} {nm_NotBroken : Str} {qn_NotBroken : Str} {N_NotBroken : Addr} {bs_NotBroken : List Value} {bm_NotBroken : List Value} {sn_NotBroken : List Str} {sub_NotBroken : List Value} {ab_NotBroken : Bool} {col_NotBroken : Option Bool} {dd_NotBroken : Option Addr} {k0_NotBroken : Option Value} {k1_NotBroken : Option Value} {k2_NotBroken : Option Value} {k3_NotBroken : Option Value} {k5_NotBroken : Option Value} {c_Makes : Addr} {f_NoMake_init : Addr} {od_NoMake_init : Option Addr} {an_NoMake_init : Option Addr} {sl_NoMake_init : Array (Option Value)} {oc_NoMake_init : Value} {kV_NoMake_init : Value} {dc_NoMake_init : Value} {pm_NoMake_init : Value} {cd_NoMake_init : Value} {ct_NoMake_init : Value} {f_NotBroken_init : Addr} {od_NotBroken_init : Option Addr} {an_NotBroken_init : Option Addr} {sl_NotBroken_init : Array (Option Value)} {oc_NotBroken_init : Value} {kV_NotBroken_init : Value} {dc_NotBroken_init : Value} {pm_NotBroken_init : Value} {cd_NotBroken_init : Value} {ct_NotBroken_init : Value} {f_greater_part : Addr} {od_greater_part : Option Addr} {an_greater_part : Option Addr} {sl_greater_part : Array (Option Value)} {oc_greater_part : Value} {kV_greater_part : Value} {dc_greater_part : Value} {pm_greater_part : Value} {cd_greater_part : Value} {ct_greater_part : Value} {f_next_asked : Addr} {od_next_asked : Option Addr} {an_next_asked : Option Addr} {sl_next_asked : Array (Option Value)} {oc_next_asked : Value} {kV_next_asked : Value} {dc_next_asked : Value} {pm_next_asked : Value} {cd_next_asked : Value} {ct_next_asked : Value} {f_first_broken : Addr} {od_first_broken : Option Addr} {an_first_broken : Option Addr} {sl_first_broken : Array (Option Value)} {oc_first_broken : Value} {kV_first_broken : Value} {dc_first_broken : Value} {pm_first_broken : Value} {cd_first_broken : Value} {ct_first_broken : Value} {f_no_table : Addr} {od_no_table : Option Addr} {an_no_table : Option Addr} {sl_no_table : Array (Option Value)} {oc_no_table : Value} {kV_no_table : Value} {dc_no_table : Value} {pm_no_table : Value} {cd_no_table : Value} {ct_no_table : Value} {f_Makes_init : Addr} {od_Makes_init : Option Addr} {an_Makes_init : Option Addr} {sl_Makes_init : Array (Option Value)} {oc_Makes_init : Value} {kV_Makes_init : Value} {dc_Makes_init : Value} {pm_Makes_init : Value} {cd_Makes_init : Value} {ct_Makes_init : Value} {f_Makes_need : Addr} {od_Makes_need : Option Addr} {an_Makes_need : Option Addr} {sl_Makes_need : Array (Option Value)} {oc_Makes_need : Value} {kV_Makes_need : Value} {dc_Makes_need : Value} {pm_Makes_need : Value} {cd_Makes_need : Value} {ct_Makes_need : Value} {f_Makes_made : Addr} {od_Makes_made : Option Addr} {an_Makes_made : Option Addr} {sl_Makes_made : Array (Option Value)} {oc_Makes_made : Value} {kV_Makes_made : Value} {dc_Makes_made : Value} {pm_Makes_made : Value} {cd_Makes_made : Value} {ct_Makes_made : Value} {f_Makes_elders : Addr} {od_Makes_elders : Option Addr} {an_Makes_elders : Option Addr} {sl_Makes_elders : Array (Option Value)} {oc_Makes_elders : Value} {kV_Makes_elders : Value} {dc_Makes_elders : Value} {pm_Makes_elders : Value} {cd_Makes_elders : Value} {ct_Makes_elders : Value} {f_Makes_line : Addr} {od_Makes_line : Option Addr} {an_Makes_line : Option Addr} {sl_Makes_line : Array (Option Value)} {oc_Makes_line : Value} {kV_Makes_line : Value} {dc_Makes_line : Value} {pm_Makes_line : Value} {cd_Makes_line : Value} {ct_Makes_line : Value} {f_Makes_numbers : Addr} {od_Makes_numbers : Option Addr} {an_Makes_numbers : Option Addr} {sl_Makes_numbers : Array (Option Value)} {oc_Makes_numbers : Value} {kV_Makes_numbers : Value} {dc_Makes_numbers : Value} {pm_Makes_numbers : Value} {cd_Makes_numbers : Value} {ct_Makes_numbers : Value} {f_lw_cell : Addr} {od_lw_cell : Option Addr} {an_lw_cell : Option Addr} {sl_lw_cell : Array (Option Value)} {oc_lw_cell : Value} {kV_lw_cell : Value} {dc_lw_cell : Value} {pm_lw_cell : Value} {cd_lw_cell : Value} {ct_lw_cell : Value} {f_lw_whole : Addr} {od_lw_whole : Option Addr} {an_lw_whole : Option Addr} {sl_lw_whole : Array (Option Value)} {oc_lw_whole : Value} {kV_lw_whole : Value} {dc_lw_whole : Value} {pm_lw_whole : Value} {cd_lw_whole : Value} {ct_lw_whole : Value} {f_lw_mix : Addr} {od_lw_mix : Option Addr} {an_lw_mix : Option Addr} {sl_lw_mix : Array (Option Value)} {oc_lw_mix : Value} {kV_lw_mix : Value} {dc_lw_mix : Value} {pm_lw_mix : Value} {cd_lw_mix : Value} {ct_lw_mix : Value} {f_lw_elders : Addr} {od_lw_elders : Option Addr} {an_lw_elders : Option Addr} {sl_lw_elders : Array (Option Value)} {oc_lw_elders : Value} {kV_lw_elders : Value} {dc_lw_elders : Value} {pm_lw_elders : Value} {cd_lw_elders : Value} {ct_lw_elders : Value} {f_lw_lines : Addr} {od_lw_lines : Option Addr} {an_lw_lines : Option Addr} {sl_lw_lines : Array (Option Value)} {oc_lw_lines : Value} {kV_lw_lines : Value} {dc_lw_lines : Value} {pm_lw_lines : Value} {cd_lw_lines : Value} {ct_lw_lines : Value} {f_lw_history : Addr} {od_lw_history : Option Addr} {an_lw_history : Option Addr} {sl_lw_history : Array (Option Value)} {oc_lw_history : Value} {kV_lw_history : Value} {dc_lw_history : Value} {pm_lw_history : Value} {cd_lw_history : Value} {ct_lw_history : Value} {f_lw_say : Addr} {od_lw_say : Option Addr} {an_lw_say : Option Addr} {sl_lw_say : Array (Option Value)} {oc_lw_say : Value} {kV_lw_say : Value} {dc_lw_say : Value} {pm_lw_say : Value} {cd_lw_say : Value} {ct_lw_say : Value} {f_lw_next : Addr} {od_lw_next : Option Addr} {an_lw_next : Option Addr} {sl_lw_next : Array (Option Value)} {oc_lw_next : Value} {kV_lw_next : Value} {dc_lw_next : Value} {pm_lw_next : Value} {cd_lw_next : Value} {ct_lw_next : Value} {f_lw_due : Addr} {od_lw_due : Option Addr} {an_lw_due : Option Addr} {sl_lw_due : Array (Option Value)} {oc_lw_due : Value} {kV_lw_due : Value} {dc_lw_due : Value} {pm_lw_due : Value} {cd_lw_due : Value} {ct_lw_due : Value} {f_lw_found : Addr} {od_lw_found : Option Addr} {an_lw_found : Option Addr} {sl_lw_found : Array (Option Value)} {oc_lw_found : Value} {kV_lw_found : Value} {dc_lw_found : Value} {pm_lw_found : Value} {cd_lw_found : Value} {ct_lw_found : Value} {f_lw_whole_make : Addr} {od_lw_whole_make : Option Addr} {an_lw_whole_make : Option Addr} {sl_lw_whole_make : Array (Option Value)} {oc_lw_whole_make : Value} {kV_lw_whole_make : Value} {dc_lw_whole_make : Value} {pm_lw_whole_make : Value} {ct_lw_whole_make : Value} {ca_lw_whole_make : Addr} {f_lw_no_make : Addr} {od_lw_no_make : Option Addr} {an_lw_no_make : Option Addr} {sl_lw_no_make : Array (Option Value)} {oc_lw_no_make : Value} {kV_lw_no_make : Value} {dc_lw_no_make : Value} {pm_lw_no_make : Value} {ct_lw_no_make : Value} {ca_lw_no_make : Addr} {f_lw_once : Addr} {od_lw_once : Option Addr} {an_lw_once : Option Addr} {sl_lw_once : Array (Option Value)} {oc_lw_once : Value} {kV_lw_once : Value} {dc_lw_once : Value} {pm_lw_once : Value} {ct_lw_once : Value} {ca_lw_once : Addr} {f_lw_searched : Addr} {od_lw_searched : Option Addr} {an_lw_searched : Option Addr} {sl_lw_searched : Array (Option Value)} {oc_lw_searched : Value} {kV_lw_searched : Value} {dc_lw_searched : Value} {pm_lw_searched : Value} {cd_lw_searched : Value} {ct_lw_searched : Value} {f_law : Addr} {od_law : Option Addr} {an_law : Option Addr} {sl_law : Array (Option Value)} {oc_law : Value} {kV_law : Value} {dc_law : Value} {pm_law : Value} {cd_law : Value} {ct_law : Value} {Pt_lw_whole_make : Addr} {Pt_lw_no_make : Addr} {Pt_lw_once : Addr}
    (aC_BadElders : PySem.W.nsIn K mainGlobals "BadElders" = some (some (.ref c_BadElders)))
    (q_BadElders : PySem.W.keepIn K (.ref c_BadElders) = true)
    (e_BadElders : PySem.W.subIn K (.ref c_BadElders) (.type "BaseException") = some true)
    (y_BadElders : PySem.W.typeIn K (.ref c_BadElders) = some (.type "type"))
    (x_BadElders : PySem.W.excIn K c_BadElders [.type "ValueError", .type "Exception", .type "BaseException", .type "object"] "ValueError.__new__" = true)
    (aC_NoMake : PySem.W.nsIn K mainGlobals "NoMake" = some (some (.ref c_NoMake)))
    (q_NoMake : PySem.W.keepIn K (.ref c_NoMake) = true)
    (e_NoMake : PySem.W.subIn K (.ref c_NoMake) (.type "BaseException") = some true)
    (y_NoMake : PySem.W.typeIn K (.ref c_NoMake) = some (.type "type"))
    (i_NoMake : PySem.W.findIn K (.ref c_NoMake) "__init__" = some (some (.ref f_NoMake_init)))
    (t_NoMake : PySem.W.typeIn K (.ref f_NoMake_init) = some (.type "function"))
    (l_NoMake : K.lookup c_NoMake = some (excClassObj nm_NoMake qn_NoMake c_NoMake N_NoMake bs_NoMake bm_NoMake true sn_NoMake sub_NoMake ab_NoMake col_NoMake dd_NoMake k0_NoMake k1_NoMake k2_NoMake k3_NoMake k5_NoMake "ValueError.__new__"))
    (r_NoMake : PySem.HandSPX.refsVE bm_NoMake = true)
    (sa_NoMake : PySem.W.findIn K (.ref c_NoMake) "__setattr__" = some (some (.builtin "object.__setattr__")))
    (n_NoMake_number : PySem.W.findIn K (.ref c_NoMake) "number" = some none)
    (aC_NotBroken : PySem.W.nsIn K mainGlobals "NotBroken" = some (some (.ref c_NotBroken)))
    (q_NotBroken : PySem.W.keepIn K (.ref c_NotBroken) = true)
    (e_NotBroken : PySem.W.subIn K (.ref c_NotBroken) (.type "BaseException") = some true)
    (y_NotBroken : PySem.W.typeIn K (.ref c_NotBroken) = some (.type "type"))
    (i_NotBroken : PySem.W.findIn K (.ref c_NotBroken) "__init__" = some (some (.ref f_NotBroken_init)))
    (t_NotBroken : PySem.W.typeIn K (.ref f_NotBroken_init) = some (.type "function"))
    (l_NotBroken : K.lookup c_NotBroken = some (excClassObj nm_NotBroken qn_NotBroken c_NotBroken N_NotBroken bs_NotBroken bm_NotBroken true sn_NotBroken sub_NotBroken ab_NotBroken col_NotBroken dd_NotBroken k0_NotBroken k1_NotBroken k2_NotBroken k3_NotBroken k5_NotBroken "ValueError.__new__"))
    (r_NotBroken : PySem.HandSPX.refsVE bm_NotBroken = true)
    (sa_NotBroken : PySem.W.findIn K (.ref c_NotBroken) "__setattr__" = some (some (.builtin "object.__setattr__")))
    (n_NotBroken_number : PySem.W.findIn K (.ref c_NotBroken) "number" = some none)
    (aC_Makes : PySem.W.nsIn K mainGlobals "Makes" = some (some (.ref c_Makes)))
    (pg_Makes : PySem.W.plainGet K c_Makes Str.empty = true)
    (hd_Makes : PySem.W.hasDictIn K c_Makes = true)
    (po_Makes : PySem.W.plainOver K c_Makes = true)
    (sa_Makes : PySem.W.findIn K (.ref c_Makes) "__setattr__" = some (some (.builtin "object.__setattr__")))
    (mk_Makes : PySem.W.makesIn K c_Makes = true)
    (kc_Makes : PySem.W.keepIn K (.ref c_Makes) = true)
    (ai_Makes : PySem.W.findIn K (.ref c_Makes) "__init__" = some (some (.ref f_Makes_init)))
    (ii_Makes : PySem.W.isFn K (.ref f_Makes_init) = true)
    (am_Makes_need : PySem.W.findIn K (.ref c_Makes) "need" = some (some (.ref f_Makes_need)))
    (im_Makes_need : PySem.W.isFn K (.ref f_Makes_need) = true)
    (am_Makes_made : PySem.W.findIn K (.ref c_Makes) "made" = some (some (.ref f_Makes_made)))
    (im_Makes_made : PySem.W.isFn K (.ref f_Makes_made) = true)
    (am_Makes_elders : PySem.W.findIn K (.ref c_Makes) "elders" = some (some (.ref f_Makes_elders)))
    (im_Makes_elders : PySem.W.isFn K (.ref f_Makes_elders) = true)
    (am_Makes_line : PySem.W.findIn K (.ref c_Makes) "line" = some (some (.ref f_Makes_line)))
    (im_Makes_line : PySem.W.isFn K (.ref f_Makes_line) = true)
    (am_Makes_numbers : PySem.W.findIn K (.ref c_Makes) "numbers" = some (some (.ref f_Makes_numbers)))
    (im_Makes_numbers : PySem.W.isFn K (.ref f_Makes_numbers) = true)
    (n_Makes_kin : PySem.W.findIn K (.ref c_Makes) "kin" = some none)
    (n_Makes_states : PySem.W.findIn K (.ref c_Makes) "states" = some none)
    (n_Makes_count : PySem.W.findIn K (.ref c_Makes) "count" = some none)
    (l_NoMake_init : K.lookup f_NoMake_init = some ⟨oc_NoMake_init, od_NoMake_init, .func (PySem.W.fnOf "__init__" "NoMake.__init__" (defArgs s_NoMake_init) (defBody s_NoMake_init) (defScope s_NoMake_init) .none kV_NoMake_init dc_NoMake_init pm_NoMake_init an_NoMake_init cd_NoMake_init ct_NoMake_init), sl_NoMake_init⟩)
    (cc_NoMake_init : PySem.W.codeIn K cd_NoMake_init "NoMake.__init__" = true)
    (kp_NoMake_init : PySem.W.keepIn K (.ref f_NoMake_init) = true)
    (l_NotBroken_init : K.lookup f_NotBroken_init = some ⟨oc_NotBroken_init, od_NotBroken_init, .func (PySem.W.fnOf "__init__" "NotBroken.__init__" (defArgs s_NotBroken_init) (defBody s_NotBroken_init) (defScope s_NotBroken_init) .none kV_NotBroken_init dc_NotBroken_init pm_NotBroken_init an_NotBroken_init cd_NotBroken_init ct_NotBroken_init), sl_NotBroken_init⟩)
    (cc_NotBroken_init : PySem.W.codeIn K cd_NotBroken_init "NotBroken.__init__" = true)
    (kp_NotBroken_init : PySem.W.keepIn K (.ref f_NotBroken_init) = true)
    (am_greater_part : PySem.W.nsIn K mainGlobals "greater_part" = some (some (.ref f_greater_part)))
    (l_greater_part : K.lookup f_greater_part = some ⟨oc_greater_part, od_greater_part, .func (PySem.W.fnOf "greater_part" "greater_part" (defArgs s_greater_part) (defBody s_greater_part) (defScope s_greater_part) .none kV_greater_part dc_greater_part pm_greater_part an_greater_part cd_greater_part ct_greater_part), sl_greater_part⟩)
    (cc_greater_part : PySem.W.codeIn K cd_greater_part "greater_part" = true)
    (kp_greater_part : PySem.W.keepIn K (.ref f_greater_part) = true)
    (am_next_asked : PySem.W.nsIn K mainGlobals "next_asked" = some (some (.ref f_next_asked)))
    (l_next_asked : K.lookup f_next_asked = some ⟨oc_next_asked, od_next_asked, .func (PySem.W.fnOf "next_asked" "next_asked" (defArgs s_next_asked) (defBody s_next_asked) (defScope s_next_asked) .none kV_next_asked dc_next_asked pm_next_asked an_next_asked cd_next_asked ct_next_asked), sl_next_asked⟩)
    (cc_next_asked : PySem.W.codeIn K cd_next_asked "next_asked" = true)
    (kp_next_asked : PySem.W.keepIn K (.ref f_next_asked) = true)
    (am_first_broken : PySem.W.nsIn K mainGlobals "first_broken" = some (some (.ref f_first_broken)))
    (l_first_broken : K.lookup f_first_broken = some ⟨oc_first_broken, od_first_broken, .func (PySem.W.fnOf "first_broken" "first_broken" (defArgs s_first_broken) (defBody s_first_broken) (defScope s_first_broken) .none kV_first_broken dc_first_broken pm_first_broken an_first_broken cd_first_broken ct_first_broken), sl_first_broken⟩)
    (cc_first_broken : PySem.W.codeIn K cd_first_broken "first_broken" = true)
    (kp_first_broken : PySem.W.keepIn K (.ref f_first_broken) = true)
    (am_no_table : PySem.W.nsIn K mainGlobals "no_table" = some (some (.ref f_no_table)))
    (l_no_table : K.lookup f_no_table = some ⟨oc_no_table, od_no_table, .func (PySem.W.fnOf "no_table" "no_table" (defArgs s_no_table) (defBody s_no_table) (defScope s_no_table) .none kV_no_table dc_no_table pm_no_table an_no_table cd_no_table ct_no_table), sl_no_table⟩)
    (cc_no_table : PySem.W.codeIn K cd_no_table "no_table" = true)
    (kp_no_table : PySem.W.keepIn K (.ref f_no_table) = true)
    (l_Makes_init : K.lookup f_Makes_init = some ⟨oc_Makes_init, od_Makes_init, .func (PySem.W.fnOf "__init__" "Makes.__init__" (defArgs s_Makes_init) (defBody s_Makes_init) (defScope s_Makes_init) .none kV_Makes_init dc_Makes_init pm_Makes_init an_Makes_init cd_Makes_init ct_Makes_init), sl_Makes_init⟩)
    (cc_Makes_init : PySem.W.codeIn K cd_Makes_init "Makes.__init__" = true)
    (kp_Makes_init : PySem.W.keepIn K (.ref f_Makes_init) = true)
    (l_Makes_need : K.lookup f_Makes_need = some ⟨oc_Makes_need, od_Makes_need, .func (PySem.W.fnOf "need" "Makes.need" (defArgs s_Makes_need) (defBody s_Makes_need) (defScope s_Makes_need) .none kV_Makes_need dc_Makes_need pm_Makes_need an_Makes_need cd_Makes_need ct_Makes_need), sl_Makes_need⟩)
    (cc_Makes_need : PySem.W.codeIn K cd_Makes_need "Makes.need" = true)
    (kp_Makes_need : PySem.W.keepIn K (.ref f_Makes_need) = true)
    (l_Makes_made : K.lookup f_Makes_made = some ⟨oc_Makes_made, od_Makes_made, .func (PySem.W.fnOf "made" "Makes.made" (defArgs s_Makes_made) (defBody s_Makes_made) (defScope s_Makes_made) .none kV_Makes_made dc_Makes_made pm_Makes_made an_Makes_made cd_Makes_made ct_Makes_made), sl_Makes_made⟩)
    (cc_Makes_made : PySem.W.codeIn K cd_Makes_made "Makes.made" = true)
    (kp_Makes_made : PySem.W.keepIn K (.ref f_Makes_made) = true)
    (l_Makes_elders : K.lookup f_Makes_elders = some ⟨oc_Makes_elders, od_Makes_elders, .func (PySem.W.fnOf "elders" "Makes.elders" (defArgs s_Makes_elders) (defBody s_Makes_elders) (defScope s_Makes_elders) .none kV_Makes_elders dc_Makes_elders pm_Makes_elders an_Makes_elders cd_Makes_elders ct_Makes_elders), sl_Makes_elders⟩)
    (cc_Makes_elders : PySem.W.codeIn K cd_Makes_elders "Makes.elders" = true)
    (kp_Makes_elders : PySem.W.keepIn K (.ref f_Makes_elders) = true)
    (l_Makes_line : K.lookup f_Makes_line = some ⟨oc_Makes_line, od_Makes_line, .func (PySem.W.fnOf "line" "Makes.line" (defArgs s_Makes_line) (defBody s_Makes_line) (defScope s_Makes_line) .none kV_Makes_line dc_Makes_line pm_Makes_line an_Makes_line cd_Makes_line ct_Makes_line), sl_Makes_line⟩)
    (cc_Makes_line : PySem.W.codeIn K cd_Makes_line "Makes.line" = true)
    (kp_Makes_line : PySem.W.keepIn K (.ref f_Makes_line) = true)
    (l_Makes_numbers : K.lookup f_Makes_numbers = some ⟨oc_Makes_numbers, od_Makes_numbers, .func (PySem.W.fnOf "numbers" "Makes.numbers" (defArgs s_Makes_numbers) (defBody s_Makes_numbers) (defScope s_Makes_numbers) .none kV_Makes_numbers dc_Makes_numbers pm_Makes_numbers an_Makes_numbers cd_Makes_numbers ct_Makes_numbers), sl_Makes_numbers⟩)
    (cc_Makes_numbers : PySem.W.codeIn K cd_Makes_numbers "Makes.numbers" = true)
    (kp_Makes_numbers : PySem.W.keepIn K (.ref f_Makes_numbers) = true)
    (am_lw_cell : PySem.W.nsIn K mainGlobals "_law_cell" = some (some (.ref f_lw_cell)))
    (l_lw_cell : K.lookup f_lw_cell = some ⟨oc_lw_cell, od_lw_cell, .func (PySem.W.fnOf "_law_cell" "_law_cell" (defArgs s_lw_cell) (defBody s_lw_cell) (defScope s_lw_cell) .none kV_lw_cell dc_lw_cell pm_lw_cell an_lw_cell cd_lw_cell ct_lw_cell), sl_lw_cell⟩)
    (cc_lw_cell : PySem.W.codeIn K cd_lw_cell "_law_cell" = true)
    (kp_lw_cell : PySem.W.keepIn K (.ref f_lw_cell) = true)
    (am_lw_whole : PySem.W.nsIn K mainGlobals "_law_whole" = some (some (.ref f_lw_whole)))
    (l_lw_whole : K.lookup f_lw_whole = some ⟨oc_lw_whole, od_lw_whole, .func (PySem.W.fnOf "_law_whole" "_law_whole" (defArgs s_lw_whole) (defBody s_lw_whole) (defScope s_lw_whole) .none kV_lw_whole dc_lw_whole pm_lw_whole an_lw_whole cd_lw_whole ct_lw_whole), sl_lw_whole⟩)
    (cc_lw_whole : PySem.W.codeIn K cd_lw_whole "_law_whole" = true)
    (kp_lw_whole : PySem.W.keepIn K (.ref f_lw_whole) = true)
    (am_lw_mix : PySem.W.nsIn K mainGlobals "_law_mix" = some (some (.ref f_lw_mix)))
    (l_lw_mix : K.lookup f_lw_mix = some ⟨oc_lw_mix, od_lw_mix, .func (PySem.W.fnOf "_law_mix" "_law_mix" (defArgs s_lw_mix) (defBody s_lw_mix) (defScope s_lw_mix) .none kV_lw_mix dc_lw_mix pm_lw_mix an_lw_mix cd_lw_mix ct_lw_mix), sl_lw_mix⟩)
    (cc_lw_mix : PySem.W.codeIn K cd_lw_mix "_law_mix" = true)
    (kp_lw_mix : PySem.W.keepIn K (.ref f_lw_mix) = true)
    (am_lw_elders : PySem.W.nsIn K mainGlobals "_law_elders" = some (some (.ref f_lw_elders)))
    (l_lw_elders : K.lookup f_lw_elders = some ⟨oc_lw_elders, od_lw_elders, .func (PySem.W.fnOf "_law_elders" "_law_elders" (defArgs s_lw_elders) (defBody s_lw_elders) (defScope s_lw_elders) .none kV_lw_elders dc_lw_elders pm_lw_elders an_lw_elders cd_lw_elders ct_lw_elders), sl_lw_elders⟩)
    (cc_lw_elders : PySem.W.codeIn K cd_lw_elders "_law_elders" = true)
    (kp_lw_elders : PySem.W.keepIn K (.ref f_lw_elders) = true)
    (am_lw_lines : PySem.W.nsIn K mainGlobals "_law_lines" = some (some (.ref f_lw_lines)))
    (l_lw_lines : K.lookup f_lw_lines = some ⟨oc_lw_lines, od_lw_lines, .func (PySem.W.fnOf "_law_lines" "_law_lines" (defArgs s_lw_lines) (defBody s_lw_lines) (defScope s_lw_lines) .none kV_lw_lines dc_lw_lines pm_lw_lines an_lw_lines cd_lw_lines ct_lw_lines), sl_lw_lines⟩)
    (cc_lw_lines : PySem.W.codeIn K cd_lw_lines "_law_lines" = true)
    (kp_lw_lines : PySem.W.keepIn K (.ref f_lw_lines) = true)
    (am_lw_history : PySem.W.nsIn K mainGlobals "_law_history" = some (some (.ref f_lw_history)))
    (l_lw_history : K.lookup f_lw_history = some ⟨oc_lw_history, od_lw_history, .func (PySem.W.fnOf "_law_history" "_law_history" (defArgs s_lw_history) (defBody s_lw_history) (defScope s_lw_history) .none kV_lw_history dc_lw_history pm_lw_history an_lw_history cd_lw_history ct_lw_history), sl_lw_history⟩)
    (cc_lw_history : PySem.W.codeIn K cd_lw_history "_law_history" = true)
    (kp_lw_history : PySem.W.keepIn K (.ref f_lw_history) = true)
    (am_lw_say : PySem.W.nsIn K mainGlobals "_law_say" = some (some (.ref f_lw_say)))
    (l_lw_say : K.lookup f_lw_say = some ⟨oc_lw_say, od_lw_say, .func (PySem.W.fnOf "_law_say" "_law_say" (defArgs s_lw_say) (defBody s_lw_say) (defScope s_lw_say) .none kV_lw_say dc_lw_say pm_lw_say an_lw_say cd_lw_say ct_lw_say), sl_lw_say⟩)
    (cc_lw_say : PySem.W.codeIn K cd_lw_say "_law_say" = true)
    (kp_lw_say : PySem.W.keepIn K (.ref f_lw_say) = true)
    (am_lw_next : PySem.W.nsIn K mainGlobals "_law_next" = some (some (.ref f_lw_next)))
    (l_lw_next : K.lookup f_lw_next = some ⟨oc_lw_next, od_lw_next, .func (PySem.W.fnOf "_law_next" "_law_next" (defArgs s_lw_next) (defBody s_lw_next) (defScope s_lw_next) .none kV_lw_next dc_lw_next pm_lw_next an_lw_next cd_lw_next ct_lw_next), sl_lw_next⟩)
    (cc_lw_next : PySem.W.codeIn K cd_lw_next "_law_next" = true)
    (kp_lw_next : PySem.W.keepIn K (.ref f_lw_next) = true)
    (am_lw_due : PySem.W.nsIn K mainGlobals "_law_due" = some (some (.ref f_lw_due)))
    (l_lw_due : K.lookup f_lw_due = some ⟨oc_lw_due, od_lw_due, .func (PySem.W.fnOf "_law_due" "_law_due" (defArgs s_lw_due) (defBody s_lw_due) (defScope s_lw_due) .none kV_lw_due dc_lw_due pm_lw_due an_lw_due cd_lw_due ct_lw_due), sl_lw_due⟩)
    (cc_lw_due : PySem.W.codeIn K cd_lw_due "_law_due" = true)
    (kp_lw_due : PySem.W.keepIn K (.ref f_lw_due) = true)
    (am_lw_found : PySem.W.nsIn K mainGlobals "_law_found" = some (some (.ref f_lw_found)))
    (l_lw_found : K.lookup f_lw_found = some ⟨oc_lw_found, od_lw_found, .func (PySem.W.fnOf "_law_found" "_law_found" (defArgs s_lw_found) (defBody s_lw_found) (defScope s_lw_found) .none kV_lw_found dc_lw_found pm_lw_found an_lw_found cd_lw_found ct_lw_found), sl_lw_found⟩)
    (cc_lw_found : PySem.W.codeIn K cd_lw_found "_law_found" = true)
    (kp_lw_found : PySem.W.keepIn K (.ref f_lw_found) = true)
    (am_lw_whole_make : PySem.W.nsIn K mainGlobals "_law_whole_make" = some (some (.ref f_lw_whole_make)))
    (l_lw_whole_make : K.lookup f_lw_whole_make = some ⟨oc_lw_whole_make, od_lw_whole_make, .func (PySem.W.fnOf "_law_whole_make" "_law_whole_make" (defArgs s_lw_whole_make) (defBody s_lw_whole_make) (defScope s_lw_whole_make) .none kV_lw_whole_make dc_lw_whole_make pm_lw_whole_make an_lw_whole_make (.ref ca_lw_whole_make) ct_lw_whole_make), sl_lw_whole_make⟩)
    (cc_lw_whole_make : PySem.W.codeIn K (.ref ca_lw_whole_make) "_law_whole_make" = true)
    (kp_lw_whole_make : PySem.W.keepIn K (.ref f_lw_whole_make) = true)
    (am_lw_no_make : PySem.W.nsIn K mainGlobals "_law_no_make" = some (some (.ref f_lw_no_make)))
    (l_lw_no_make : K.lookup f_lw_no_make = some ⟨oc_lw_no_make, od_lw_no_make, .func (PySem.W.fnOf "_law_no_make" "_law_no_make" (defArgs s_lw_no_make) (defBody s_lw_no_make) (defScope s_lw_no_make) .none kV_lw_no_make dc_lw_no_make pm_lw_no_make an_lw_no_make (.ref ca_lw_no_make) ct_lw_no_make), sl_lw_no_make⟩)
    (cc_lw_no_make : PySem.W.codeIn K (.ref ca_lw_no_make) "_law_no_make" = true)
    (kp_lw_no_make : PySem.W.keepIn K (.ref f_lw_no_make) = true)
    (am_lw_once : PySem.W.nsIn K mainGlobals "_law_once" = some (some (.ref f_lw_once)))
    (l_lw_once : K.lookup f_lw_once = some ⟨oc_lw_once, od_lw_once, .func (PySem.W.fnOf "_law_once" "_law_once" (defArgs s_lw_once) (defBody s_lw_once) (defScope s_lw_once) .none kV_lw_once dc_lw_once pm_lw_once an_lw_once (.ref ca_lw_once) ct_lw_once), sl_lw_once⟩)
    (cc_lw_once : PySem.W.codeIn K (.ref ca_lw_once) "_law_once" = true)
    (kp_lw_once : PySem.W.keepIn K (.ref f_lw_once) = true)
    (am_lw_searched : PySem.W.nsIn K mainGlobals "_law_searched" = some (some (.ref f_lw_searched)))
    (l_lw_searched : K.lookup f_lw_searched = some ⟨oc_lw_searched, od_lw_searched, .func (PySem.W.fnOf "_law_searched" "_law_searched" (defArgs s_lw_searched) (defBody s_lw_searched) (defScope s_lw_searched) .none kV_lw_searched dc_lw_searched pm_lw_searched an_lw_searched cd_lw_searched ct_lw_searched), sl_lw_searched⟩)
    (cc_lw_searched : PySem.W.codeIn K cd_lw_searched "_law_searched" = true)
    (kp_lw_searched : PySem.W.keepIn K (.ref f_lw_searched) = true)
    (am_law : PySem.W.nsIn K mainGlobals "law" = some (some (.ref f_law)))
    (l_law : K.lookup f_law = some ⟨oc_law, od_law, .func (PySem.W.fnOf "law" "law" (defArgs s_law) (defBody s_law) (defScope s_law) .none kV_law dc_law pm_law an_law cd_law ct_law), sl_law⟩)
    (cc_law : PySem.W.codeIn K cd_law "law" = true)
    (kp_law : PySem.W.keepIn K (.ref f_law) = true)
    (z_bool : PySem.W.nsIn K mainGlobals "bool" = some none)
    (z_int : PySem.W.nsIn K mainGlobals "int" = some none)
    (z_isinstance : PySem.W.nsIn K mainGlobals "isinstance" = some none)
    (z_len : PySem.W.nsIn K mainGlobals "len" = some none)
    (z_list : PySem.W.nsIn K mainGlobals "list" = some none)
    (z_max : PySem.W.nsIn K mainGlobals "max" = some none)
    (z_min : PySem.W.nsIn K mainGlobals "min" = some none)
    (z_range : PySem.W.nsIn K mainGlobals "range" = some none)
    (z_set : PySem.W.nsIn K mainGlobals "set" = some none)
    (z_sorted : PySem.W.nsIn K mainGlobals "sorted" = some none)
    (z_tuple : PySem.W.nsIn K mainGlobals "tuple" = some none)
    (xga_NotBroken : PySem.W.findIn K (.ref c_NotBroken) "__getattribute__" = some (some (.builtin "BaseException.__getattribute__")))
    (xgg_NotBroken : PySem.W.findIn K (.ref c_NotBroken) "__getattr__" = some none)
    (xhd_NotBroken : PySem.W.hasDictIn K c_NotBroken = true)
    (xs_NotBroken : PySem.W.subIn K (.ref c_NotBroken) (.ref c_NotBroken) = some true)
    (xga_NoMake : PySem.W.findIn K (.ref c_NoMake) "__getattribute__" = some (some (.builtin "BaseException.__getattribute__")))
    (xgg_NoMake : PySem.W.findIn K (.ref c_NoMake) "__getattr__" = some none)
    (xhd_NoMake : PySem.W.hasDictIn K c_NoMake = true)
    (xs_NoMake : PySem.W.subIn K (.ref c_NoMake) (.ref c_NoMake) = some true)
    (hT_lw_whole_make : h.get? Pt_lw_whole_make = some { cls := .none, data := .fields #[] })
    (nT_lw_whole_make : K.lookup Pt_lw_whole_make = none)
    (cT_lw_whole_make : PySem.W.codeHdIn K ca_lw_whole_make Pt_lw_whole_make = true)
    (hT_lw_no_make : h.get? Pt_lw_no_make = some { cls := .none, data := .fields #[] })
    (nT_lw_no_make : K.lookup Pt_lw_no_make = none)
    (cT_lw_no_make : PySem.W.codeHdIn K ca_lw_no_make Pt_lw_no_make = true)
    (hT_lw_once : h.get? Pt_lw_once = some { cls := .none, data := .fields #[] })
    (nT_lw_once : K.lookup Pt_lw_once = none)
    (cT_lw_once : PySem.W.codeHdIn K ca_lw_once Pt_lw_once = true)
    (dT : Pt_lw_whole_make ≠ Pt_lw_no_make ∧ Pt_lw_whole_make ≠ Pt_lw_once ∧ Pt_lw_no_make ≠ Pt_lw_once) :
    LamX.LawAtS l w K CX0 10 63 "_law_script" mg fa h := by
  have e := hfa.symm.trans (PySem.W.mg_of X G am_law)
  cases e
  let T : Top K mg := {
    c_BadElders := c_BadElders,
    c_NoMake := c_NoMake,
    c_NotBroken := c_NotBroken,
    c_Makes := c_Makes,
    f_NoMake_init := f_NoMake_init,
    d_NoMake_init := PySem.W.fnOf "__init__" "NoMake.__init__" (defArgs s_NoMake_init) (defBody s_NoMake_init) (defScope s_NoMake_init) .none kV_NoMake_init dc_NoMake_init pm_NoMake_init an_NoMake_init cd_NoMake_init ct_NoMake_init,
    f_NotBroken_init := f_NotBroken_init,
    d_NotBroken_init := PySem.W.fnOf "__init__" "NotBroken.__init__" (defArgs s_NotBroken_init) (defBody s_NotBroken_init) (defScope s_NotBroken_init) .none kV_NotBroken_init dc_NotBroken_init pm_NotBroken_init an_NotBroken_init cd_NotBroken_init ct_NotBroken_init,
    f_greater_part := f_greater_part,
    d_greater_part := PySem.W.fnOf "greater_part" "greater_part" (defArgs s_greater_part) (defBody s_greater_part) (defScope s_greater_part) .none kV_greater_part dc_greater_part pm_greater_part an_greater_part cd_greater_part ct_greater_part,
    f_next_asked := f_next_asked,
    d_next_asked := PySem.W.fnOf "next_asked" "next_asked" (defArgs s_next_asked) (defBody s_next_asked) (defScope s_next_asked) .none kV_next_asked dc_next_asked pm_next_asked an_next_asked cd_next_asked ct_next_asked,
    f_first_broken := f_first_broken,
    d_first_broken := PySem.W.fnOf "first_broken" "first_broken" (defArgs s_first_broken) (defBody s_first_broken) (defScope s_first_broken) .none kV_first_broken dc_first_broken pm_first_broken an_first_broken cd_first_broken ct_first_broken,
    f_no_table := f_no_table,
    d_no_table := PySem.W.fnOf "no_table" "no_table" (defArgs s_no_table) (defBody s_no_table) (defScope s_no_table) .none kV_no_table dc_no_table pm_no_table an_no_table cd_no_table ct_no_table,
    f_Makes_init := f_Makes_init,
    d_Makes_init := PySem.W.fnOf "__init__" "Makes.__init__" (defArgs s_Makes_init) (defBody s_Makes_init) (defScope s_Makes_init) .none kV_Makes_init dc_Makes_init pm_Makes_init an_Makes_init cd_Makes_init ct_Makes_init,
    f_Makes_need := f_Makes_need,
    d_Makes_need := PySem.W.fnOf "need" "Makes.need" (defArgs s_Makes_need) (defBody s_Makes_need) (defScope s_Makes_need) .none kV_Makes_need dc_Makes_need pm_Makes_need an_Makes_need cd_Makes_need ct_Makes_need,
    f_Makes_made := f_Makes_made,
    d_Makes_made := PySem.W.fnOf "made" "Makes.made" (defArgs s_Makes_made) (defBody s_Makes_made) (defScope s_Makes_made) .none kV_Makes_made dc_Makes_made pm_Makes_made an_Makes_made cd_Makes_made ct_Makes_made,
    f_Makes_elders := f_Makes_elders,
    d_Makes_elders := PySem.W.fnOf "elders" "Makes.elders" (defArgs s_Makes_elders) (defBody s_Makes_elders) (defScope s_Makes_elders) .none kV_Makes_elders dc_Makes_elders pm_Makes_elders an_Makes_elders cd_Makes_elders ct_Makes_elders,
    f_Makes_line := f_Makes_line,
    d_Makes_line := PySem.W.fnOf "line" "Makes.line" (defArgs s_Makes_line) (defBody s_Makes_line) (defScope s_Makes_line) .none kV_Makes_line dc_Makes_line pm_Makes_line an_Makes_line cd_Makes_line ct_Makes_line,
    f_Makes_numbers := f_Makes_numbers,
    d_Makes_numbers := PySem.W.fnOf "numbers" "Makes.numbers" (defArgs s_Makes_numbers) (defBody s_Makes_numbers) (defScope s_Makes_numbers) .none kV_Makes_numbers dc_Makes_numbers pm_Makes_numbers an_Makes_numbers cd_Makes_numbers ct_Makes_numbers,
    f_lw_cell := f_lw_cell,
    d_lw_cell := PySem.W.fnOf "_law_cell" "_law_cell" (defArgs s_lw_cell) (defBody s_lw_cell) (defScope s_lw_cell) .none kV_lw_cell dc_lw_cell pm_lw_cell an_lw_cell cd_lw_cell ct_lw_cell,
    f_lw_whole := f_lw_whole,
    d_lw_whole := PySem.W.fnOf "_law_whole" "_law_whole" (defArgs s_lw_whole) (defBody s_lw_whole) (defScope s_lw_whole) .none kV_lw_whole dc_lw_whole pm_lw_whole an_lw_whole cd_lw_whole ct_lw_whole,
    f_lw_mix := f_lw_mix,
    d_lw_mix := PySem.W.fnOf "_law_mix" "_law_mix" (defArgs s_lw_mix) (defBody s_lw_mix) (defScope s_lw_mix) .none kV_lw_mix dc_lw_mix pm_lw_mix an_lw_mix cd_lw_mix ct_lw_mix,
    f_lw_elders := f_lw_elders,
    d_lw_elders := PySem.W.fnOf "_law_elders" "_law_elders" (defArgs s_lw_elders) (defBody s_lw_elders) (defScope s_lw_elders) .none kV_lw_elders dc_lw_elders pm_lw_elders an_lw_elders cd_lw_elders ct_lw_elders,
    f_lw_lines := f_lw_lines,
    d_lw_lines := PySem.W.fnOf "_law_lines" "_law_lines" (defArgs s_lw_lines) (defBody s_lw_lines) (defScope s_lw_lines) .none kV_lw_lines dc_lw_lines pm_lw_lines an_lw_lines cd_lw_lines ct_lw_lines,
    f_lw_history := f_lw_history,
    d_lw_history := PySem.W.fnOf "_law_history" "_law_history" (defArgs s_lw_history) (defBody s_lw_history) (defScope s_lw_history) .none kV_lw_history dc_lw_history pm_lw_history an_lw_history cd_lw_history ct_lw_history,
    f_lw_say := f_lw_say,
    d_lw_say := PySem.W.fnOf "_law_say" "_law_say" (defArgs s_lw_say) (defBody s_lw_say) (defScope s_lw_say) .none kV_lw_say dc_lw_say pm_lw_say an_lw_say cd_lw_say ct_lw_say,
    f_lw_next := f_lw_next,
    d_lw_next := PySem.W.fnOf "_law_next" "_law_next" (defArgs s_lw_next) (defBody s_lw_next) (defScope s_lw_next) .none kV_lw_next dc_lw_next pm_lw_next an_lw_next cd_lw_next ct_lw_next,
    f_lw_due := f_lw_due,
    d_lw_due := PySem.W.fnOf "_law_due" "_law_due" (defArgs s_lw_due) (defBody s_lw_due) (defScope s_lw_due) .none kV_lw_due dc_lw_due pm_lw_due an_lw_due cd_lw_due ct_lw_due,
    f_lw_found := f_lw_found,
    d_lw_found := PySem.W.fnOf "_law_found" "_law_found" (defArgs s_lw_found) (defBody s_lw_found) (defScope s_lw_found) .none kV_lw_found dc_lw_found pm_lw_found an_lw_found cd_lw_found ct_lw_found,
    f_lw_whole_make := f_lw_whole_make,
    d_lw_whole_make := PySem.W.fnOf "_law_whole_make" "_law_whole_make" (defArgs s_lw_whole_make) (defBody s_lw_whole_make) (defScope s_lw_whole_make) .none kV_lw_whole_make dc_lw_whole_make pm_lw_whole_make an_lw_whole_make (.ref ca_lw_whole_make) ct_lw_whole_make,
    f_lw_no_make := f_lw_no_make,
    d_lw_no_make := PySem.W.fnOf "_law_no_make" "_law_no_make" (defArgs s_lw_no_make) (defBody s_lw_no_make) (defScope s_lw_no_make) .none kV_lw_no_make dc_lw_no_make pm_lw_no_make an_lw_no_make (.ref ca_lw_no_make) ct_lw_no_make,
    f_lw_once := f_lw_once,
    d_lw_once := PySem.W.fnOf "_law_once" "_law_once" (defArgs s_lw_once) (defBody s_lw_once) (defScope s_lw_once) .none kV_lw_once dc_lw_once pm_lw_once an_lw_once (.ref ca_lw_once) ct_lw_once,
    f_lw_searched := f_lw_searched,
    d_lw_searched := PySem.W.fnOf "_law_searched" "_law_searched" (defArgs s_lw_searched) (defBody s_lw_searched) (defScope s_lw_searched) .none kV_lw_searched dc_lw_searched pm_lw_searched an_lw_searched cd_lw_searched ct_lw_searched,
    f_law := fa,
    d_law := PySem.W.fnOf "law" "law" (defArgs s_law) (defBody s_law) (defScope s_law) .none kV_law dc_law pm_law an_law cd_law ct_law,
    g_BadElders := PySem.W.mg_of X G aC_BadElders,
    q_BadElders := q_BadElders,
    e_BadElders := e_BadElders,
    y_BadElders := y_BadElders,
    x_BadElders := x_BadElders,
    g_NoMake := PySem.W.mg_of X G aC_NoMake,
    q_NoMake := q_NoMake,
    e_NoMake := e_NoMake,
    y_NoMake := y_NoMake,
    O_NoMake := ⟨⟨_, _, _, _, _, _, _, _, _, _, _, _, _, _, _, l_NoMake, r_NoMake⟩, sa_NoMake, e_NoMake, y_NoMake, q_NoMake⟩,
    i_NoMake := i_NoMake,
    t_NoMake := t_NoMake,
    n_NoMake_number := n_NoMake_number,
    g_NotBroken := PySem.W.mg_of X G aC_NotBroken,
    q_NotBroken := q_NotBroken,
    e_NotBroken := e_NotBroken,
    y_NotBroken := y_NotBroken,
    O_NotBroken := ⟨⟨_, _, _, _, _, _, _, _, _, _, _, _, _, _, _, l_NotBroken, r_NotBroken⟩, sa_NotBroken, e_NotBroken, y_NotBroken, q_NotBroken⟩,
    i_NotBroken := i_NotBroken,
    t_NotBroken := t_NotBroken,
    n_NotBroken_number := n_NotBroken_number,
    g_Makes := PySem.W.mg_of X G aC_Makes,
    C_Makes := ⟨pg_Makes, hd_Makes, po_Makes, sa_Makes⟩,
    K_Makes := ⟨mk_Makes, ai_Makes, ii_Makes, kc_Makes⟩,
    M_Makes_need := ⟨am_Makes_need, im_Makes_need, kp_Makes_need⟩,
    M_Makes_made := ⟨am_Makes_made, im_Makes_made, kp_Makes_made⟩,
    M_Makes_elders := ⟨am_Makes_elders, im_Makes_elders, kp_Makes_elders⟩,
    M_Makes_line := ⟨am_Makes_line, im_Makes_line, kp_Makes_line⟩,
    M_Makes_numbers := ⟨am_Makes_numbers, im_Makes_numbers, kp_Makes_numbers⟩,
    n_Makes_kin := n_Makes_kin,
    n_Makes_states := n_Makes_states,
    n_Makes_count := n_Makes_count,
    F_NoMake_init := fun_mk (st := s_NoMake_init) l_NoMake_init cc_NoMake_init kp_NoMake_init,
    b_NoMake_init := (fun_mk (st := s_NoMake_init) l_NoMake_init cc_NoMake_init kp_NoMake_init).binds (ps := ["self", "number"]) fun _ _ _ _ _ _ us hl => match us, hl with | [_, _], _ => rfl,
    F_NotBroken_init := fun_mk (st := s_NotBroken_init) l_NotBroken_init cc_NotBroken_init kp_NotBroken_init,
    b_NotBroken_init := (fun_mk (st := s_NotBroken_init) l_NotBroken_init cc_NotBroken_init kp_NotBroken_init).binds (ps := ["self", "number"]) fun _ _ _ _ _ _ us hl => match us, hl with | [_, _], _ => rfl,
    F_greater_part := fun_mk (st := s_greater_part) l_greater_part cc_greater_part kp_greater_part,
    b_greater_part := (fun_mk (st := s_greater_part) l_greater_part cc_greater_part kp_greater_part).binds (ps := ["makes", "still", "number"]) fun _ _ _ _ _ _ us hl => match us, hl with | [_, _, _], _ => rfl,
    m_greater_part := PySem.W.mg_of X G am_greater_part,
    F_next_asked := fun_mk (st := s_next_asked) l_next_asked cc_next_asked kp_next_asked,
    b_next_asked := (fun_mk (st := s_next_asked) l_next_asked cc_next_asked kp_next_asked).binds (ps := ["makes", "still", "top"]) fun _ _ _ _ _ _ us hl => match us, hl with | [_, _, _], _ => rfl,
    m_next_asked := PySem.W.mg_of X G am_next_asked,
    F_first_broken := fun_mk (st := s_first_broken) l_first_broken cc_first_broken kp_first_broken,
    b_first_broken := (fun_mk (st := s_first_broken) l_first_broken cc_first_broken kp_first_broken).binds (ps := ["makes", "number", "rule"]) fun _ _ _ _ _ _ us hl => match us, hl with | [_, _, _], _ => rfl,
    m_first_broken := PySem.W.mg_of X G am_first_broken,
    F_no_table := fun_mk (st := s_no_table) l_no_table cc_no_table kp_no_table,
    b_no_table := (fun_mk (st := s_no_table) l_no_table cc_no_table kp_no_table).binds (ps := []) fun _ _ _ _ _ _ us hl => match us, hl with | [], _ => rfl,
    m_no_table := PySem.W.mg_of X G am_no_table,
    F_Makes_init := fun_mk (st := s_Makes_init) l_Makes_init cc_Makes_init kp_Makes_init,
    b_Makes_init := (fun_mk (st := s_Makes_init) l_Makes_init cc_Makes_init kp_Makes_init).binds (ps := ["self"]) fun _ _ _ _ _ _ us hl => match us, hl with | [_], _ => rfl,
    F_Makes_need := fun_mk (st := s_Makes_need) l_Makes_need cc_Makes_need kp_Makes_need,
    b_Makes_need := (fun_mk (st := s_Makes_need) l_Makes_need cc_Makes_need kp_Makes_need).binds (ps := ["self", "number"]) fun _ _ _ _ _ _ us hl => match us, hl with | [_, _], _ => rfl,
    F_Makes_made := fun_mk (st := s_Makes_made) l_Makes_made cc_Makes_made kp_Makes_made,
    b_Makes_made := (fun_mk (st := s_Makes_made) l_Makes_made cc_Makes_made kp_Makes_made).binds (ps := ["self", "elders", "table"]) fun _ _ _ _ _ _ us hl => match us, hl with | [_, _, _], _ => rfl,
    F_Makes_elders := fun_mk (st := s_Makes_elders) l_Makes_elders cc_Makes_elders kp_Makes_elders,
    b_Makes_elders := (fun_mk (st := s_Makes_elders) l_Makes_elders cc_Makes_elders kp_Makes_elders).binds (ps := ["self", "number"]) fun _ _ _ _ _ _ us hl => match us, hl with | [_, _], _ => rfl,
    F_Makes_line := fun_mk (st := s_Makes_line) l_Makes_line cc_Makes_line kp_Makes_line,
    b_Makes_line := (fun_mk (st := s_Makes_line) l_Makes_line cc_Makes_line kp_Makes_line).binds (ps := ["self", "number"]) fun _ _ _ _ _ _ us hl => match us, hl with | [_, _], _ => rfl,
    F_Makes_numbers := fun_mk (st := s_Makes_numbers) l_Makes_numbers cc_Makes_numbers kp_Makes_numbers,
    b_Makes_numbers := (fun_mk (st := s_Makes_numbers) l_Makes_numbers cc_Makes_numbers kp_Makes_numbers).binds (ps := ["self"]) fun _ _ _ _ _ _ us hl => match us, hl with | [_], _ => rfl,
    F_lw_cell := fun_mk (st := s_lw_cell) l_lw_cell cc_lw_cell kp_lw_cell,
    b_lw_cell := (fun_mk (st := s_lw_cell) l_lw_cell cc_lw_cell kp_lw_cell).binds (ps := ["_law_script", "_law_k"]) fun _ _ _ _ _ _ us hl => match us, hl with | [_, _], _ => rfl,
    m_lw_cell := PySem.W.mg_of X G am_lw_cell,
    F_lw_whole := fun_mk (st := s_lw_whole) l_lw_whole cc_lw_whole kp_lw_whole,
    b_lw_whole := (fun_mk (st := s_lw_whole) l_lw_whole cc_lw_whole kp_lw_whole).binds (ps := ["_law_found_here"]) fun _ _ _ _ _ _ us hl => match us, hl with | [_], _ => rfl,
    m_lw_whole := PySem.W.mg_of X G am_lw_whole,
    F_lw_mix := fun_mk (st := s_lw_mix) l_lw_mix cc_lw_mix kp_lw_mix,
    b_lw_mix := (fun_mk (st := s_lw_mix) l_lw_mix cc_lw_mix kp_lw_mix).binds (ps := ["_law_cell_here", "_law_k"]) fun _ _ _ _ _ _ us hl => match us, hl with | [_, _], _ => rfl,
    m_lw_mix := PySem.W.mg_of X G am_lw_mix,
    F_lw_elders := fun_mk (st := s_lw_elders) l_lw_elders cc_lw_elders kp_lw_elders,
    b_lw_elders := (fun_mk (st := s_lw_elders) l_lw_elders cc_lw_elders kp_lw_elders).binds (ps := ["_law_cell_here", "_law_k"]) fun _ _ _ _ _ _ us hl => match us, hl with | [_, _], _ => rfl,
    m_lw_elders := PySem.W.mg_of X G am_lw_elders,
    F_lw_lines := fun_mk (st := s_lw_lines) l_lw_lines cc_lw_lines kp_lw_lines,
    b_lw_lines := (fun_mk (st := s_lw_lines) l_lw_lines cc_lw_lines kp_lw_lines).binds (ps := ["_law_kin"]) fun _ _ _ _ _ _ us hl => match us, hl with | [_], _ => rfl,
    m_lw_lines := PySem.W.mg_of X G am_lw_lines,
    F_lw_history := fun_mk (st := s_lw_history) l_lw_history cc_lw_history kp_lw_history,
    b_lw_history := (fun_mk (st := s_lw_history) l_lw_history cc_lw_history kp_lw_history).binds (ps := ["_law_makes", "_law_cells"]) fun _ _ _ _ _ _ us hl => match us, hl with | [_, _], _ => rfl,
    m_lw_history := PySem.W.mg_of X G am_lw_history,
    F_lw_say := fun_mk (st := s_lw_say) l_lw_say cc_lw_say kp_lw_say,
    b_lw_say := (fun_mk (st := s_lw_say) l_lw_say cc_lw_say kp_lw_say).binds (ps := ["_law_calls", "_law_broken", "_law_number"]) fun _ _ _ _ _ _ us hl => match us, hl with | [_, _, _], _ => rfl,
    m_lw_say := PySem.W.mg_of X G am_lw_say,
    F_lw_next := fun_mk (st := s_lw_next) l_lw_next cc_lw_next kp_lw_next,
    b_lw_next := (fun_mk (st := s_lw_next) l_lw_next cc_lw_next kp_lw_next).binds (ps := ["_law_lines_here", "_law_still", "_law_top"]) fun _ _ _ _ _ _ us hl => match us, hl with | [_, _, _], _ => rfl,
    m_lw_next := PySem.W.mg_of X G am_lw_next,
    F_lw_due := fun_mk (st := s_lw_due) l_lw_due cc_lw_due kp_lw_due,
    b_lw_due := (fun_mk (st := s_lw_due) l_lw_due cc_lw_due kp_lw_due).binds (ps := ["_law_lines_here", "_law_number", "_law_broken"]) fun _ _ _ _ _ _ us hl => match us, hl with | [_, _, _], _ => rfl,
    m_lw_due := PySem.W.mg_of X G am_lw_due,
    F_lw_found := fun_mk (st := s_lw_found) l_lw_found cc_lw_found kp_lw_found,
    b_lw_found := (fun_mk (st := s_lw_found) l_lw_found cc_lw_found kp_lw_found).binds (ps := ["_law_found_here", "_law_due_here"]) fun _ _ _ _ _ _ us hl => match us, hl with | [_, _], _ => rfl,
    m_lw_found := PySem.W.mg_of X G am_lw_found,
    ca_lw_whole_make := ca_lw_whole_make,
    F_lw_whole_make := ⟨⟨_, _, _, _, _, _, _, _, rfl, l_lw_whole_make, cc_lw_whole_make⟩, kp_lw_whole_make⟩,
    b_lw_whole_make := (fun_mk (st := s_lw_whole_make) l_lw_whole_make cc_lw_whole_make kp_lw_whole_make).binds (ps := ["_law_makes", "_law_number", "_law_broken"]) fun _ _ _ _ _ _ us hl => match us, hl with | [_, _, _], _ => rfl,
    m_lw_whole_make := PySem.W.mg_of X G am_lw_whole_make,
    ca_lw_no_make := ca_lw_no_make,
    F_lw_no_make := ⟨⟨_, _, _, _, _, _, _, _, rfl, l_lw_no_make, cc_lw_no_make⟩, kp_lw_no_make⟩,
    b_lw_no_make := (fun_mk (st := s_lw_no_make) l_lw_no_make cc_lw_no_make kp_lw_no_make).binds (ps := ["_law_makes", "_law_number"]) fun _ _ _ _ _ _ us hl => match us, hl with | [_, _], _ => rfl,
    m_lw_no_make := PySem.W.mg_of X G am_lw_no_make,
    ca_lw_once := ca_lw_once,
    F_lw_once := ⟨⟨_, _, _, _, _, _, _, _, rfl, l_lw_once, cc_lw_once⟩, kp_lw_once⟩,
    b_lw_once := (fun_mk (st := s_lw_once) l_lw_once cc_lw_once kp_lw_once).binds (ps := ["_law_makes", "_law_number", "_law_broken", "_law_due_here"]) fun _ _ _ _ _ _ us hl => match us, hl with | [_, _, _, _], _ => rfl,
    m_lw_once := PySem.W.mg_of X G am_lw_once,
    F_lw_searched := fun_mk (st := s_lw_searched) l_lw_searched cc_lw_searched kp_lw_searched,
    b_lw_searched := (fun_mk (st := s_lw_searched) l_lw_searched cc_lw_searched kp_lw_searched).binds (ps := ["_law_makes", "_law_lines_here", "_law_number", "_law_broken"]) fun _ _ _ _ _ _ us hl => match us, hl with | [_, _, _, _], _ => rfl,
    m_lw_searched := PySem.W.mg_of X G am_lw_searched,
    F_law := fun_mk (st := s_law) l_law cc_law kp_law,
    b_law := (fun_mk (st := s_law) l_law cc_law kp_law).binds (ps := ["_law_script"]) fun _ _ _ _ _ _ us hl => match us, hl with | [_], _ => rfl,
    m_law := PySem.W.mg_of X G am_law,
    z_bool := PySem.W.mg_none_of X G z_bool,
    z_int := PySem.W.mg_none_of X G z_int,
    z_isinstance := PySem.W.mg_none_of X G z_isinstance,
    z_len := PySem.W.mg_none_of X G z_len,
    z_list := PySem.W.mg_none_of X G z_list,
    z_max := PySem.W.mg_none_of X G z_max,
    z_min := PySem.W.mg_none_of X G z_min,
    z_range := PySem.W.mg_none_of X G z_range,
    z_set := PySem.W.mg_none_of X G z_set,
    z_sorted := PySem.W.mg_none_of X G z_sorted,
    z_tuple := PySem.W.mg_none_of X G z_tuple,
    X_NotBroken := ⟨xga_NotBroken, xgg_NotBroken, e_NotBroken, xhd_NotBroken⟩,
    xm_NotBroken := PySem.W.exm_ref e_NotBroken xhd_NotBroken y_NotBroken xs_NotBroken,
    X_NoMake := ⟨xga_NoMake, xgg_NoMake, e_NoMake, xhd_NoMake⟩,
    xm_NoMake := PySem.W.exm_ref e_NoMake xhd_NoMake y_NoMake xs_NoMake }
  refine ⟨PySem.W.fnOf "law" "law" (defArgs s_law) (defBody s_law) (defScope s_law) .none kV_law dc_law pm_law an_law cd_law ct_law, [(ca_lw_whole_make, Pt_lw_whole_make), (ca_lw_no_make, Pt_lw_no_make), (ca_lw_once, Pt_lw_once)], (spLaw K Pt_lw_whole_make Pt_lw_no_make Pt_lw_once), (fun p hp => by
    simp only [List.mem_cons, List.not_mem_nil, or_false] at hp
    rcases hp with rfl | rfl | rfl
    · exact hT_lw_whole_make
    · exact hT_lw_no_make
    · exact hT_lw_once
    ), (fun p hp => by
    simp only [List.mem_cons, List.not_mem_nil, or_false] at hp
    rcases hp with rfl | rfl | rfl
    · exact nT_lw_whole_make
    · exact nT_lw_no_make
    · exact nT_lw_once
    ), (fun p hp => by
    simp only [List.mem_cons, List.not_mem_nil, or_false] at hp
    rcases hp with rfl | rfl | rfl
    · exact PySem.W.codeHd_of_K X cT_lw_whole_make
    · exact PySem.W.codeHd_of_K X cT_lw_no_make
    · exact PySem.W.codeHd_of_K X cT_lw_once
    ), fun s v => .of_eq rfl, fun H a ns hl _ hH hS => ?_, fun base _ _ TB => ?_⟩
  · exact ⟨a, ns, rfl, hS, Nat.le_trans hl (by decide), hH (ca_lw_whole_make, Pt_lw_whole_make) (by simp), hH (ca_lw_no_make, Pt_lw_no_make) (by simp), hH (ca_lw_once, Pt_lw_once) (by simp), dT, fun _ => rfl⟩
  · exact ok_law T (TB (ca_lw_whole_make, Pt_lw_whole_make) (by simp)) (TB (ca_lw_no_make, Pt_lw_no_make) (by simp)) (TB (ca_lw_once, Pt_lw_once) (by simp))
theorem walk {l : PySem.W.OpenLaw} {q : Program} {loose : List Str} {XP : (Str → Option Value) → Heap → Prop} {YP : World → Heap → Prop} {d : DefRec} {K : Params → PySem.W.Frag} (hn : l.most = some 63) (hdf : d.params.defaults = [])
    (hY : ∀ (w : World) (h : Heap), YP w h → (K w.params).In h)
    (F : ∀ (w : World) (mg : Str → Option Value) (fa : Addr) (h : Heap), YP w h → (K w.params).In h → h.Ns mainGlobals mg → mg d.name = some (.ref fa) → LamX.LawAtS l w (K w.params) CX0 10 63 "_law_script" mg fa h) :
    PySem.W.WalkO q loose XP YP l.row.toRowW d [] (fun f vs => PySem.call f vs) :=
  LamX.walk_ofTs (n := 63) (k := 10) (x := "_law_script") (CX := fun _ => CX0) hn (by decide) hdf ⟨rfl, by decide, by decide⟩ hY F fun _ _ _ _ _ z => z
end Z
open PySem PySem.W PyProof.Rows
set_option maxRecDepth 100000 in
set_option maxHeartbeats 0 in
theorem PySem.Challenge.cw_twigtable_k66_whole_first_broken_holds : PySem.Challenge.rw_twigtable_k66_whole_first_broken.Holds := by
  w_on; o_law; k_head; (case hw => w_witness2)
  k_fill
  refine Z.walk (l := PySem.Challenge.rw_twigtable_k66_whole_first_broken) rfl rfl (fun w h Y => PySem.W.km_in_of Y) ?F
  case F =>
    intro w mg fa h Y KX G hmg
    refine' Z.all_mk KX G hmg ?aC_BadElders ?q_BadElders ?e_BadElders ?y_BadElders ?x_BadElders ?aC_NoMake ?q_NoMake ?e_NoMake ?y_NoMake ?i_NoMake ?t_NoMake ?l_NoMake ?r_NoMake ?sa_NoMake ?n_NoMake_number ?aC_NotBroken ?q_NotBroken ?e_NotBroken ?y_NotBroken ?i_NotBroken ?t_NotBroken ?l_NotBroken ?r_NotBroken ?sa_NotBroken ?n_NotBroken_number ?aC_Makes ?pg_Makes ?hd_Makes ?po_Makes ?sa_Makes ?mk_Makes ?kc_Makes ?ai_Makes ?ii_Makes ?am_Makes_need ?im_Makes_need ?am_Makes_made ?im_Makes_made ?am_Makes_elders ?im_Makes_elders ?am_Makes_line ?im_Makes_line ?am_Makes_numbers ?im_Makes_numbers ?n_Makes_kin ?n_Makes_states ?n_Makes_count ?l_NoMake_init ?cc_NoMake_init ?kp_NoMake_init ?l_NotBroken_init ?cc_NotBroken_init ?kp_NotBroken_init ?am_greater_part ?l_greater_part ?cc_greater_part ?kp_greater_part ?am_next_asked ?l_next_asked ?cc_next_asked ?kp_next_asked ?am_first_broken ?l_first_broken ?cc_first_broken ?kp_first_broken ?am_no_table ?l_no_table ?cc_no_table ?kp_no_table ?l_Makes_init ?cc_Makes_init ?kp_Makes_init ?l_Makes_need ?cc_Makes_need ?kp_Makes_need ?l_Makes_made ?cc_Makes_made ?kp_Makes_made ?l_Makes_elders ?cc_Makes_elders ?kp_Makes_elders ?l_Makes_line ?cc_Makes_line ?kp_Makes_line ?l_Makes_numbers ?cc_Makes_numbers ?kp_Makes_numbers ?am_lw_cell ?l_lw_cell ?cc_lw_cell ?kp_lw_cell ?am_lw_whole ?l_lw_whole ?cc_lw_whole ?kp_lw_whole ?am_lw_mix ?l_lw_mix ?cc_lw_mix ?kp_lw_mix ?am_lw_elders ?l_lw_elders ?cc_lw_elders ?kp_lw_elders ?am_lw_lines ?l_lw_lines ?cc_lw_lines ?kp_lw_lines ?am_lw_history ?l_lw_history ?cc_lw_history ?kp_lw_history ?am_lw_say ?l_lw_say ?cc_lw_say ?kp_lw_say ?am_lw_next ?l_lw_next ?cc_lw_next ?kp_lw_next ?am_lw_due ?l_lw_due ?cc_lw_due ?kp_lw_due ?am_lw_found ?l_lw_found ?cc_lw_found ?kp_lw_found ?am_lw_whole_make ?l_lw_whole_make ?cc_lw_whole_make ?kp_lw_whole_make ?am_lw_no_make ?l_lw_no_make ?cc_lw_no_make ?kp_lw_no_make ?am_lw_once ?l_lw_once ?cc_lw_once ?kp_lw_once ?am_lw_searched ?l_lw_searched ?cc_lw_searched ?kp_lw_searched ?am_law ?l_law ?cc_law ?kp_law ?z_bool ?z_int ?z_isinstance ?z_len ?z_list ?z_max ?z_min ?z_range ?z_set ?z_sorted ?z_tuple ?xga_NotBroken ?xgg_NotBroken ?xhd_NotBroken ?xs_NotBroken ?xga_NoMake ?xgg_NoMake ?xhd_NoMake ?xs_NoMake ?hT_lw_whole_make ?nT_lw_whole_make ?cT_lw_whole_make ?hT_lw_no_make ?nT_lw_no_make ?cT_lw_no_make ?hT_lw_once ?nT_lw_once ?cT_lw_once ?dT
    (case aC_BadElders => k_is)
    (case q_BadElders => k_is)
    (case e_BadElders => k_is)
    (case y_BadElders => k_is)
    (case x_BadElders => k_exc)
    (case aC_NoMake => k_is)
    (case q_NoMake => k_is)
    (case e_NoMake => k_is)
    (case y_NoMake => k_is)
    (case i_NoMake => k_is)
    (case t_NoMake => k_is)
    (case l_NoMake => k_is)
    (case r_NoMake => decide +kernel)
    (case sa_NoMake => k_is)
    (case n_NoMake_number => k_is)
    (case aC_NotBroken => k_is)
    (case q_NotBroken => k_is)
    (case e_NotBroken => k_is)
    (case y_NotBroken => k_is)
    (case i_NotBroken => k_is)
    (case t_NotBroken => k_is)
    (case l_NotBroken => k_is)
    (case r_NotBroken => decide +kernel)
    (case sa_NotBroken => k_is)
    (case n_NotBroken_number => k_is)
    (case aC_Makes => k_is)
    (case pg_Makes => k_is)
    (case hd_Makes => k_is)
    (case po_Makes => k_is)
    (case sa_Makes => k_is)
    (case mk_Makes => k_is)
    (case kc_Makes => k_is)
    (case ai_Makes => k_is)
    (case ii_Makes => k_is)
    (case am_Makes_need => k_is)
    (case im_Makes_need => k_is)
    (case am_Makes_made => k_is)
    (case im_Makes_made => k_is)
    (case am_Makes_elders => k_is)
    (case im_Makes_elders => k_is)
    (case am_Makes_line => k_is)
    (case im_Makes_line => k_is)
    (case am_Makes_numbers => k_is)
    (case im_Makes_numbers => k_is)
    (case n_Makes_kin => k_is)
    (case n_Makes_states => k_is)
    (case n_Makes_count => k_is)
    (case l_NoMake_init => k_is)
    (case cc_NoMake_init => k_is)
    (case kp_NoMake_init => k_is)
    (case l_NotBroken_init => k_is)
    (case cc_NotBroken_init => k_is)
    (case kp_NotBroken_init => k_is)
    (case am_greater_part => k_is)
    (case l_greater_part => k_is)
    (case cc_greater_part => k_is)
    (case kp_greater_part => k_is)
    (case am_next_asked => k_is)
    (case l_next_asked => k_is)
    (case cc_next_asked => k_is)
    (case kp_next_asked => k_is)
    (case am_first_broken => k_is)
    (case l_first_broken => k_is)
    (case cc_first_broken => k_is)
    (case kp_first_broken => k_is)
    (case am_no_table => k_is)
    (case l_no_table => k_is)
    (case cc_no_table => k_is)
    (case kp_no_table => k_is)
    (case l_Makes_init => k_is)
    (case cc_Makes_init => k_is)
    (case kp_Makes_init => k_is)
    (case l_Makes_need => k_is)
    (case cc_Makes_need => k_is)
    (case kp_Makes_need => k_is)
    (case l_Makes_made => k_is)
    (case cc_Makes_made => k_is)
    (case kp_Makes_made => k_is)
    (case l_Makes_elders => k_is)
    (case cc_Makes_elders => k_is)
    (case kp_Makes_elders => k_is)
    (case l_Makes_line => k_is)
    (case cc_Makes_line => k_is)
    (case kp_Makes_line => k_is)
    (case l_Makes_numbers => k_is)
    (case cc_Makes_numbers => k_is)
    (case kp_Makes_numbers => k_is)
    (case am_lw_cell => k_is)
    (case l_lw_cell => k_is)
    (case cc_lw_cell => k_is)
    (case kp_lw_cell => k_is)
    (case am_lw_whole => k_is)
    (case l_lw_whole => k_is)
    (case cc_lw_whole => k_is)
    (case kp_lw_whole => k_is)
    (case am_lw_mix => k_is)
    (case l_lw_mix => k_is)
    (case cc_lw_mix => k_is)
    (case kp_lw_mix => k_is)
    (case am_lw_elders => k_is)
    (case l_lw_elders => k_is)
    (case cc_lw_elders => k_is)
    (case kp_lw_elders => k_is)
    (case am_lw_lines => k_is)
    (case l_lw_lines => k_is)
    (case cc_lw_lines => k_is)
    (case kp_lw_lines => k_is)
    (case am_lw_history => k_is)
    (case l_lw_history => k_is)
    (case cc_lw_history => k_is)
    (case kp_lw_history => k_is)
    (case am_lw_say => k_is)
    (case l_lw_say => k_is)
    (case cc_lw_say => k_is)
    (case kp_lw_say => k_is)
    (case am_lw_next => k_is)
    (case l_lw_next => k_is)
    (case cc_lw_next => k_is)
    (case kp_lw_next => k_is)
    (case am_lw_due => k_is)
    (case l_lw_due => k_is)
    (case cc_lw_due => k_is)
    (case kp_lw_due => k_is)
    (case am_lw_found => k_is)
    (case l_lw_found => k_is)
    (case cc_lw_found => k_is)
    (case kp_lw_found => k_is)
    (case am_lw_whole_make => k_is)
    (case l_lw_whole_make => k_is)
    (case cc_lw_whole_make => k_is)
    (case kp_lw_whole_make => k_is)
    (case am_lw_no_make => k_is)
    (case l_lw_no_make => k_is)
    (case cc_lw_no_make => k_is)
    (case kp_lw_no_make => k_is)
    (case am_lw_once => k_is)
    (case l_lw_once => k_is)
    (case cc_lw_once => k_is)
    (case kp_lw_once => k_is)
    (case am_lw_searched => k_is)
    (case l_lw_searched => k_is)
    (case cc_lw_searched => k_is)
    (case kp_lw_searched => k_is)
    (case am_law => k_is)
    (case l_law => k_is)
    (case cc_law => k_is)
    (case kp_law => k_is)
    (case z_bool => k_is)
    (case z_int => k_is)
    (case z_isinstance => k_is)
    (case z_len => k_is)
    (case z_list => k_is)
    (case z_max => k_is)
    (case z_min => k_is)
    (case z_range => k_is)
    (case z_set => k_is)
    (case z_sorted => k_is)
    (case z_tuple => k_is)
    (case xga_NotBroken => k_is)
    (case xgg_NotBroken => k_is)
    (case xhd_NotBroken => k_is)
    (case xs_NotBroken => k_is)
    (case xga_NoMake => k_is)
    (case xgg_NoMake => k_is)
    (case xhd_NoMake => k_is)
    (case xs_NoMake => k_is)
    (case hT_lw_whole_make => exact PySem.W.km_tabs_of Y _ (List.mem_cons_of_mem _ List.mem_cons_self))
    (case nT_lw_whole_make => first | k_is | exact rfl | decide +kernel)
    (case cT_lw_whole_make => first | k_is | exact rfl | decide +kernel)
    (case hT_lw_no_make => exact PySem.W.km_tabs_of Y _ (List.mem_cons_of_mem _ (List.mem_cons_of_mem _ List.mem_cons_self)))
    (case nT_lw_no_make => first | k_is | exact rfl | decide +kernel)
    (case cT_lw_no_make => first | k_is | exact rfl | decide +kernel)
    (case hT_lw_once => exact PySem.W.km_tabs_of Y _ List.mem_cons_self)
    (case nT_lw_once => first | k_is | exact rfl | decide +kernel)
    (case cT_lw_once => first | k_is | exact rfl | decide +kernel)
    (case dT => decide)
#print axioms PySem.Challenge.cw_twigtable_k66_whole_first_broken_holds
