import PyProof.Rows.All
import Wide.All
import OpenK.AllK
import Wide.FinOn
import KE.KStateDown
import Lean
import HandS.ForMost
import HandS.WordsExc
import HandS.TryMany
import HandS.ExcInit
import HandS.ExcField
import HandS.IsInst
import HandS.More
import HandS.TupAny
import HandS.Small
import HandS.Defaults
import HandS.Evl
import HandS.Head0
import HandS.Head1
import HandS.Head2
import HandS.HeadEnd
import HandS.HeadHook1
import HandS.HeadHook2
import HandS.HeadHook3
import HandS.HeadHook4
import PySem.Challenge.RW_greywait_k31_sorts_told
set_option Elab.async false
set_option linter.all false
set_option maxRecDepth 100000
set_option maxHeartbeats 0
namespace Gw
open PySem PySem.Spec PyProof.Rows L2
/-! ## 1. Rules of our own -/
section
variable {X : Cx} {pos : Pos}
/-- o.m(e, ..) of a method that may raise: what is raised is wished for at the slots of the caller -/
def tMethA (C : Addr) (m : Str) (sp : Sp) (E : L2.St → XK) (ta : TE) (t : TA) : TE := fun σ H Q => ta σ H fun x H1 => ∃ a dx fs, x = .ref a ∧ H1 a = some (.ins C dx fs) ∧ fs.lookup m = none ∧ t σ H1 fun vs H2 => sp (x :: vs) H2 Q (E σ)
theorem pe_methA {CX : CXT} {k : Nat} {C g : Addr} {fd : FuncData} {ps : List Str} {sp : Sp} {E : L2.St → XK} {m : Str} {apos : Pos} {o e : Expr} {es : List Expr} {ta : TE} {t : TA} {pl : Sem Bool}
    (he : PE X o ta) (c : Cls X.K C) (hm : Meth X.K C m g) (F : FnOk X.prog X.w X.K X.mg X.base CX k g fd ps sp) (hr : Room k X.A) (hb : Binds X.K fd ps []) (hx : ∀ σ, PassesAt CX X σ (E σ)) (ha : PA X (e :: es) t)
    (h1 : starEach (e :: es) X.env = (false, eval e X.env) :: starEach es X.env := by rfl) (h2 : (backTo pos (starEach es X.env)).any (·.1) = false := by rfl)
    (h3 : eval (.Call (.Attribute o m apos) (e :: es) [] pos) X.env = (do
      let ov ← eval o X.env
      standAt apos.atName
      let (f, first) ← holding [ov] (getMethod ov m pl)
      callWith pos f first (backTo pos (starEach (e :: es) X.env)) (backToKw pos (keywordEach [] X.env))) := by rfl) :
    PE X (.Call (.Attribute o m apos) (e :: es) [] pos) (tMethA C m sp E ta t) := by
  constructor
  intro pins s σ H Q I h
  refine PySem.W.methodCall_KW (pl := pl) (thn (he.run pins s σ H _ I h) fun u s1 hh => ?_) h3
  obtain ⟨x, H1, I1, rx, a, dx, fs, ex, ea, l, q⟩ := hh
  subst ex
  obtain rfl : u = Value.ref a := rx
  refine getmeth_ok I1 ea c hm l ?_
  refine PySem.W.callWith_K (first := [.ref a]) (h₀ := X.base) I.ok.mod.kin hm.kp (thn (ha.run pos pins s1 σ H1 _ I1 q) fun us s2 hh2 => ?_) h1 h2
  obtain ⟨vs, H2, I2, r, q2⟩ := hh2
  exact ⟨I2.kIn, run_fnS (us := Value.ref a :: us) (vs := V.ref a :: vs) F hr hb (hx σ) I2 (.cons rfl r) q2⟩
/-- what the written part says of a class W of the program, its __init__ being ValueError's own -/
structure WIni (K : PySem.W.Frag) (mg : Str → Option Value) (x : Str) (W : Addr) : Prop where
  gW : mg x = some (.ref W)
  ga : PySem.W.specialIn K (.ref W) "__getattribute__" = some (some (.builtin "type.__getattribute__"))
  rd : PySem.W.readsIn K W (.type "type") = true
  fc : PySem.W.findCls K (.ref W) (.type "type") "__init__" = some (.val (.builtin "ValueError.__init__"))
/-- W.__init__(self, ..) -/
theorem pe_winit {x : Str} {W : Addr} {p1 p2 : Pos} {e : Expr} {es : List Expr} {ta : TA} {pl : Sem Bool} (T : WIni X.K X.mg x W) (ha : PA X (e :: es) ta) (hg : Gl X x := by rfl) (hdb : (x == ("__debug__" : Str)) = false := by decide)
    (h3 : eval (.Call (.Attribute (.Name x p1) "__init__" p2) (e :: es) [] pos) X.env = (do
      let ov ← eval (.Name x p1) X.env
      standAt p2.atName
      let (f, first) ← holding [ov] (getMethod ov "__init__" pl)
      callWith pos f first (backTo pos (starEach (e :: es) X.env)) (backToKw pos (keywordEach [] X.env))) := by rfl)
    (h1 : starEach (e :: es) X.env = (false, eval e X.env) :: starEach es X.env := by rfl) (h2 : (backTo pos (starEach es X.env)).any (·.1) = false := by rfl) :
    PE X (.Call (.Attribute (.Name x p1) "__init__" p2) (e :: es) [] pos) (tVeI X.K ta) := by
  constructor
  intro pins s σ H Q I h
  refine PySem.W.methodCall_KW (ld_glob I hg T.gW ?_ hdb) h3
  refine PySem.W.method_cls I.kIn T.ga (PySem.W.cls_value I.kIn T.rd T.fc (by decide +kernel) ?_)
  show wpAny _ _ (callWith pos (Value.builtin "ValueError.__init__") [] (backTo pos (starEach (e :: es) X.env)) []) _ _ _
  refine PyProof.Rows.callWith_method1 (thn (ha.run pos pins _ σ H _ (I.tok _) h) fun us s1 hh => ?_) h1 h2
  obtain ⟨vs, H1, I1, r1, a, C, ws, ev, hl, T1, ea, q⟩ := hh
  subst ev
  cases r1 with
  | @cons _ u0 _ ur ra rw' =>
    obtain rfl : u0 = Value.ref a := ra
    have hz : ur.length ≤ sizeLine := by
      have e1 := Paired.length rw'
      rw [sizeLine_eq]
      omega
    exact oinit_ok T1 I1 ea hz fun s' J => ⟨.non, H1, J, rfl, q⟩
/-- X(), X an exception class of the program without an __init__ of its own -/
theorem pmk_own0 {C : Addr} {bmB : List Value} {B newId initId : String} {x : Str} {p : Pos} (F : ExcBaseFacts B newId initId bmB) (q : PySem.W.excIn X.K C bmB newId = true) (gC : X.mg x = some (.ref C))
    (kC : PySem.W.keepIn X.K (.ref C) = true) (r : Raises X (.ref C)) (hg : Gl X x := by rfl) (hdb : (x == ("__debug__" : Str)) = false := by decide) :
    PMk X (.Call (.Name x p) [] [] pos) (fun _ H Q => Q (.ref C) none H) := by
  intro pins s σ H Q I h
  refine wpAny_Call_Name_kw (ld_glob I hg gC ?_ hdb)
  refine PySem.W.callWith_K0 I.kIn kC ?_
  show wpAny _ _ (call (.ref C) []) _ _ _
  obtain ⟨bm, N, nm, qn, bs, hdct, sn, sub, ab, col, dd, k0, k1, k2, k3, k5, mN, hC, hN, hni, T⟩ := exc_obj I.kIn q
  exact wpAny_call_exc_subT F T hC hN hni (fun h' e hm => mk_of I hm r h (I.hok.gone hm.new)) (Nat.zero_le _)
/-- s * n, a short text a few times -/
def rMulS : R2 := fun x y H Q => ∃ (z : Str) (n : Int), x = .str z ∧ y = .int n ∧ 1 ≤ n ∧ n ≤ 8 ∧ z.length = 1 ∧ Q (.str (Txt.mul z n)) H
theorem op_mulS : OpR X (binaryOp .Mult) rMulS := by
  intro pins s σ H x y v u Q I rx ry h
  obtain ⟨z, n, rfl, rfl, h1, h8, hz, q⟩ := h
  obtain ⟨t, rfl⟩ := rx
  obtain ⟨t', rfl⟩ := ry
  refine SB.mul ⟨?_, fun _ _ => ?_, fun _ _ => ?_⟩ fun t2 k => ⟨.str _, H, I.tok k, ⟨t2, rfl⟩, q⟩
  · have e1 : ¬ n < -(2 ^ 63 : Int) := by omega
    have e2 : ¬ n ≥ 2 ^ 63 := by omega
    rw [decide_eq_false e1, decide_eq_false e2]
    rfl
  · rw [hz]
    have e1 : (0 : Int) < n := by omega
    have e2 : 1 * n ≤ 2 ^ 63 - 1 := by omega
    have e3 : 1 ≤ (2 ^ 63 - 1) / n := (Int.le_ediv_iff_mul_le e1).mpr e2
    show ¬ ((1 : Int) > (2 ^ 63 - 1) / n)
    omega
  · rw [hz]
    have e1 : 1 * n.toNat ≤ 8 := by omega
    have e2 : ¬ (1 * n.toNat > sizeLine) := by
      rw [sizeLine_eq]
      omega
    unfold Builtin.Str.tooLong
    exact decide_eq_false e2
end
/-! ### x == y of two tuples that hold the same values -/
/-- the values whose == with themselves is known -/
theorem self_eq {A : Around} {s : Shared} {v : V} {u u' : Value} (r : RelV v u) (r' : RelV v u') (f : flatB v = true ∨ ∃ a, v = .ref a) : SeqAt.EqAt A s u u' true := by
  rcases f with f | ⟨a, rfl⟩
  · exact eqAt_same r r' f
  · cases (show u = Value.ref a from r)
    cases (show u' = Value.ref a from r')
    exact SeqAt.EqAt.same _
theorem self_items {A : Around} {s : Shared} : ∀ {xs : List V} {us ws : List Value}, Vals xs us → Vals xs ws → (∀ v ∈ xs, flatB v = true ∨ ∃ a, v = .ref a) → ∀ j (h1 : j < us.length) (h2 : j < ws.length), SeqAt.EqAt A s us[j] ws[j] true
  | _, _, _, .nil, .nil, _, j, h1, _ => absurd h1 (Nat.not_lt_zero j)
  | _, _, _, .cons r t, .cons r' t', f, 0, _, _ => self_eq r r' (f _ List.mem_cons_self)
  | _, _, _, .cons _ t, .cons _ t', f, j + 1, h1, h2 => self_items t t' (fun v hv => f v (List.mem_cons_of_mem _ hv)) j (Nat.lt_of_succ_lt_succ h1) (Nat.lt_of_succ_lt_succ h2)
section
variable {X : Cx}
/-- both tuples hold xs -/
def rSelf (K : PySem.W.Frag) (b : Bool) : R2 := fun x y H Q => ∃ (p q : Addr) (xs : List V), x = .ref p ∧ y = .ref q ∧ SqT K H p xs ∧ SqT K H q xs ∧ (∀ v ∈ xs, flatB v = true ∨ ∃ a, v = .ref a) ∧ Q (.bl b) H
theorem all_yes {n m : Nat} (h : n = m) : ((List.range (min n m)).all (fun _ => true) && n == m) = true := by
  subst h
  rw [beq_self_eq_true, Bool.and_true]
  exact List.all_eq_true.mpr fun _ _ => rfl
theorem op_eqSelf (hu : X.A.units < cLine) : OpR X (compareOp .Eq) (rSelf X.K true) := by
  intro pins s σ H x y v u Q I rx ry h
  obtain ⟨p, q, xs, rfl, rfl, hp, hq, hf, hQ⟩ := h
  cases (show v = Value.ref p from rx)
  cases (show u = Value.ref q from ry)
  obtain ⟨us, r1, t1, _⟩ := I.tuple hp
  obtain ⟨ws, r2, t2, _⟩ := I.tuple hq
  have el : us.toArray.size = ws.toArray.size := by
    rw [List.size_toArray, List.size_toArray, ← r1.length, ← r2.length]
  refine SeqAt.eq_tupleAt (e := fun _ => true) t1 t2 hu (fun j h1 h2 => ?_) ?_
  · have k := self_items (A := X.A.in1) (s := s) r1 r2 hf j (by simpa using h1) (by simpa using h2)
    simpa using k
  · rw [all_yes el]
    exact ⟨.bl true, H, I, rfl, hQ⟩
theorem op_neSelf (hu : X.A.units < cLine) : OpR X (compareOp .NotEq) (rSelf X.K false) := by
  intro pins s σ H x y v u Q I rx ry h
  obtain ⟨p, q, xs, rfl, rfl, hp, hq, hf, hQ⟩ := h
  cases (show v = Value.ref p from rx)
  cases (show u = Value.ref q from ry)
  obtain ⟨us, r1, t1, _⟩ := I.tuple hp
  obtain ⟨ws, r2, t2, _⟩ := I.tuple hq
  have el : us.toArray.size = ws.toArray.size := by
    rw [List.size_toArray, List.size_toArray, ← r1.length, ← r2.length]
  refine SeqAt.RcNeAt.tuples (e := fun _ => true) t1 t2 hu (fun j h1 h2 => ?_) _ _ _ _ ?_
  · have k := self_items (A := X.A.in1) (s := s) r1 r2 hf j (by simpa using h1) (by simpa using h2)
    simpa using k
  · rw [all_yes el]
    exact ⟨.bl false, H, I, rfl, hQ⟩
end
/-! ### try: body / except x as n: suite / except y: suite -/
/-- what the two clauses wish of an exception of the body; nothing else is let out -/
def wTwo (K : PySem.W.Frag) (c c2 : Value) (i : Nat) (ts ts2 : Addr → Value → Option Addr → TS) (D : Ends) : WX := fun cls d σ H =>
  (PySem.W.exmOne K cls c = some true ∧ ∀ a, H a = none → ts a cls d { nx := fun σ' H' => D.nx (σ'.set i none) H', rt := D.rt, bk := fun σ' H' => D.bk (σ'.set i none) H', ct := fun σ' H' => D.ct (σ'.set i none) H' } (σ.set i (some (.ref a))) H) ∨
    (PySem.W.exmOne K cls c = some false ∧ PySem.W.exmOne K cls c2 = some true ∧ ∀ a, H a = none → ts2 a cls d D σ H)
section
variable {X : Cx} {x y n : Str} {c c2 : Value} {i : Nat} {body su sv : List Stmt} {b0 c0 : Stmt} {np nq pos p1 p2 : Pos} {tb : WX → TS} {ts ts2 : Addr → Value → Option Addr → TS}
theorem SP.back {X : Cx} {pins : List (Addr × Obj)} {a : Addr} {q : Addr × Obj} {D : Ends} {f : Flow} {s' : Shared} (ok : X.Ok) (h : SP (X.suite a (q :: (X.pn ++ pins))) [] D f s') : SP X pins D f s' := by
  cases f with
  | next =>
    obtain ⟨σ', H', J, r⟩ := h
    exact ⟨σ', H', J.unsuite ok, r⟩
  | brk =>
    obtain ⟨σ', H', J, r⟩ := h
    exact ⟨σ', H', J.unsuite ok, r⟩
  | cont =>
    obtain ⟨σ', H', J, r⟩ := h
    exact ⟨σ', H', J.unsuite ok, r⟩
  | ret u =>
    obtain ⟨w, σ', H', J, ru, r⟩ := h
    exact ⟨w, σ', H', J.unsuite ok, ru, r⟩
theorem SP.backTry {X : Cx} {pins : List (Addr × Obj)} {xe : Value → Shared → Prop} {D : Ends} {f : Flow} {s' : Shared} (ok : X.Ok) (h : SP (X.tr (X.pn ++ pins) xe) [] D f s') : SP X pins D f s' := by
  cases f with
  | next =>
    obtain ⟨σ', H', J, r⟩ := h
    exact ⟨σ', H', J.ofTry ok, r⟩
  | brk =>
    obtain ⟨σ', H', J, r⟩ := h
    exact ⟨σ', H', J.ofTry ok, r⟩
  | cont =>
    obtain ⟨σ', H', J, r⟩ := h
    exact ⟨σ', H', J.ofTry ok, r⟩
  | ret u =>
    obtain ⟨w, σ', H', J, ru, r⟩ := h
    exact ⟨w, σ', H', J.ofTry ok, ru, r⟩
theorem ps_try_two (hs : X.stack = X.env :: X.outer) (hf : X.env.frame = some X.env.locals) (hN : X.N.Nodup) (hi : X.N[i]? = some n) (hln : X.env.kindOf n = some .local) (hc : Names X x c) (hc2 : Names X y c2)
    (hb : ∀ (W : WX) (pn : List (Addr × Obj)) (xe : Value → Shared → Prop), Takes (X.tr pn xe) W → PassesOwn (model X.prog X.w) X.A X.env xe → PSs (X.tr pn xe) body (tb W))
    (h1 : ∀ (a : Addr) (oe : Obj) (cls : Value) (d : Option Addr) (pn : List (Addr × Obj)), Zc cls d oe → (∃ vs, oe.data = .fields vs) → PSs (X.suite a ((a, oe) :: pn)) (b0 :: su) (ts a cls d))
    (h2 : ∀ (a : Addr) (oe : Obj) (cls : Value) (d : Option Addr) (pn : List (Addr × Obj)), Zc cls d oe → (∃ vs, oe.data = .fields vs) → PSs (X.suite a ((a, oe) :: pn)) (c0 :: sv) (ts2 a cls d)) :
    PS X (.Try body [.ExceptHandler (some (.Name x np)) (some n) (b0 :: su) p1, .ExceptHandler (some (.Name y nq)) none (c0 :: sv) p2] [] [] pos) (fun D σ H => tb (wTwo X.K c c2 i ts ts2 D) D σ H) := by
  constructor
  intro pins s σ H D I h
  have ok := I.ok
  have hfr : X.A.frames = some (X.env :: X.outer) := by rw [ok.frames, hs]
  refine wpAny_Try_except (wpAny_mono ((hb (wTwo X.K c c2 i ts ts2 D) (X.pn ++ pins) (fun e s1 => wpAny (model X.prog X.w) X.A (noteFrame e X.env) (fun _ s2 => wpAny (model X.prog X.w) X.A (setFlight e none) (fun _ s3 =>
    wpAny (model X.prog X.w) X.A (handleBy e X.env [.ExceptHandler (some (.Name x np)) (some n) (b0 :: su) p1, .ExceptHandler (some (.Name y nq)) none (c0 :: sv) p2]) (SP X pins D) X.xe s3) X.xe s2) X.xe s1) (fun u s' xx => ?_) PassesOwn.looking).run [] s σ H D (I.toTry _) h) (fun f s1 hsp => ?_) (fun e s1 he => he))
  · obtain ⟨a, B, sI, pins', σ', H', cls, d, rfl, J', nb, up, sky, na, os, ag, wish⟩ := xx
    have J : Inv X pins σ' H' sI := J'.ofTry ok
    have sky2 : Sky B (X.env :: X.outer) a (Zc cls d) X.env.locals s'.heap := by rw [← hs]; exact sky
    show wpAny (model X.prog X.w) X.A (noteFrame (.ref a) X.env) _ _ _
    refine Sky.land Zc.steady hfr hf sky2 fun h3 fl3 up3 => ?_
    have J3 : Inv X pins σ' H' { s' with heap := h3 } := J.landed nb fl3.1 (up.trans up3) os ag
    obtain ⟨oe3, vs3, he3, hz3, hd3⟩ := fl3.there
    have nfr : a ∉ frs (X.env :: X.outer) := fun hm => by
      obtain ⟨_, o', e', hnf⟩ := fl3.2.2.1.mem hm
      rw [he3] at e'
      cases e'
      exact hnf _ hd3
    have nL : a ≠ X.env.locals := fun z => nfr (List.mem_filterMap.mpr ⟨X.env, List.mem_cons_self, by rw [hf, z]⟩)
    have nF : a ∉ X.fs := fun hm => by
      obtain ⟨e, he, q⟩ := List.mem_filterMap.mp hm
      exact nfr (List.mem_filterMap.mpr ⟨e, List.mem_cons_of_mem _ he, q⟩)
    have S3 := J3.suite he3 hd3 na nL nF
    have LT : PySem.W.Looks (model X.prog X.w) h3 (typeOf (.ref a)) cls := fun A Q E s k q => wpAny_typeOf_ref (k _ _ he3) (by rw [hz3.1]; exact q)
    have asks : ∀ {z : Str} {zp : Pos} {k : Value} {Q : Value → Shared → Prop} {E : Value → Shared → Prop}, Names X z k → Q k { s' with heap := h3 } → wpAny (model X.prog X.w) (X.A.mark (some (.ref a))) (eval (.Name z zp) X.env) Q E { s' with heap := h3 } := by
      intro z zp k Q E hk q
      obtain ⟨hg, hdbg, hm | ⟨hm, hv, hnn⟩⟩ := hk
      · exact ld_glob (X := X.suite a ((a, oe3) :: (X.pn ++ pins))) S3 hg hm q hdbg
      · exact ld_blt (X := X.suite a ((a, oe3) :: (X.pn ++ pins))) S3 hg hm hv q hnn hdbg
    refine wpAny_handleBy_cons (codeAny_handlers_test ?_) (by intro q; cases q)
    rcases wish with ⟨e1, go⟩ | ⟨e1, e2, go⟩
    · refine asks hc ((PySem.W.exm_one (M := model X.prog X.w) J3.kIn LT e1).here ?_)
      refine codeAny_handlers_suite_as ?_
      refine HandSPX.lands_againZ fl3 fun h4 fl4 up4 => ?_
      have J4 : Inv X pins σ' H' { s' with heap := h4 } := J.landed nb fl4.1 ((up.trans up3).trans up4) os ag
      obtain ⟨oe4, vs4, he4, hz4, hd4⟩ := fl4.there
      have S4 := J4.suite he4 hd4 na nL nF
      refine store_ok (X := X.suite a ((a, oe4) :: (X.pn ++ pins))) (v := .ref a) S4 hN hi (.inl hln) rfl (fun s5 S5 => ?_) (.inr hln)
      refine wpAny_mono ((h1 a oe4 cls d (X.pn ++ pins) hz4 ⟨_, hd4⟩).run [] s5 _ H' _ S5 (go a na)) (fun f s6 hsp => ?_) (fun _ _ z => False.elim z)
      have hsp2 := SP.back ok hsp
      cases f with
      | next =>
        obtain ⟨σ6, H6, S6, q6⟩ := hsp2
        exact gone_ok S6 hN hi hln fun s7 J7 => ⟨_, _, J7, q6⟩
      | brk =>
        obtain ⟨σ6, H6, S6, q6⟩ := hsp2
        exact gone_ok S6 hN hi hln fun s7 J7 => ⟨_, _, J7, q6⟩
      | cont =>
        obtain ⟨σ6, H6, S6, q6⟩ := hsp2
        exact gone_ok S6 hN hi hln fun s7 J7 => ⟨_, _, J7, q6⟩
      | ret u =>
        obtain ⟨v6, σ6, H6, S6, r6, q6⟩ := hsp2
        exact gone_ok S6 hN hi hln fun s7 J7 => ⟨_, _, _, J7, r6, q6⟩
    · refine asks hc ((PySem.W.exm_one (M := model X.prog X.w) J3.kIn LT e1).here ?_)
      show wpAny _ X.A (handleBy (.ref a) X.env [.ExceptHandler (some (.Name y nq)) none (c0 :: sv) p2]) _ _ _
      refine wpAny_handleBy_cons (codeAny_handlers_test ?_) (by intro q; cases q)
      refine asks hc2 ((PySem.W.exm_one (M := model X.prog X.w) J3.kIn LT e2).here ?_)
      refine codeAny_handlers_suite ?_
      refine HandSPX.lands_againZ fl3 fun h4 fl4 up4 => ?_
      have J4 : Inv X pins σ' H' { s' with heap := h4 } := J.landed nb fl4.1 ((up.trans up3).trans up4) os ag
      obtain ⟨oe4, vs4, he4, hz4, hd4⟩ := fl4.there
      refine wpAny_mono ((h2 a oe4 cls d (X.pn ++ pins) hz4 ⟨_, hd4⟩).run [] _ _ H' _ (J4.suite he4 hd4 na nL nF) (go a na)) (fun f s6 hsp => ?_) (fun _ _ z => False.elim z)
      have hsp2 := SP.back ok hsp
      cases f with
      | next => exact hsp2
      | brk => exact hsp2
      | cont => exact hsp2
      | ret u => exact hsp2
  · have hsp2 := SP.backTry ok hsp
    cases f with
    | next => exact wpAny_execs_nil hsp2
    | brk => exact hsp2
    | cont => exact hsp2
    | ret u => exact hsp2
end
end Gw
namespace Gw
open PySem PySem.Spec PyProof.Rows L2
/-! ## 2. The text by places -/
def top (i : Nat) : Stmt := PySem.Challenge.pw_greywait_k31_sorts_told.main.body.getD i (.Pass ⟨0, 0, 0, 0⟩)
abbrev sNoSort : Stmt := inClass (top 4) 0
abbrev sWhole : Stmt := top 7
abbrev sName : Stmt := top 8
abbrev sLowest : Stmt := top 12
abbrev sIsW : Stmt := top 13
abbrev sSort : Stmt := inClass (top 18) 0
abbrev sRow : Stmt := top 19
abbrev sSorts : Stmt := inClass (top 20) 0
abbrev sNames : Stmt := inClass (top 20) 1
abbrev sSortOf : Stmt := inClass (top 20) 2
abbrev sTold : Stmt := inClass (top 20) 3
abbrev sWith : Stmt := inClass (top 20) 4
abbrev lCell : Stmt := top 22
abbrev lMix : Stmt := top 23
abbrev lDraw : Stmt := top 24
abbrev lLowest : Stmt := top 25
abbrev lWeight : Stmt := top 26
abbrev lNames : Stmt := top 27
abbrev lRow : Stmt := top 28
abbrev lRows : Stmt := top 29
abbrev lDue : Stmt := top 30
abbrev lStands : Stmt := top 31
abbrev lFirst : Stmt := top 32
abbrev lTold : Stmt := top 33
abbrev lNoSort : Stmt := top 34
abbrev lAsked : Stmt := top 35
abbrev lLaw : Stmt := top 36
/-- a def of the text at f -/
abbrev FnP (K : PySem.W.Frag) (x q : Str) (st : Stmt) (f : Addr) (fd : FuncData) : Prop := FunD K x q (defArgs st) (defBody st) (defScope st) [] [] f fd
/-- a def that may be called by its name x -/
structure Cal (P : Program) (w : World) (K : PySem.W.Frag) (mg : Str → Option Value) (base : Heap) (CX : CXT) (k : Nat) (x : Str) (ps : List Str) (sp : Sp) (f : Addr) (fd : FuncData) : Prop where
  g : mg x = some (.ref f)
  kp : PySem.W.keepIn K (.ref f) = true
  b : Binds K fd ps []
  F : FnOk P w K mg base CX k f fd ps sp
/-- a method m of the class at C -/
structure CalM (P : Program) (w : World) (K : PySem.W.Frag) (mg : Str → Option Value) (base : Heap) (CX : CXT) (k : Nat) (C : Addr) (m : Str) (ps : List Str) (sp : Sp) (f : Addr) (fd : FuncData) : Prop where
  m : Meth K C m f
  b : Binds K fd ps []
  F : FnOk P w K mg base CX k f fd ps sp
/-! ## 3. The mathematics -/
/-! ### lowest terms -/
def loT (t b : Int) : Int := t / (Int.gcd t b : Int)
def loB (t b : Int) : Int := b / (Int.gcd t b : Int)
theorem gcd_pos {t b : Int} (hb : 1 ≤ b) : 0 < (Int.gcd t b : Int) := by
  have h : 0 < Int.gcd t b := Int.gcd_pos_of_ne_zero_right _ (by omega)
  omega
theorem lo_eq {t b k g h : Int} (hk : 0 < k) (ht : t = k * g) (hb : b = k * h) (h1 : Int.gcd g h = 1) : loT t b = g ∧ loB t b = h := by
  have e : (Int.gcd t b : Int) = k := by
    rw [ht, hb, Int.gcd_mul_left, h1, Nat.mul_one, Int.natAbs_of_nonneg (by omega)]
  unfold loT loB
  rw [e, ht, hb, Int.mul_ediv_cancel_left _ (by omega), Int.mul_ediv_cancel_left _ (by omega)]
  exact ⟨rfl, rfl⟩
theorem lo_self {t b : Int} (hb : 1 ≤ b) : t = (Int.gcd t b : Int) * loT t b ∧ b = (Int.gcd t b : Int) * loB t b := by
  unfold loT loB
  exact ⟨(Int.mul_ediv_cancel' (Int.gcd_dvd_left ..)).symm, (Int.mul_ediv_cancel' (Int.gcd_dvd_right ..)).symm⟩
theorem lo_cop {t b : Int} (hb : 1 ≤ b) : Int.gcd (loT t b) (loB t b) = 1 := by
  have hg := gcd_pos (t := t) hb
  obtain ⟨e1, e2⟩ := lo_self (t := t) hb
  have e : (Int.gcd t b : Int) = (Int.gcd t b : Int) * (Int.gcd (loT t b) (loB t b) : Int) := by
    have e3 : Int.gcd t b = Int.gcd ((Int.gcd t b : Int) * loT t b) ((Int.gcd t b : Int) * loB t b) := (congrArg (fun x => Int.gcd x b) e1).trans (congrArg (fun y => Int.gcd ((Int.gcd t b : Int) * loT t b) y) e2)
    rw [Int.gcd_mul_left] at e3
    have e4 := congrArg (fun n : Nat => (n : Int)) e3
    simpa using e4
  have h2 : (Int.gcd t b : Int) * 1 = (Int.gcd t b : Int) * (Int.gcd (loT t b) (loB t b) : Int) := by rw [Int.mul_one]; exact e
  have h3 := Int.eq_of_mul_eq_mul_left (by omega) h2
  omega
theorem lo_idem {t b : Int} (hb : 1 ≤ b) : loT (loT t b) (loB t b) = loT t b ∧ loB (loT t b) (loB t b) = loB t b :=
  lo_eq (k := 1) (by decide) (Int.one_mul _).symm (Int.one_mul _).symm (lo_cop hb)
/-- a weight -/
structure Wt (t b : Int) : Prop where
  t0 : 0 ≤ t
  t1 : t ≤ 1000000
  b0 : 1 ≤ b
  b1 : b ≤ 12
theorem Wt.lo {t b : Int} (h : Wt t b) : Wt (loT t b) (loB t b) := by
  have hg := gcd_pos (t := t) h.b0
  refine ⟨Int.ediv_nonneg h.t0 (by omega), Int.le_trans (Int.ediv_le_self _ h.t0) h.t1, ?_, Int.le_trans (Int.ediv_le_self _ (by have := h.b0; omega)) h.b1⟩
  have e := (lo_self (t := t) h.b0).2
  have hb := h.b0
  by_cases z : 1 ≤ loB t b
  · exact z
  · have : (Int.gcd t b : Int) * loB t b ≤ (Int.gcd t b : Int) * 0 := Int.mul_le_mul_of_nonneg_left (by omega) (by omega)
    omega
/-- 2 to k divide not both -/
def NoDiv (k : Int) (t b : Int) : Prop := ∀ d : Int, 2 ≤ d → d ≤ k → ¬ (t % d = 0 ∧ b % d = 0)
theorem cop_of {t b : Int} (h : NoDiv 12 t b) (b0 : 1 ≤ b) (b1 : b ≤ 12) : Int.gcd t b = 1 := by
  have hg := gcd_pos (t := t) b0
  by_cases e : Int.gcd t b = 1
  · exact e
  · have hle : (Int.gcd t b : Int) ≤ b := Int.le_of_dvd (by omega) (Int.gcd_dvd_right ..)
    exact absurd ⟨Int.emod_eq_zero_of_dvd (Int.gcd_dvd_left ..), Int.emod_eq_zero_of_dvd (Int.gcd_dvd_right ..)⟩ (h _ (by omega) (by omega))
/-! ### names -/
structure NameOk (z : Str) : Prop where
  lo : 1 ≤ z.length
  hi : z.length ≤ 8
  az : ∀ c ∈ z.cps.toList, 97 ≤ c ∧ c ≤ 122
def letters : Str := "abcdefghijklmnopqrstuvwxyz"
theorem letters_eq : letters.cps.toList = (List.range 26).map (· + 97) := by decide +kernel
theorem letters_len : letters.length = 26 := by decide +kernel
theorem mem_letters {c : Nat} : c ∈ letters.cps.toList ↔ 97 ≤ c ∧ c ≤ 122 := by
  rw [letters_eq, List.mem_map]
  constructor
  · rintro ⟨a, ha, rfl⟩
    have := List.mem_range.mp ha
    omega
  · intro h
    exact ⟨c - 97, List.mem_range.mpr (by omega), by omega⟩
/-! ### a sort's row -/
structure Row where
  name : Str
  wt : Int
  wb : Int
  st : Int
  sb : Int
  span : Int
  tries : Int
structure Row.Ok (r : Row) : Prop where
  name : NameOk r.name
  w : Wt r.wt r.wb
  s : Wt r.st r.sb
  sp0 : 1 ≤ r.span
  sp1 : r.span ≤ 4
  tr0 : 1 ≤ r.tries
  tr1 : r.tries ≤ 3
def Row.lo (r : Row) : Row := { r with wt := loT r.wt r.wb, wb := loB r.wt r.wb, st := loT r.st r.sb, sb := loB r.st r.sb }
theorem Row.lo_ok {r : Row} (h : r.Ok) : r.lo.Ok := ⟨h.name, h.w.lo, h.s.lo, h.sp0, h.sp1, h.tr0, h.tr1⟩
theorem Row.lo_lo {r : Row} (h : r.Ok) : r.lo.lo = r.lo := by
  obtain ⟨e1, e2⟩ := lo_idem (t := r.wt) h.w.b0
  obtain ⟨e3, e4⟩ := lo_idem (t := r.st) h.s.b0
  unfold Row.lo
  dsimp only
  rw [e1, e2, e3, e4]
/-- a list of rows that Sorts takes -/
structure RowsOk (rs : List Row) : Prop where
  lo : 1 ≤ rs.length
  hi : rs.length ≤ 8
  ok : ∀ r ∈ rs, r.Ok
  nd : (rs.map (·.name)).Nodup
theorem RowsOk.low {rs : List Row} (h : RowsOk rs) : RowsOk (rs.map Row.lo) := by
  refine ⟨by rw [List.length_map]; exact h.lo, by rw [List.length_map]; exact h.hi, fun r hr => ?_, ?_⟩
  · obtain ⟨q, hq, rfl⟩ := List.mem_map.mp hr
    exact Row.lo_ok (h.ok q hq)
  · rw [List.map_map]
    exact h.nd
theorem RowsOk.low_low {rs : List Row} (h : RowsOk rs) : (rs.map Row.lo).map Row.lo = rs.map Row.lo := by
  rw [List.map_map]
  exact List.map_congr_left fun r hr => Row.lo_lo (h.ok r hr)
/-- one row with another speed -/
def Row.sp (r : Row) (t b : Int) : Row := { r with st := t, sb := b }
theorem map_set {α β : Type} (f : α → β) : ∀ (l : List α) (i : Nat) (a : α), (l.set i a).map f = (l.map f).set i (f a)
  | [], _, _ => rfl
  | _ :: _, 0, _ => rfl
  | x :: l, i + 1, a => congrArg (f x :: ·) (map_set f l i a)
theorem set_same {α : Type} : ∀ (l : List α) (i : Nat) (a : α), l[i]? = some a → l.set i a = l
  | [], _, _, h => by simp at h
  | x :: l, 0, a, h => by
    have e : x = a := by simpa using h
    rw [e]
    rfl
  | x :: l, i + 1, a, h => congrArg (x :: ·) (set_same l i a (by simpa using h))
theorem RowsOk.set {rs : List Row} (h : RowsOk rs) {i : Nat} {r : Row} {t b : Int} (hi : rs[i]? = some r) (hw : Wt t b) : RowsOk (rs.set i (r.sp t b)) := by
  refine ⟨by rw [List.length_set]; exact h.lo, by rw [List.length_set]; exact h.hi, fun q hq => ?_, ?_⟩
  · have hr := h.ok r (List.mem_of_getElem? hi)
    rcases List.mem_or_eq_of_mem_set hq with m | rfl
    · exact h.ok q m
    · exact ⟨hr.name, hr.w, hw, hr.sp0, hr.sp1, hr.tr0, hr.tr1⟩
  · rw [map_set]
    have e : (rs.map (·.name))[i]? = some (r.sp t b).name := by
      rw [List.getElem?_map, hi]
      rfl
    rw [set_same _ _ _ e]
    exact h.nd
/-- two rows of one name are one -/
theorem nodup_at {rs : List Row} (nd : (rs.map (·.name)).Nodup) {i j : Nat} {r q : Row} (hi : rs[i]? = some r) (hj : rs[j]? = some q) (e : r.name = q.name) : i = j := by
  have h1 : (rs.map (·.name))[i]? = some r.name := by rw [List.getElem?_map, hi]; rfl
  have h2 : (rs.map (·.name))[j]? = some r.name := by rw [List.getElem?_map, hj, e]; rfl
  exact nodup_ix nd h1 h2
/-! ## 4. The heap -/
/-- what is no list stays -/
def ExN (H H' : Hp) : Prop := ∀ a o, H a = some o → (∀ xs, o ≠ .lst xs) → H' a = some o
theorem ExN.of {H H' : Hp} (h : Same H H') : ExN H H' := fun a o e _ => h a o e
theorem ExN.refl (H : Hp) : ExN H H := fun _ _ e _ => e
theorem ExN.trans {H H1 H2 : Hp} (a : ExN H H1) (b : ExN H1 H2) : ExN H H2 := fun x o e n => b x o (a x o e n) n
theorem ExN.lst {H : Hp} {l : Addr} {xs : List V} {o : HO} (h : H l = some (.lst xs)) : ExN H (upd H l o) := fun a u e n => by
  rw [upd_ne (fun z => by rw [z, h] at e; exact n xs (Option.some.inj e).symm)]
  exact e
theorem same_upd {H : Hp} {p : Addr} {o : HO} (h : H p = none) : Same H (upd H p o) := fun b x e => by
  rw [upd_ne (ne_of_none e h)]
  exact e
/-- an address that H does not know may change -/
theorem same_mut {H H' : Hp} {p : Addr} {o : HO} (e : Same H H') (h : H p = none) : Same H (upd H' p o) := fun a u ha => by
  rw [upd_ne (ne_of_none ha h)]
  exact e a u ha
theorem no_lst_tup {ys : List V} : ∀ xs, HO.tup ys ≠ .lst xs := fun xs z => by cases z
theorem no_lst_dk {ys : List (Key × V)} : ∀ xs, HO.dK ys ≠ .lst xs := fun xs z => by cases z
theorem no_lst_ins {C dx : Addr} {fs : List (Str × V)} : ∀ xs, HO.ins C dx fs ≠ .lst xs := fun xs z => by cases z
/-- a pair of ints at a -/
def PairAt (H : Hp) (v : V) (t b : Int) : Prop := ∃ a, v = .ref a ∧ H a = some (.tup [.int t, .int b])
theorem PairAt.ex {H H' : Hp} {v : V} {t b : Int} (h : PairAt H v t b) (e : ExN H H') : PairAt H' v t b := by
  obtain ⟨a, rfl, ha⟩ := h
  exact ⟨a, rfl, e _ _ ha no_lst_tup⟩
/-- a row -/
def RowAt (H : Hp) (v : V) (r : Row) : Prop := ∃ (a : Addr) (w s : V), v = .ref a ∧ H a = some (.tup [.str r.name, w, s, .int r.span, .int r.tries]) ∧ PairAt H w r.wt r.wb ∧ PairAt H s r.st r.sb
theorem RowAt.ex {H H' : Hp} {v : V} {r : Row} (h : RowAt H v r) (e : ExN H H') : RowAt H' v r := by
  obtain ⟨a, w, s, rfl, ha, hw, hs⟩ := h
  exact ⟨a, w, s, rfl, e _ _ ha no_lst_tup, hw.ex e, hs.ex e⟩
/-- rows, one by one -/
structure RowsAt (H : Hp) (xs : List V) (rs : List Row) : Prop where
  len : xs.length = rs.length
  at_ : ∀ (i : Nat) x r, xs[i]? = some x → rs[i]? = some r → RowAt H x r
theorem RowsAt.ex {H H' : Hp} {xs : List V} {rs : List Row} (h : RowsAt H xs rs) (e : ExN H H') : RowsAt H' xs rs := ⟨h.len, fun i x r h1 h2 => (h.at_ i x r h1 h2).ex e⟩
theorem RowsAt.nil {H : Hp} : RowsAt H [] [] := ⟨rfl, fun i x r h _ => by simp at h⟩
theorem RowsAt.snoc {H : Hp} {xs : List V} {rs : List Row} {x : V} {r : Row} (h : RowsAt H xs rs) (hx : RowAt H x r) : RowsAt H (xs ++ [x]) (rs ++ [r]) := by
  refine ⟨by rw [List.length_append, List.length_append, h.len]; rfl, fun i y q h1 h2 => ?_⟩
  by_cases hi : i < xs.length
  · rw [List.getElem?_append_left hi] at h1
    rw [List.getElem?_append_left (by rw [← h.len]; exact hi)] at h2
    exact h.at_ i y q h1 h2
  · rw [List.getElem?_append_right (by omega)] at h1
    rw [List.getElem?_append_right (by rw [← h.len]; omega)] at h2
    rw [← h.len] at h2
    have e : i - xs.length = 0 := by
      have := (List.getElem?_eq_some_iff.mp h1).1
      simp at this
      omega
    rw [e] at h1 h2
    have e1 : x = y := by simpa using h1
    have e2 : r = q := by simpa using h2
    rw [← e1, ← e2]
    exact hx
theorem RowsAt.get {H : Hp} {xs : List V} {rs : List Row} (h : RowsAt H xs rs) {i : Nat} {x : V} (hi : xs[i]? = some x) : ∃ r, rs[i]? = some r ∧ RowAt H x r := by
  have hl : i < rs.length := by
    rw [← h.len]
    exact (List.getElem?_eq_some_iff.mp hi).1
  exact ⟨rs[i], List.getElem?_eq_getElem hl, h.at_ i x _ hi (List.getElem?_eq_getElem hl)⟩
theorem RowsAt.get2 {H : Hp} {xs : List V} {rs : List Row} (h : RowsAt H xs rs) {i : Nat} {r : Row} (hi : rs[i]? = some r) : ∃ x, xs[i]? = some x ∧ RowAt H x r := by
  have hl : i < xs.length := by
    rw [h.len]
    exact (List.getElem?_eq_some_iff.mp hi).1
  exact ⟨xs[i], List.getElem?_eq_getElem hl, h.at_ i _ _ (List.getElem?_eq_getElem hl) hi⟩
/-- the attributes of a Sort, in the order of its __init__ -/
def sortF (r : Row) (w s : V) : List (Str × V) := putF "tries" (.int r.tries) (putF "span" (.int r.span) (putF "speed" s (putF "weight" w (putF "name" (.str r.name) []))))
theorem sortF_eq (r : Row) (w s : V) : sortF r w s = ([("name", .str r.name), ("weight", w), ("speed", s), ("span", .int r.span), ("tries", .int r.tries)] : List (Str × V)) := by
  unfold sortF
  rfl
/-- a Sort -/
def SortAt (C : Addr) (H : Hp) (v : V) (r : Row) : Prop := ∃ (a dx : Addr) (w s : V), v = .ref a ∧ H a = some (.ins C dx (sortF r w s)) ∧ PairAt H w r.wt r.wb ∧ PairAt H s r.st r.sb
theorem SortAt.ex {C : Addr} {H H' : Hp} {v : V} {r : Row} (h : SortAt C H v r) (e : ExN H H') : SortAt C H' v r := by
  obtain ⟨a, dx, w, s, rfl, ha, hw, hs⟩ := h
  exact ⟨a, dx, w, s, rfl, e _ _ ha no_lst_ins, hw.ex e, hs.ex e⟩
/-- the dict of sorts -/
structure DictAt (C : Addr) (H : Hp) (kvs : List (Key × V)) (rs : List Row) : Prop where
  len : kvs.length = rs.length
  at_ : ∀ (i : Nat) kv r, kvs[i]? = some kv → rs[i]? = some r → kv.1 = .inr r.name ∧ SortAt C H kv.2 r
theorem DictAt.ex {C : Addr} {H H' : Hp} {kvs : List (Key × V)} {rs : List Row} (h : DictAt C H kvs rs) (e : ExN H H') : DictAt C H' kvs rs :=
  ⟨h.len, fun i kv r h1 h2 => ⟨(h.at_ i kv r h1 h2).1, (h.at_ i kv r h1 h2).2.ex e⟩⟩
theorem DictAt.nil {C : Addr} {H : Hp} : DictAt C H [] [] := ⟨rfl, fun i kv r h _ => by simp at h⟩
theorem DictAt.snoc {C : Addr} {H : Hp} {kvs : List (Key × V)} {rs : List Row} {v : V} {r : Row} (h : DictAt C H kvs rs) (hx : SortAt C H v r) : DictAt C H (kvs ++ [(.inr r.name, v)]) (rs ++ [r]) := by
  refine ⟨by rw [List.length_append, List.length_append, h.len]; rfl, fun i y q h1 h2 => ?_⟩
  by_cases hi : i < kvs.length
  · rw [List.getElem?_append_left hi] at h1
    rw [List.getElem?_append_left (by rw [← h.len]; exact hi)] at h2
    exact h.at_ i y q h1 h2
  · rw [List.getElem?_append_right (by omega)] at h1
    rw [List.getElem?_append_right (by rw [← h.len]; omega)] at h2
    rw [← h.len] at h2
    have e : i - kvs.length = 0 := by
      have := (List.getElem?_eq_some_iff.mp h1).1
      simp at this
      omega
    rw [e] at h1 h2
    have e1 : ((Sum.inr r.name : Key), v) = y := by simpa using h1
    have e2 : r = q := by simpa using h2
    rw [← e1, ← e2]
    exact ⟨rfl, hx⟩
theorem DictAt.keys {C : Addr} {H : Hp} {kvs : List (Key × V)} {rs : List Row} (h : DictAt C H kvs rs) : kvs.map (·.1) = rs.map fun r => (Sum.inr r.name : Key) := by
  refine List.ext_getElem? fun i => ?_
  rw [List.getElem?_map, List.getElem?_map]
  cases e1 : kvs[i]? with
  | none =>
    have hl : rs.length ≤ i := by
      rw [← h.len]
      exact List.getElem?_eq_none_iff.mp e1
    rw [List.getElem?_eq_none_iff.mpr hl]
    rfl
  | some kv =>
    have hl : i < rs.length := by
      rw [← h.len]
      exact (List.getElem?_eq_some_iff.mp e1).1
    rw [List.getElem?_eq_getElem hl]
    exact congrArg some (h.at_ i kv _ e1 (List.getElem?_eq_getElem hl)).1
/-- a name that there is -/
theorem valV_in {kvs : List (Key × V)} {ks : List Key} (hk : kvs.map (·.1) = ks) {k : Key} : ∀ {i : Nat} {kv : Key × V}, kvs[i]? = some kv → kv.1 = k → ks.Nodup → valV kvs k = some kv.2 := by
  subst hk
  induction kvs with
  | nil =>
    intro i kv h
    simp at h
  | cons p r ih =>
    intro i kv h e nd
    rw [List.map_cons, List.nodup_cons] at nd
    cases i with
    | zero =>
      have e2 : p = kv := by simpa using h
      rw [e2]
      exact valV_pos e
    | succ i =>
      have h2 : r[i]? = some kv := by simpa using h
      have hn : ¬ p.1 = k := fun z => nd.1 (by
        rw [z, ← e]
        exact List.mem_map_of_mem (List.mem_of_getElem? h2))
      rw [valV_neg hn]
      exact ih h2 e nd.2
theorem valV_out {k : Key} : ∀ {kvs : List (Key × V)}, k ∉ kvs.map (·.1) → valV kvs k = none
  | [], _ => rfl
  | p :: r, h => by
    rw [List.map_cons, List.mem_cons, not_or] at h
    rw [valV_neg (fun z => h.1 z.symm)]
    exact valV_out h.2
theorem inr_nodup {l : List Row} (h : (l.map (·.name)).Nodup) : (l.map fun r => (Sum.inr r.name : Key)).Nodup := by
  have e : (l.map fun r => (Sum.inr r.name : Key)) = (l.map (·.name)).map fun z => (Sum.inr z : Key) := by
    rw [List.map_map]
    rfl
  rw [e]
  exact List.Pairwise.map _ (fun a b hab z => hab (Sum.inr.inj z)) h
theorem DictAt.val {C : Addr} {H : Hp} {kvs : List (Key × V)} {rs : List Row} (h : DictAt C H kvs rs) (nd : (rs.map (·.name)).Nodup) {r : Row} (hr : r ∈ rs) : ∃ v, valV kvs (Sum.inr r.name) = some v ∧ SortAt C H v r := by
  obtain ⟨i, hi, e⟩ := List.mem_iff_getElem.mp hr
  have h2 : rs[i]? = some r := by rw [List.getElem?_eq_getElem hi, e]
  have hl : i < kvs.length := by rw [h.len]; exact hi
  obtain ⟨e1, e2⟩ := h.at_ i _ r (List.getElem?_eq_getElem hl) h2
  exact ⟨_, valV_in h.keys (List.getElem?_eq_getElem hl) e1 (inr_nodup nd), e2⟩
theorem DictAt.noval {C : Addr} {H : Hp} {kvs : List (Key × V)} {rs : List Row} (h : DictAt C H kvs rs) {z : Str} (hz : ∀ r ∈ rs, r.name ≠ z) : valV kvs (Sum.inr z : Key) = none := by
  refine valV_out fun hm => ?_
  rw [h.keys] at hm
  obtain ⟨r, hr, e⟩ := List.mem_map.mp hm
  exact hz r hr (Sum.inr.inj e)
/-- the attributes of Sorts -/
def sortsF (d : Addr) : List (Str × V) := putF "by_name" (.ref d) []
/-- Sorts of rows in lowest terms -/
structure SortsAt (C CS : Addr) (H : Hp) (p : Addr) (rs : List Row) : Prop where
  ob : ∃ dx d kvs, H p = some (.ins CS dx (sortsF d)) ∧ H d = some (.dK kvs) ∧ DictAt C H kvs rs
  ok : RowsOk rs
  lo : rs.map Row.lo = rs
theorem SortsAt.ex {C CS : Addr} {H H' : Hp} {p : Addr} {rs : List Row} (h : SortsAt C CS H p rs) (e : ExN H H') : SortsAt C CS H' p rs := by
  obtain ⟨dx, d, kvs, h1, h2, h3⟩ := h.ob
  exact ⟨⟨dx, d, kvs, e _ _ h1 no_lst_ins, e _ _ h2 no_lst_dk, h3.ex e⟩, h.ok, h.lo⟩
end Gw
namespace Gw
open PySem PySem.Spec PyProof.Rows L2
/-! ## 5. words and weights -/
/-! ### kinds of things -/
inductive Kd (H : Hp) : V → Prop where
  | non : Kd H .non
  | bl (b : Bool) : Kd H (.bl b)
  | int (i : Int) : Kd H (.int i)
  | str (z : Str) : Kd H (.str z)
  | lst {a : Addr} {xs : List V} (h : H a = some (.lst xs)) : Kd H (.ref a)
  | tup {a : Addr} {xs : List V} (h : H a = some (.tup xs)) : Kd H (.ref a)
  | dic {a : Addr} {kvs : List (Key × V)} (h : H a = some (.dK kvs)) : Kd H (.ref a)
theorem Kd.ex {H H' : Hp} {x : V} (k : Kd H x) (e : Same H H') : Kd H' x := by
  cases k with
  | non => exact .non
  | bl b => exact .bl b
  | int i => exact .int i
  | str z => exact .str z
  | lst h => exact .lst (e _ _ h)
  | tup h => exact .tup (e _ _ h)
  | dic h => exact .dic (e _ _ h)
def tyO : Option HO → String
  | some (.lst _) => "list"
  | some (.tup _) => "tuple"
  | some (.dK _) => "dict"
  | _ => "object"
def tyS (H : Hp) : V → String
  | .non => "NoneType"
  | .bl _ => "bool"
  | .int _ => "int"
  | .str _ => "str"
  | .byt _ => "bytes"
  | .flt _ => "float"
  | .ty _ => "type"
  | .ref a => tyO (H a)
def kinds : List String := ["NoneType", "bool", "int", "str", "list", "tuple", "dict"]
def isT (c T : String) : Bool := T == c || (T == "bool" && c == "int")
theorem kit_all : ∀ T ∈ kinds, ∀ c ∈ (["int", "bool", "str", "tuple", "list"] : List String), kitB T c = some (isT c T) := by decide +kernel
theorem tyS_of {H : Hp} {a : Addr} {o : HO} (h : H a = some o) : tyS H (.ref a) = tyO (some o) := by
  show tyO (H a) = _
  rw [h]
theorem Kd.ty {K : PySem.W.Frag} {H : Hp} {x : V} (k : Kd H x) : TyX K H x (.type (tyS H x)) ∧ tyS H x ∈ kinds := by
  cases k with
  | non => exact ⟨.base .non, by show "NoneType" ∈ kinds; decide⟩
  | bl b => exact ⟨.base (.bl b), by show "bool" ∈ kinds; decide⟩
  | int i => exact ⟨.base (.int i), by show "int" ∈ kinds; decide⟩
  | str z => exact ⟨.base (.str z), by show "str" ∈ kinds; decide⟩
  | @lst a xs h =>
    have e : tyS H (.ref a) = "list" := tyS_of h
    rw [e]
    exact ⟨.base (.lst h), by decide⟩
  | @tup a xs h =>
    have e : tyS H (.ref a) = "tuple" := tyS_of h
    rw [e]
    exact ⟨.base (.tup h), by decide⟩
  | @dic a kvs h =>
    have e : tyS H (.ref a) = "dict" := tyS_of h
    rw [e]
    exact ⟨.base (.dK h), by decide⟩
theorem Kd.kit {K : PySem.W.Frag} {H : Hp} {x : V} (k : Kd H x) (c : String) (hc : c ∈ (["int", "bool", "str", "tuple", "list"] : List String)) : PySem.W.kitOne K (.type (tyS H x)) (.type c) = some (isT c (tyS H x)) := kit_ty (kit_all _ (k.ty (K := K)).2 c hc)
/-! ### is_whole -/
def wholeV : V → Int → Int → Bool
  | .int i, lo, hi => decide (lo ≤ i) && decide (i ≤ hi)
  | _, _, _ => false
def spWhole : Sp := fun vs H Q _ => ∃ (x : V) (lo hi : Int), vs = [x, .int lo, .int hi] ∧ Kd H x ∧ Q (.bl (wholeV x lo hi)) H
section
variable {P : Program} {w : World} {K : PySem.W.Frag} {mg : Str → Option Value} {base : Heap}
theorem scWhole : FnScope ["thing", "low", "high"] ["thing", "low", "high"] (defScope sWhole) := ⟨rfl, rfl, rfl, by decide +kernel, rfl, by decide +kernel, by decide +kernel⟩
theorem ok_whole {f : Addr} {fd : FuncData} (F : FnP K "is_whole" "is_whole" sWhole f fd) (m1 : mg "isinstance" = none) (m2 : mg "int" = none) (m3 : mg "bool" = none) : FnOk P w K mg base CX0 1 f fd ["thing", "low", "high"] spWhole := by
  refine F.ok scWhole (fun vs H Q E h => ?_) (fun cdv A outer s H vs Q E hr h => ?_)
  · obtain ⟨x, lo, hi, rfl, _⟩ := h
    rfl
  · obtain ⟨x, lo, hi, rfl, k, q⟩ := h
    refine ⟨_, PSs.nox (pss_one (ps_ret (pe_and (pe_callB call_isi (by rfl) m1 (by decide +kernel) (pa_cons (pv 0) (pa_cons (pe_bltn (v := .ty "int") (by rfl) m2 (by decide +kernel) rfl) pa_nil)))
      (pe_and (pe_not (pe_callB call_isi (by rfl) m1 (by decide +kernel) (pa_cons (pv 0) (pa_cons (pe_bltn (v := .ty "bool") (by rfl) m3 (by decide +kernel) rfl) pa_nil))))
        (pe_one (pe_chain op_le op_le (pv 1) (pv 0) (pv 2))))))), ?_⟩
    refine ⟨_, rfl, x, .ty "int", _, _, _, rfl, .ty _, k.ty.1, k.kit "int" (by decide), _, rfl, ?_⟩
    have end_ : ∀ b, b = wholeV x lo hi → Q (.bl b) H := fun b e => by rw [e]; exact q
    cases k with
    | int i =>
      refine iteT ⟨_, rfl, .int i, .ty "bool", _, _, _, rfl, .ty _, (Kd.int i).ty.1, (Kd.int i).kit "bool" (by decide), _, rfl, _, rfl, ?_⟩
      refine iteT ⟨_, rfl, _, rfl, _, _, rfl, rfl, _, rfl, ?_⟩
      cases e : decide (lo ≤ i) with
      | true =>
        refine iteT ⟨_, rfl, _, _, rfl, rfl, end_ _ ?_⟩
        show decide (i ≤ hi) = (decide (lo ≤ i) && decide (i ≤ hi))
        rw [e]
        rfl
      | false =>
        refine iteF (end_ _ ?_)
        show false = (decide (lo ≤ i) && decide (i ≤ hi))
        rw [e]
        rfl
    | bl b =>
      refine iteT ⟨_, rfl, .bl b, .ty "bool", _, _, _, rfl, .ty _, (Kd.bl b).ty.1, (Kd.bl b).kit "bool" (by decide), _, rfl, _, rfl, ?_⟩
      exact iteF (end_ _ rfl)
    | non => exact iteF (end_ _ rfl)
    | str z => exact iteF (end_ _ rfl)
    | lst h =>
      rw [tyS_of h]
      exact iteF (end_ _ rfl)
    | tup h =>
      rw [tyS_of h]
      exact iteF (end_ _ rfl)
    | dic h =>
      rw [tyS_of h]
      exact iteF (end_ _ rfl)
end
end Gw
namespace Gw
open PySem PySem.Spec PyProof.Rows L2
/-- a comprehension over any walk of n turns -/
theorem lc_gen {J : It} {n : Nat} {g : TG} {tt : TT} {te : TE} {vs : List Nat} {σ : L2.St} {H1 : Hp} {D : Addr} {Qd : Hp → Prop} (Pv : Nat → Hp → Prop) (h0 : Pv 0 (upd H1 D (.lst [])))
    (hgo : ∀ i H, i < n → Pv i H → J.go i H) (hst : ∀ H, Pv n H → J.stop n H)
    (hs : ∀ i H x H', i < n → Pv i H → J.yld i H x H' → g x (wipe σ vs) H' fun σ2 H2 => wipe σ2 vs = wipe σ vs ∧ tt σ2 H2 fun b H3 =>
      if b = true then te σ2 H3 fun y H4 => ∃ acc, H4 D = some (.lst acc) ∧ acc.length < sizeLine ∧ Pv (i + 1) (upd H4 D (.lst (acc ++ [y]))) else Pv (i + 1) H3) (hd : ∀ H, Pv n H → Qd H) :
    ∃ W : Nat → Nat → Hp → Prop, (∃ m, W 0 m (upd H1 D (.lst []))) ∧ ∀ i m H, W i m H →
      (J.stop i H ∧ Qd H) ∨ (J.go i H ∧ ∃ Nx : Hp → Prop, (∀ H', Nx H' → ∃ m', m' < m ∧ W (i + 1) m' H') ∧ ∀ x H', J.yld i H x H' → g x (wipe σ vs) H' fun σ2 H2 => wipe σ2 vs = wipe σ vs ∧ tt σ2 H2 fun b H3 =>
        if b = true then te σ2 H3 fun y H4 => ∃ acc, H4 D = some (.lst acc) ∧ acc.length < sizeLine ∧ Nx (upd H4 D (.lst (acc ++ [y]))) else Nx H3) := by
  refine ⟨fun i m H => m = n - i ∧ i ≤ n ∧ Pv i H, ⟨n, rfl, Nat.zero_le _, h0⟩, fun i m H hw => ?_⟩
  obtain ⟨rfl, hi, p⟩ := hw
  by_cases hlt : i < n
  · exact .inr ⟨hgo i H hlt p, Pv (i + 1), fun H' p' => ⟨n - (i + 1), by omega, rfl, hlt, p'⟩, fun x H' y => hs i H x H' hlt p y⟩
  · have e : i = n := by omega
    subst e
    exact .inl ⟨hst H p, hd H p⟩
/-! ### is_name -/
def isNameV : V → Prop
  | .str z => NameOk z
  | _ => False
def spName : Sp := fun vs H Q _ => ∃ x : V, vs = [x] ∧ Kd H x ∧ (∀ z, x = .str z → z.length ≤ 1000) ∧ ∀ (b : Bool) H', Same H H' → (b = true ↔ isNameV x) → Q (.bl b) H'
section
variable {P : Program} {w : World} {K : PySem.W.Frag} {mg : Str → Option Value} {base : Heap}
theorem scName : FnScope ["thing", "sign"] ["thing"] (defScope sName) := ⟨rfl, rfl, rfl, by decide +kernel, rfl, by decide +kernel, by decide +kernel⟩
theorem ok_name {f : Addr} {fd : FuncData} (F : FnP K "is_name" "is_name" sName f fd) (m1 : mg "isinstance" = none) (m2 : mg "str" = none) (m3 : mg "len" = none) (m4 : mg "all" = none) (mL : ∃ t, mg "LETTERS" = some (.str letters t)) :
    FnOk P w K mg base CX0 1 f fd ["thing"] spName := by
  refine F.ok scName (fun vs H Q E h => ?_) (fun cdv A outer s H vs Q E hr h => ?_)
  · obtain ⟨x, rfl, _⟩ := h
    rfl
  · obtain ⟨x, rfl, k, hz, q⟩ := h
    obtain ⟨tL, mL⟩ := mL
    refine ⟨_, PSs.nox (pss_cons (ps_if (PW.pt (pw_or (pt_not (pt_val (pe_callB call_isi (by rfl) m1 (by decide +kernel) (pa_cons (pv 0) (pa_cons (pe_bltn (v := .ty "str") (by rfl) m2 (by decide +kernel) rfl) pa_nil)))))
        (pw_or1 (pt_not (pt_chain op_le op_le pe_int (pe_callB call_len (by rfl) m3 PySem.boot_len (pa_cons (pv 0) pa_nil)) pe_int))))) (pss_one (ps_ret pe_bl)) pss_nil)
      (pss_one (ps_ret (pe_callB (cr_all rfl) (by rfl) m4 (by decide +kernel) (pa_cons (pe_lc (own := [("sign", 1)]) (g := gName 1) (tt := tYes) rfl scName.nd (pi_str (pv 0)) (blkOk_by (N := ["thing", "sign"]) (sc := defScope sName) (by decide +kernel))
        (fun _ _ _ _ _ => pg_name (i := 1) scName.nd rfl (Or.inl rfl)) (fun _ _ _ _ _ => pts_nil) (fun _ _ _ _ _ => pe_cmpR op_in_sign (pv 1) (pe_glob (v := .str letters) (by rfl) mL ⟨_, rfl⟩) rfl)) pa_nil))))), ?_⟩
    refine ⟨_, rfl, x, .ty "str", _, _, _, rfl, .ty _, k.ty.1, k.kit "str" (by decide), _, rfl, ?_⟩
    have no : tyS H x = "str" → ∃ z, x = .str z := by
      cases k with
      | str z => exact fun _ => ⟨z, rfl⟩
      | non => exact fun h => absurd h (by show ¬ "NoneType" = "str"; decide)
      | bl b => exact fun h => absurd h (by show ¬ "bool" = "str"; decide)
      | int i => exact fun h => absurd h (by show ¬ "int" = "str"; decide)
      | lst h => rw [tyS_of h]; exact fun h => absurd h (by show ¬ "list" = "str"; decide)
      | tup h => rw [tyS_of h]; exact fun h => absurd h (by show ¬ "tuple" = "str"; decide)
      | dic h => rw [tyS_of h]; exact fun h => absurd h (by show ¬ "dict" = "str"; decide)
    by_cases ex : ∃ z, x = .str z
    · obtain ⟨z, rfl⟩ := ex
      have hz1 := hz z rfl
      refine iteF ⟨_, rfl, .str z, z.length, rfl, ⟨by rw [sizeLine_eq]; omega, rfl⟩, _, _, rfl, rfl, _, rfl, ?_⟩
      by_cases h1 : (1 : Int) ≤ (z.length : Int)
      · rw [decide_eq_true h1]
        refine iteT ⟨_, _, rfl, rfl, _, rfl, ?_⟩
        by_cases h8 : (z.length : Int) ≤ 8
        · rw [decide_eq_true h8]
          refine iteF ?_
          -- all([..])
          refine ⟨_, rfl, z, rfl, fun D hD => lc_gen (n := z.cps.size) (fun i H' => Same H H' ∧ H' D = some (.lst ((z.cps.toList.take i).map fun c => V.bl (decide (c ∈ letters.cps.toList)))))
            ⟨same_upd hD, upd_same⟩ (fun i H' hi _ => hi) (fun H' _ => Nat.le_refl _) (fun i H' y H2 hi p hy => ?_) fun H' p => ?_⟩
          · obtain ⟨rfl, c, hc, rfl⟩ := hy
            obtain ⟨p1, p2⟩ := p
            refine ⟨rfl, _, rfl, c, letters, rfl, rfl, _, p2, ?_, same_mut p1 hD, ?_⟩
            · have e0 : z.length = z.cps.size := rfl
              rw [List.length_map, List.length_take, sizeLine_eq]
              omega
            · rw [upd_same, List.take_add_one, List.map_append]
              have e : z.cps.toList[i]? = some c := by
                rw [Array.getElem?_toList]
                exact hc
              rw [e]
              rfl
          · obtain ⟨p1, p2⟩ := p
            have e : z.cps.toList.take z.cps.size = z.cps.toList := List.take_of_length_le (by simp)
            rw [e] at p2
            refine ⟨D, z.cps.toList.map fun c => decide (c ∈ letters.cps.toList), rfl, .inl (.inl ?_), q _ H' p1 ?_⟩
            · rw [p2, List.map_map]
              rfl
            · rw [List.all_map, List.all_eq_true]
              refine ⟨fun h => ⟨by omega, by omega, fun c hc => mem_letters.mp (of_decide_eq_true (h c hc))⟩, fun h c hc => decide_eq_true (mem_letters.mpr (h.az c hc))⟩
        · rw [decide_eq_false h8]
          refine iteT (q false H (Same.refl H) ⟨(fun z => by cases z), fun h => ?_⟩)
          have h := h.hi
          omega
      · rw [decide_eq_false h1]
        refine iteF ⟨_, rfl, iteT (q false H (Same.refl H) ⟨(fun z => by cases z), fun h => ?_⟩)⟩
        have h := h.lo
        omega
    · have e : isT "str" (tyS H x) = false := by
        cases e : isT "str" (tyS H x) with
        | false => rfl
        | true =>
          have e2 : (tyS H x == "str" || (tyS H x == "bool" && "str" == "int")) = true := e
          rw [Bool.or_eq_true] at e2
          rcases e2 with e2 | e2
          · exact absurd (no (eq_of_beq e2)) ex
          · have e3 := (Bool.and_eq_true_iff.mp e2).2
            exact absurd e3 (by decide)
      rw [e]
      refine iteT (q false H (Same.refl H) ⟨(fun z => by cases z), fun h => ?_⟩)
      cases x with
      | str z => exact absurd ⟨z, rfl⟩ ex
      | _ => exact (show False from h).elim
/-! ### lowest -/
theorem gcd_mod (x y : Int) : Int.gcd (y % x) x = Int.gcd x y := by
  have e : x * (y / x) + y % x = y := Int.mul_ediv_add_emod y x
  apply Nat.dvd_antisymm
  · have h1 : (Int.gcd (y % x) x : Int) ∣ x := Int.gcd_dvd_right ..
    have h3 : (Int.gcd (y % x) x : Int) ∣ y % x := Int.gcd_dvd_left ..
    have h2 : (Int.gcd (y % x) x : Int) ∣ x * (y / x) + y % x := Int.dvd_add (Int.dvd_mul_of_dvd_left h1) h3
    rw [e] at h2
    exact Int.ofNat_dvd.mp (Int.dvd_coe_gcd h1 h2)
  · have h1 : (Int.gcd x y : Int) ∣ x := Int.gcd_dvd_left ..
    have h2 : (Int.gcd x y : Int) ∣ y := Int.gcd_dvd_right ..
    have h3 : (Int.gcd x y : Int) ∣ y % x := by
      have e2 : y % x = y - x * (y / x) := by omega
      rw [e2]
      exact Int.dvd_sub h2 (Int.dvd_mul_of_dvd_left h1)
    exact Int.ofNat_dvd.mp (Int.dvd_coe_gcd h3 h1)
def spLowest : Sp := fun vs H Q _ => ∃ t b : Int, vs = [.int t, .int b] ∧ 0 ≤ t ∧ 1 ≤ b ∧ b ≤ 1000000 ∧ ∀ p, H p = none → Q (.ref p) (upd H p (.tup [.int (loT t b), .int (loB t b)]))
theorem scLowest : FnScope ["top", "bottom", "one", "other"] ["top", "bottom"] (defScope sLowest) := ⟨rfl, rfl, rfl, by decide +kernel, rfl, by decide +kernel, by decide +kernel⟩
theorem ok_lowest {f : Addr} {fd : FuncData} (F : FnP K "lowest" "lowest" sLowest f fd) (m1 : mg "abs" = none) : FnOk P w K mg base CX0 1 f fd ["top", "bottom"] spLowest := by
  refine F.ok scLowest (fun vs H Q E h => ?_) (fun cdv A outer s H vs Q E hr h => ?_)
  · obtain ⟨t, b, rfl, _⟩ := h
    rfl
  · obtain ⟨t, b, rfl, t0, b0, b1, q⟩ := h
    refine ⟨_, PSs.nox (pss_cons (ps_set (i := 2) scLowest.nd rfl (.inl rfl) (pe_callB call_abs (by rfl) m1 (by decide +kernel) (pa_cons (pv 0) pa_nil)))
      (pss_cons (ps_set (i := 3) scLowest.nd rfl (.inl rfl) (pv 1))
      (pss_cons (ps_while PassesOwn.never (pt_cmpR op_ne (pv 2) pe_int (nomark _)) (pss_one (ps_par (i := 2) (j := 3) (by rfl) scLowest.nd rfl rfl (by decide) rfl rfl (pa_cons (pe_op op_mod (pv 3) (pv 2)) (pa_cons (pv 2) pa_nil)) (by rfl))))
      (pss_one (ps_ret (pe_tup (pa_cons (pe_op op_fdivN (pv 0) (pv 3)) (pa_cons (pe_op op_fdivN (pv 1) (pv 3)) pa_nil)))))))), ?_⟩
    refine ⟨_, rfl, t, rfl, _, rfl, ?_⟩
    have eabs : (if t < 0 then -t else t) = t := if_neg (by omega)
    rw [eabs]
    refine ⟨fun m σ H' => H' = H ∧ ∃ x y : Int, σ = [some (.int t), some (.int b), some (.int x), some (.int y)] ∧ 0 ≤ x ∧ 0 < y ∧ Int.gcd x y = Int.gcd t b ∧ m = x.toNat, ⟨_, rfl, t, b, rfl, t0, by omega, rfl, rfl⟩, fun m σ H' hw => ?_⟩
    obtain ⟨rfl, x, y, rfl, x0, y0, eg, rfl⟩ := hw
    refine ⟨_, rfl, rfl, _, rfl, ?_⟩
    by_cases hx : x = 0
    · subst hx
      rw [decide_eq_true rfl]
      refine iteF ?_
      have ey : y = (Int.gcd t b : Int) := by
        rw [← eg]
        simp
        omega
      have hle : (Int.gcd t b : Int) ≤ b := Int.le_of_dvd (by omega) (Int.gcd_dvd_right ..)
      refine ⟨_, rfl, _, rfl, _, _, rfl, rfl, ⟨by omega, by omega⟩, _, rfl, _, rfl, _, _, rfl, rfl, ⟨by omega, by omega⟩, by show 2 ≤ sizeLine; decide, fun p hp => ?_⟩
      show Q (.ref p) (upd H' p (.tup [.int (t.fdiv y), .int (b.fdiv y)]))
      rw [Int.fdiv_eq_ediv_of_nonneg _ (by omega), Int.fdiv_eq_ediv_of_nonneg _ (by omega), ey]
      exact q p hp
    · have hd : decide (V.int x = V.int 0) = false := decide_eq_false fun z => hx (V.int.inj z)
      rw [hd]
      refine iteT ⟨_, fun _ _ z => z, ?_⟩
      have h1 := Int.emod_nonneg y hx
      have h2 := Int.emod_lt_of_pos y (show 0 < x by omega)
      refine ⟨_, rfl, _, rfl, _, _, rfl, rfl, by omega, _, rfl, _, _, rfl, (y % x).toNat, by omega, rfl, y % x, x, rfl, h1, by omega, ?_, rfl⟩
      rw [gcd_mod]
      exact eg
/-! ### is_weight -/
/-- whether a thing is a weight -/
inductive IsW (H : Hp) : V → Bool → Prop where
  | other {x : V} (k : Kd H x) (h : ∀ a xs, x = .ref a → H a ≠ some (.tup xs)) : IsW H x false
  | size {a : Addr} {xs : List V} (h : H a = some (.tup xs)) (hl : xs.length ≠ 2) (hz : xs.length ≤ 1000) : IsW H (.ref a) false
  | two {a : Addr} {x y : V} (h : H a = some (.tup [x, y])) (kx : Kd H x) (ky : Kd H y) : IsW H (.ref a) (wholeV x 0 1000000 && wholeV y 1 12)
theorem IsW.yes {H : Hp} {v : V} {t b : Int} (h : PairAt H v t b) (k : Wt t b) : IsW H v true := by
  obtain ⟨a, rfl, ha⟩ := h
  have e : (wholeV (.int t) 0 1000000 && wholeV (.int b) 1 12) = true := by
    show ((decide (0 ≤ t) && decide (t ≤ 1000000)) && (decide (1 ≤ b) && decide (b ≤ 12))) = true
    rw [decide_eq_true k.t0, decide_eq_true k.t1, decide_eq_true k.b0, decide_eq_true k.b1]
    rfl
  rw [← e]
  exact .two ha (.int t) (.int b)
theorem IsW.ex {H H' : Hp} {x : V} {b : Bool} (h : IsW H x b) (e : Same H H') : IsW H' x b := by
  cases h with
  | other k h =>
    refine .other (k.ex e) fun a xs ex q => ?_
    subst ex
    cases k with
    | lst hl =>
      rw [e _ _ hl] at q
      cases q
    | tup ht =>
      exact h _ _ rfl ht
    | dic hd =>
      rw [e _ _ hd] at q
      cases q
  | size h hl hz => exact .size (e _ _ h) hl hz
  | two h kx ky => exact .two (e _ _ h) (kx.ex e) (ky.ex e)
def spIsW : Sp := fun vs H Q _ => ∃ (x : V) (b : Bool), vs = [x] ∧ IsW H x b ∧ Q (.bl b) H
theorem scIsW : FnScope ["thing"] ["thing"] (defScope sIsW) := ⟨rfl, rfl, rfl, by decide +kernel, rfl, by decide +kernel, by decide +kernel⟩
theorem ok_isw {f f1 : Addr} {fd fd1 : FuncData} (F : FnP K "is_weight" "is_weight" sIsW f fd) (m1 : mg "isinstance" = none) (m2 : mg "tuple" = none) (m3 : mg "len" = none) (mT : ∃ t, mg "MOST_TOP" = some (.int 1000000 t)) (mB : ∃ t, mg "MOST_BOTTOM" = some (.int 12 t))
    (G : Cal P w K mg base CX0 1 "is_whole" ["thing", "low", "high"] spWhole f1 fd1) : FnOk P w K mg base CX0 2 f fd ["thing"] spIsW := by
  refine F.ok scIsW (fun vs H Q E h => ?_) (fun cdv A outer s H vs Q E hr h => ?_)
  · obtain ⟨x, b, rfl, _⟩ := h
    rfl
  · obtain ⟨x, b, rfl, hx, q⟩ := h
    obtain ⟨tT, mT⟩ := mT
    obtain ⟨tB, mB⟩ := mB
    refine ⟨_, PSs.nox (pss_cons (ps_if (PW.pt (pw_or (pt_not (pt_val (pe_callB call_isi (by rfl) m1 (by decide +kernel) (pa_cons (pv 0) (pa_cons (pe_bltn (v := .ty "tuple") (by rfl) m2 (by decide +kernel) rfl) pa_nil)))))
        (pw_or1 (pt_cmpR op_ne (pe_callB call_len (by rfl) m3 PySem.boot_len (pa_cons (pv 0) pa_nil)) pe_int (nomark _))))) (pss_one (ps_ret pe_bl)) pss_nil)
      (pss_one (ps_ret (pe_and (pe_call G.F hr (by rfl) G.g G.kp G.b .nil pass0 (pa_cons (pe_ix ix_tup (pv 0) pe_int (fun _ _ => rfl)) (pa_cons pe_int (pa_cons (pe_glob (v := .int 1000000) (by rfl) mT ⟨_, rfl⟩) pa_nil))))
        (pe_one (pe_call G.F hr (by rfl) G.g G.kp G.b .nil pass0 (pa_cons (pe_ix ix_tup (pv 0) pe_int (fun _ _ => rfl)) (pa_cons pe_int (pa_cons (pe_glob (v := .int 12) (by rfl) mB ⟨_, rfl⟩) pa_nil))))))))), ?_⟩
    cases hx with
    | other k h =>
      refine ⟨_, rfl, x, .ty "tuple", _, _, _, rfl, .ty _, k.ty.1, k.kit "tuple" (by decide), _, rfl, ?_⟩
      cases k with
      | non => exact iteT q
      | bl b => exact iteT q
      | int i => exact iteT q
      | str z => exact iteT q
      | lst h2 =>
        rw [tyS_of h2]
        exact iteT q
      | tup ht => exact absurd ht (h _ _ rfl)
      | dic h2 =>
        rw [tyS_of h2]
        exact iteT q
    | @size a xs h hl hz =>
      have k : Kd H (.ref a) := .tup h
      refine ⟨_, rfl, .ref a, .ty "tuple", _, _, _, rfl, .ty _, k.ty.1, k.kit "tuple" (by decide), _, rfl, ?_⟩
      rw [tyS_of h]
      refine iteF ⟨_, rfl, .ref a, xs.length, rfl, .inr ⟨xs, SqT.of h, rfl⟩, rfl, _, rfl, ?_⟩
      have e : decide (V.int (xs.length : Int) = V.int 2) = false := decide_eq_false fun z => hl (by have := V.int.inj z; omega)
      rw [e]
      exact iteT q
    | @two a x y h kx ky =>
      have k : Kd H (.ref a) := .tup h
      refine ⟨_, rfl, .ref a, .ty "tuple", _, _, _, rfl, .ty _, k.ty.1, k.kit "tuple" (by decide), _, rfl, ?_⟩
      rw [tyS_of h]
      refine iteF ⟨_, rfl, .ref a, 2, rfl, .inr ⟨[x, y], SqT.of h, rfl⟩, rfl, _, rfl, ?_⟩
      refine iteNS rfl ⟨_, rfl, a, [x, y], 0, x, rfl, rfl, SqT.of h, atI_nat (j := 0) rfl, x, 0, 1000000, rfl, kx, _, rfl, ?_⟩
      cases e : wholeV x 0 1000000 with
      | true =>
        rw [e] at q
        exact iteT ⟨_, rfl, a, [x, y], 1, y, rfl, rfl, SqT.of h, atI_nat (j := 1) rfl, y, 1, 12, rfl, ky, q⟩
      | false =>
        rw [e] at q
        exact iteF q
end
end Gw
namespace Gw
open PySem PySem.Spec PyProof.Rows L2
/-! ## 6. Sort, is_row, Sorts -/
/-- tuples stay -/
def TupEx (H H' : Hp) : Prop := ∀ a xs, H a = some (.tup xs) → H' a = some (.tup xs)
theorem TupEx.of {H H' : Hp} (h : Same H H') : TupEx H H' := fun a xs e => h a _ e
theorem TupEx.trans {H H1 H2 : Hp} (a : TupEx H H1) (b : TupEx H1 H2) : TupEx H H2 := fun x xs e => b x xs (a x xs e)
theorem PairAt.tx {H H' : Hp} {v : V} {t b : Int} (h : PairAt H v t b) (e : TupEx H H') : PairAt H' v t b := by
  obtain ⟨a, rfl, ha⟩ := h
  exact ⟨a, rfl, e _ _ ha⟩
theorem RowAt.tx {H H' : Hp} {v : V} {r : Row} (h : RowAt H v r) (e : TupEx H H') : RowAt H' v r := by
  obtain ⟨a, w, s, rfl, ha, hw, hs⟩ := h
  exact ⟨a, w, s, rfl, e _ _ ha, hw.tx e, hs.tx e⟩
theorem RowsAt.tx {H H' : Hp} {xs : List V} {rs : List Row} (h : RowsAt H xs rs) (e : TupEx H H') : RowsAt H' xs rs := ⟨h.len, fun i x r h1 h2 => (h.at_ i x r h1 h2).tx e⟩
/-- all but the object at p stays -/
def ExP (p : Addr) (H H' : Hp) : Prop := ∀ b o, H b = some o → b ≠ p → H' b = some o
theorem ExP.tx {p C dx : Addr} {fs : List (Str × V)} {H H' : Hp} (h : ExP p H H') (hp : H p = some (.ins C dx fs)) : TupEx H H' := fun a xs e => h a _ e (ne_of e hp (fun z => by cases z))
theorem ExP.same {p : Addr} {H H1 H2 : Hp} (h : ExP p H H1) (e : Same H1 H2) : ExP p H H2 := fun b o k n => e _ _ (h b o k n)
/-- what the top has written of the classes -/
structure SortTx (K : PySem.W.Frag) (C : Addr) : Prop where
  cl : Cls K C
  n1 : NoAttr K C "name"
  n2 : NoAttr K C "weight"
  n3 : NoAttr K C "speed"
  n4 : NoAttr K C "span"
  n5 : NoAttr K C "tries"
structure SortsTx (K : PySem.W.Frag) (CS : Addr) : Prop where
  cl : Cls K CS
  nb : NoAttr K CS "by_name"
section
variable {P : Program} {w : World} {K : PySem.W.Frag} {mg : Str → Option Value} {base : Heap} {C CS : Addr}
/-! ### Sort.__init__ -/
def spSort (C : Addr) : Sp := fun vs H Q _ => ∃ (p dx : Addr) (r : Row) (w s : V), vs = [.ref p, .str r.name, w, s, .int r.span, .int r.tries] ∧ H p = some (.ins C dx []) ∧ ∀ H', H' p = some (.ins C dx (sortF r w s)) → ExP p H H' → Q .non H'
theorem scSort : FnScope ["self", "name", "weight", "speed", "span", "tries"] ["self", "name", "weight", "speed", "span", "tries"] (defScope sSort) := ⟨rfl, rfl, rfl, by decide +kernel, rfl, by decide +kernel, by decide +kernel⟩
theorem ok_sortI {f : Addr} {fd : FuncData} (F : FnP K "__init__" "Sort.__init__" sSort f fd) (T : SortTx K C) : FnOk P w K mg base CX0 1 f fd ["self", "name", "weight", "speed", "span", "tries"] (spSort C) := by
  refine F.ok scSort (fun vs H Q E h => ?_) (fun cdv A outer s H vs Q E hr h => ?_)
  · obtain ⟨p, dx, r, x, y, rfl, _⟩ := h
    rfl
  · obtain ⟨p, dx, r, x, y, rfl, hp, q⟩ := h
    refine ⟨_, PSs.nox (pss_cons (ps_fld (pv 0) (pv 1) rfl) (pss_cons (ps_fld (pv 0) (pv 2) rfl) (pss_cons (ps_fld (pv 0) (pv 3) rfl) (pss_cons (ps_fld (pv 0) (pv 4) rfl) (pss_one (ps_fld (pv 0) (pv 5) rfl)))))), ?_⟩
    refine ⟨_, rfl, _, rfl, p, C, dx, _, rfl, hp, T.cl, T.n1, (by show 0 < 1000; decide), ?_⟩
    refine ⟨_, rfl, _, rfl, p, C, dx, _, rfl, upd_same, T.cl, T.n2, (by show 1 < 1000; decide), ?_⟩
    refine ⟨_, rfl, _, rfl, p, C, dx, _, rfl, upd_same, T.cl, T.n3, (by show 2 < 1000; decide), ?_⟩
    refine ⟨_, rfl, _, rfl, p, C, dx, _, rfl, upd_same, T.cl, T.n4, (by show 3 < 1000; decide), ?_⟩
    refine ⟨_, rfl, _, rfl, p, C, dx, _, rfl, upd_same, T.cl, T.n5, (by show 4 < 1000; decide), ?_⟩
    refine q _ upd_same fun b o hb n => ?_
    rw [upd_ne n, upd_ne n, upd_ne n, upd_ne n, upd_ne n]
    exact hb
/-! ### is_row -/
def spRow : Sp := fun vs H Q _ => ∃ (v : V) (r : Row), vs = [v] ∧ RowAt H v r ∧ r.Ok ∧ ∀ H', Same H H' → Q (.bl true) H'
theorem scRow : FnScope ["thing"] ["thing"] (defScope sRow) := ⟨rfl, rfl, rfl, by decide +kernel, rfl, by decide +kernel, by decide +kernel⟩
theorem name_small {z : Str} (h : NameOk z) : z.length ≤ 1000 := by
  have := h.hi
  omega
theorem ok_row {f f1 f2 f3 : Addr} {fd fd1 fd2 fd3 : FuncData} (F : FnP K "is_row" "is_row" sRow f fd) (m1 : mg "isinstance" = none) (m2 : mg "tuple" = none) (m3 : mg "len" = none) (mS : ∃ t, mg "MOST_SPAN" = some (.int 4 t)) (mT : ∃ t, mg "MOST_TRIES" = some (.int 3 t))
    (G1 : Cal P w K mg base CX0 1 "is_whole" ["thing", "low", "high"] spWhole f1 fd1) (G2 : Cal P w K mg base CX0 1 "is_name" ["thing"] spName f2 fd2) (G3 : Cal P w K mg base CX0 2 "is_weight" ["thing"] spIsW f3 fd3) :
    FnOk P w K mg base CX0 3 f fd ["thing"] spRow := by
  refine F.ok scRow (fun vs H Q E h => ?_) (fun cdv A outer s H vs Q E hr h => ?_)
  · obtain ⟨v, r, rfl, _⟩ := h
    rfl
  · obtain ⟨v, r, rfl, hv, ok, q⟩ := h
    obtain ⟨tS, mS⟩ := mS
    obtain ⟨tT, mT⟩ := mT
    have hr1 : Room 1 _ := hr.mono (by decide)
    refine ⟨_, PSs.nox (pss_cons (ps_if (PW.pt (pw_or (pt_not (pt_val (pe_callB call_isi (by rfl) m1 (by decide +kernel) (pa_cons (pv 0) (pa_cons (pe_bltn (v := .ty "tuple") (by rfl) m2 (by decide +kernel) rfl) pa_nil)))))
        (pw_or (pt_cmpR op_ne (pe_callB call_len (by rfl) m3 PySem.boot_len (pa_cons (pv 0) pa_nil)) pe_int (nomark _))
        (pw_or1 (pt_not (pt_val (pe_call G2.F hr1 (by rfl) G2.g G2.kp G2.b .nil pass0 (pa_cons (pe_ix ix_tup (pv 0) pe_int (fun _ _ => rfl)) pa_nil)))))))) (pss_one (ps_ret pe_bl)) pss_nil)
      (pss_cons (ps_if (PW.pt (pw_or (pt_not (pt_val (pe_call G3.F hr (by rfl) G3.g G3.kp G3.b .nil pass0 (pa_cons (pe_ix ix_tup (pv 0) pe_int (fun _ _ => rfl)) pa_nil))))
        (pw_or1 (pt_not (pt_val (pe_call G3.F hr (by rfl) G3.g G3.kp G3.b .nil pass0 (pa_cons (pe_ix ix_tup (pv 0) pe_int (fun _ _ => rfl)) pa_nil))))))) (pss_one (ps_ret pe_bl)) pss_nil)
      (pss_one (ps_ret (pe_and (pe_call G1.F hr1 (by rfl) G1.g G1.kp G1.b .nil pass0 (pa_cons (pe_ix ix_tup (pv 0) pe_int (fun _ _ => rfl)) (pa_cons pe_int (pa_cons (pe_glob (v := .int 4) (by rfl) mS ⟨_, rfl⟩) pa_nil))))
        (pe_one (pe_call G1.F hr1 (by rfl) G1.g G1.kp G1.b .nil pass0 (pa_cons (pe_ix ix_tup (pv 0) pe_int (fun _ _ => rfl)) (pa_cons pe_int (pa_cons (pe_glob (v := .int 3) (by rfl) mT ⟨_, rfl⟩) pa_nil)))))))))), ?_⟩
    obtain ⟨a, x, y, rfl, ha, hw, hs⟩ := hv
    have k : Kd H (.ref a) := .tup ha
    refine ⟨_, rfl, .ref a, .ty "tuple", _, _, _, rfl, .ty _, k.ty.1, k.kit "tuple" (by decide), _, rfl, ?_⟩
    rw [tyS_of ha]
    refine iteF ⟨_, rfl, .ref a, 5, rfl, .inr ⟨_, SqT.of ha, rfl⟩, rfl, _, rfl, ?_⟩
    refine iteNS rfl ⟨_, rfl, a, _, 0, .str r.name, rfl, rfl, SqT.of ha, atI_nat (j := 0) rfl, .str r.name, rfl, .str _, (fun z e => by cases e; exact name_small ok.name), fun b H1 e1 hb => ?_⟩
    have hb2 : b = true := hb.mpr ok.name
    subst hb2
    refine ⟨_, rfl, iteF ?_⟩
    have ha1 := e1 _ _ ha
    refine ⟨_, rfl, a, _, 1, x, rfl, rfl, SqT.of ha1, atI_nat (j := 1) rfl, x, true, rfl, (IsW.yes hw ok.w).ex e1, _, rfl, iteF ?_⟩
    refine ⟨_, rfl, a, _, 2, y, rfl, rfl, SqT.of ha1, atI_nat (j := 2) rfl, y, true, rfl, (IsW.yes hs ok.s).ex e1, _, rfl, iteF ?_⟩
    refine ⟨_, rfl, a, _, 3, .int r.span, rfl, rfl, SqT.of ha1, atI_nat (j := 3) rfl, .int r.span, 1, 4, rfl, .int _, _, rfl, ?_⟩
    have es : wholeV (.int r.span) 1 4 = true := by
      show (decide (1 ≤ r.span) && decide (r.span ≤ 4)) = true
      rw [decide_eq_true ok.sp0, decide_eq_true ok.sp1]
      rfl
    have et : wholeV (.int r.tries) 1 3 = true := by
      show (decide (1 ≤ r.tries) && decide (r.tries ≤ 3)) = true
      rw [decide_eq_true ok.tr0, decide_eq_true ok.tr1]
      rfl
    rw [es]
    refine iteT ⟨_, rfl, a, _, 4, .int r.tries, rfl, rfl, SqT.of ha1, atI_nat (j := 4) rfl, .int r.tries, 1, 3, rfl, .int _, ?_⟩
    rw [et]
    exact q _ e1
/-! ### Sorts.__init__ -/
def spSorts (C CS : Addr) : Sp := fun vs H Q _ => ∃ (p dx l : Addr) (xs : List V) (rs : List Row), vs = [.ref p, .ref l] ∧ H p = some (.ins CS dx []) ∧ H l = some (.lst xs) ∧ RowsAt H xs rs ∧ RowsOk rs ∧ ∀ H', ExP p H H' → SortsAt C CS H' p (rs.map Row.lo) → Q .non H'
theorem scSorts : FnScope ["self", "rows", "row", "name", "weight", "speed", "span", "tries", "found"] ["self", "rows"] (defScope sSorts) := ⟨rfl, rfl, rfl, by decide +kernel, rfl, by decide +kernel, by decide +kernel⟩
theorem ok_sortsI {f f1 f2 fI : Addr} {fd fd1 fd2 fdI : FuncData} (F : FnP K "__init__" "Sorts.__init__" sSorts f fd) (T : SortTx K C) (TS : SortsTx K CS) (m1 : mg "isinstance" = none) (m2 : mg "list" = none) (m3 : mg "len" = none) (mS : ∃ t, mg "MOST_SORTS" = some (.int 8 t)) (mC : mg "Sort" = some (.ref C))
    (G1 : Cal P w K mg base CX0 3 "is_row" ["thing"] spRow f1 fd1) (G2 : Cal P w K mg base CX0 1 "lowest" ["top", "bottom"] spLowest f2 fd2) (M : Mk K C fI) (bI : Binds K fdI ["self", "name", "weight", "speed", "span", "tries"] [])
    (GI : FnOk P w K mg base CX0 1 fI fdI ["self", "name", "weight", "speed", "span", "tries"] (spSort C)) : FnOk P w K mg base CX0 4 f fd ["self", "rows"] (spSorts C CS) := by
  refine F.ok scSorts (fun vs H Q E h => ?_) (fun cdv A outer s H vs Q E hr h => ?_)
  · obtain ⟨p, dx, l, xs, rs, rfl, _⟩ := h
    rfl
  · obtain ⟨p, dx, l, xs, rs, rfl, hp, hl, hxs, ok, q⟩ := h
    obtain ⟨tS, mS⟩ := mS
    have hr1 : Room 1 _ := hr.mono (by decide)
    have hr2 : Room 2 _ := hr.mono (by decide)
    have hu := hu_of hr
    refine ⟨_, PSs.nox (pss_cons (ps_if (PW.pt (pw_or (pt_not (pt_val (pe_callB call_isi (by rfl) m1 (by decide +kernel) (pa_cons (pv 1) (pa_cons (pe_bltn (v := .ty "list") (by rfl) m2 (by decide +kernel) rfl) pa_nil)))))
        (pw_or1 (pt_not (pt_chain op_le op_le pe_int (pe_callB call_len (by rfl) m3 PySem.boot_len (pa_cons (pv 1) pa_nil)) (pe_glob (v := .int 8) (by rfl) mS ⟨_, rfl⟩)))))) (pss_one ps_never) pss_nil)
      (pss_cons (ps_fld (pv 0) pe_dnewK rfl)
      (pss_one (ps_for PassesOwn.never rfl (pi_list (pv 1)) (pg_name (i := 2) scSorts.nd rfl (Or.inl rfl))
        (pss_cons (ps_if (PW.pt (pw_or (pt_not (pt_val (pe_call G1.F hr (by rfl) G1.g G1.kp G1.b .nil pass0 (pa_cons (pv 2) pa_nil))))
            (pw_or1 (pt_cmp (pc_din hu (pe_ix ix_tup (pv 2) pe_int (fun _ _ => rfl)) (pe_fld (pv 0) rfl)))))) (pss_one ps_never) pss_nil)
        (pss_cons (ps_asg (pv 2) (pg_tup (by rfl) (pgs_cons (pg_name (i := 3) scSorts.nd rfl (.inl rfl)) (pgs_cons (pg_name (i := 4) scSorts.nd rfl (.inl rfl)) (pgs_cons (pg_name (i := 5) scSorts.nd rfl (.inl rfl)) (pgs_cons (pg_name (i := 6) scSorts.nd rfl (.inl rfl)) (pgs_cons (pg_name (i := 7) scSorts.nd rfl (.inl rfl)) pgs_nil)))))))
        (pss_cons (ps_set (i := 8) scSorts.nd rfl (.inl rfl) (pe_make M GI hr2 rfl mC bI .nil pass0 (pa_cons (pv 3)
          (pa_cons (pe_call G2.F hr1 (by rfl) G2.g G2.kp G2.b .nil pass0 (pa_cons (pe_ix ix_tup (pv 4) pe_int (fun _ _ => rfl)) (pa_cons (pe_ix ix_tup (pv 4) pe_int (fun _ _ => rfl)) pa_nil)))
          (pa_cons (pe_call G2.F hr1 (by rfl) G2.g G2.kp G2.b .nil pass0 (pa_cons (pe_ix ix_tup (pv 5) pe_int (fun _ _ => rfl)) (pa_cons (pe_ix ix_tup (pv 5) pe_int (fun _ _ => rfl)) pa_nil)))
          (pa_cons (pv 6) (pa_cons (pv 7) pa_nil)))))))
        (pss_one (ps_dput hu (pe_fld (pv 0) rfl) (pv 3) (pv 8) rfl))))))))), ?_⟩
    have k : Kd H (.ref l) := .lst hl
    refine ⟨_, rfl, .ref l, .ty "list", _, _, _, rfl, .ty _, k.ty.1, k.kit "list" (by decide), _, rfl, ?_⟩
    rw [tyS_of hl]
    have l1 := ok.lo
    have l8 := ok.hi
    rw [← hxs.len] at l1 l8
    refine iteF ⟨_, rfl, .ref l, xs.length, rfl, .inl ⟨xs, SqL.of hl, rfl⟩, _, _, rfl, rfl, _, rfl, ?_⟩
    rw [decide_eq_true (by omega : (1 : Int) ≤ (xs.length : Int))]
    refine iteT ⟨_, _, rfl, rfl, _, rfl, ?_⟩
    rw [decide_eq_true (by omega : (xs.length : Int) ≤ 8)]
    refine iteF ?_
    -- self.by_name = {}
    intro d hd
    have npd : p ≠ d := ne_of_none hp hd
    refine ⟨_, rfl, p, CS, dx, [], rfl, (by rw [upd_ne npd]; exact hp), TS.cl, TS.nb, (by show 0 < 1000; decide), ?_⟩
    have s0 : ExP p H (upd (upd H d (.dK [])) p (.ins CS dx (sortsF d))) := fun b o e n => by
      rw [upd_ne n, upd_ne (ne_of_none e hd)]
      exact e
    have nlp : l ≠ p := ne_of hl hp (fun z => by cases z)
    -- for row in rows
    refine ⟨_, rfl, l, rfl, ⟨_, SqL.of (s0 _ _ hl nlp)⟩, for_list (K := K) (a := l) (xs := xs) (fun i σ H2 => ∃ (a2 a3 a4 a5 a6 a7 a8 : Option V) (kvs : List (Key × V)), σ = [some (.ref p), some (.ref l), a2, a3, a4, a5, a6, a7, a8] ∧ ExP p H H2 ∧
        H2 p = some (.ins CS dx (sortsF d)) ∧ H2 d = some (.dK kvs) ∧ DictAt C H2 kvs ((rs.take i).map Row.lo))
      ⟨none, none, none, none, none, none, none, [], rfl, s0, upd_same, (by rw [upd_ne npd.symm, upd_same]), DictAt.nil⟩ (fun i σ H2 _ hP => ?_) (fun i x σ H2 hi hP => ?_) (fun σ H2 hP => ?_)⟩
    · obtain ⟨_, _, _, _, _, _, _, _, _, e2, _⟩ := hP
      exact SqL.of (e2 _ _ hl nlp)
    · obtain ⟨a2, a3, a4, a5, a6, a7, a8, kvs, rfl, e2, p2, d2, D⟩ := hP
      obtain ⟨r, hri, hrow⟩ := hxs.get hi
      have rok := ok.ok r (List.mem_of_getElem? hri)
      have tx2 : TupEx H H2 := e2.tx hp
      have hrow2 := hrow.tx tx2
      have fresh : valV kvs (Sum.inr r.name : Key) = none := D.noval fun q hq e => by
        obtain ⟨q0, hq0, rfl⟩ := List.mem_map.mp hq
        obtain ⟨j, hj, ej⟩ := List.mem_iff_getElem.mp hq0
        rw [List.length_take] at hj
        have hj2 : rs[j]? = some q0 := by
          rw [List.getElem_take] at ej
          rw [List.getElem?_eq_getElem (by omega), ej]
        have := nodup_at ok.nd hj2 hri e
        omega
      -- is_row(row), row[0] in self.by_name
      refine ⟨_, rfl, x, r, rfl, hrow2, rok, fun H3 e3 => ⟨_, rfl, iteF ?_⟩⟩
      obtain ⟨a, x1, x2, rfl, ha, hw, hs⟩ := hrow2
      have ha3 := e3 _ _ ha
      have p3 := e3 _ _ p2
      have d3 := e3 _ _ d2
      refine ⟨_, rfl, a, _, 0, .str r.name, rfl, rfl, SqT.of ha3, atI_nat (j := 0) rfl, _, rfl, p, CS, dx, _, _, rfl, p3, TS.cl, TS.nb, rfl, d, _, rfl, DGet.k (k := Sum.inr r.name) d3, _, rfl, ?_⟩
      rw [fresh]
      refine iteF ?_
      -- the five names
      refine ⟨_, rfl, a, _, rfl, SqT.of ha3, rfl, _, _, rfl, _, _, rfl, _, _, rfl, _, _, rfl, _, _, rfl, rfl, ?_⟩
      -- Sort(..)
      obtain ⟨aw, rfl, haw⟩ := hw
      obtain ⟨av, rfl, hav⟩ := hs
      have haw3 := e3 _ _ haw
      have hav3 := e3 _ _ hav
      refine ⟨_, rfl, _, rfl, aw, _, 0, .int r.wt, rfl, rfl, SqT.of haw3, atI_nat (j := 0) rfl, _, rfl, aw, _, 1, .int r.wb, rfl, rfl, SqT.of haw3, atI_nat (j := 1) rfl, r.wt, r.wb, rfl, rok.w.t0, rok.w.b0, (by have := rok.w.b1; omega), fun q1 hq1 => ?_⟩
      have e4 : Same H3 (upd H3 q1 (.tup [.int (loT r.wt r.wb), .int (loB r.wt r.wb)])) := same_upd hq1
      refine ⟨_, rfl, av, _, 0, .int r.st, rfl, rfl, SqT.of (e4 _ _ hav3), atI_nat (j := 0) rfl, _, rfl, av, _, 1, .int r.sb, rfl, rfl, SqT.of (e4 _ _ hav3), atI_nat (j := 1) rfl, r.st, r.sb, rfl, rok.s.t0, rok.s.b0, (by have := rok.s.b1; omega), fun q2 hq2 => ?_⟩
      have e5 : Same (upd H3 q1 (.tup [.int (loT r.wt r.wb), .int (loB r.wt r.wb)])) (upd (upd H3 q1 (.tup [.int (loT r.wt r.wb), .int (loB r.wt r.wb)])) q2 (.tup [.int (loT r.st r.sb), .int (loB r.st r.sb)])) := same_upd hq2
      have w1 := e5 _ _ (show (upd H3 q1 (.tup [.int (loT r.wt r.wb), .int (loB r.wt r.wb)])) q1 = _ from upd_same)
      have w2 : (upd (upd H3 q1 (.tup [.int (loT r.wt r.wb), .int (loB r.wt r.wb)])) q2 (.tup [.int (loT r.st r.sb), .int (loB r.st r.sb)])) q2 = some (.tup [.int (loT r.st r.sb), .int (loB r.st r.sb)]) := upd_same
      have e35 := e4.trans e5
      generalize upd (upd H3 q1 (.tup [.int (loT r.wt r.wb), .int (loB r.wt r.wb)])) q2 (.tup [.int (loT r.st r.sb), .int (loB r.st r.sb)]) = H5 at w1 w2 e35 ⊢
      refine ⟨_, rfl, _, rfl, fun z dz nz ndz nez => ⟨z, dz, r.lo, .ref q1, .ref q2, rfl, upd_same, fun H6 hz6 k6 => ⟨rfl, ?_⟩⟩⟩
      have s6 : Same H5 H6 := fun b o e => by
        have nb : b ≠ z := ne_of_none e nz
        refine k6 b o ?_ nb
        rw [upd_ne nb, upd_ne (ne_of_none e ndz)]
        exact e
      have s36 : Same H3 H6 := e35.trans s6
      have sort6 : SortAt C H6 (.ref z) r.lo := ⟨z, dz, .ref q1, .ref q2, rfl, hz6, ⟨q1, rfl, s6 _ _ w1⟩, ⟨q2, rfl, s6 _ _ w2⟩⟩
      -- self.by_name[name] = found
      have p6 := s36 _ _ p3
      have d6 := s36 _ _ d3
      have kl : kvs.length < sizeLine := by
        rw [D.len, List.length_map, List.length_take, sizeLine_eq]
        have := ok.hi
        omega
      refine ⟨_, rfl, _, rfl, p, CS, dx, _, _, rfl, p6, TS.cl, TS.nb, rfl, _, rfl, d, _, rfl, DPut.k (k := Sum.inr r.name) d6 kl, ?_⟩
      have ek : putK kvs (Sum.inr r.name : Key) (V.ref z) = kvs ++ [(Sum.inr r.name, V.ref z)] := putK_new _ fresh
      rw [ek]
      have et : (rs.take (i + 1)).map Row.lo = (rs.take i).map Row.lo ++ [r.lo] := by
        rw [List.take_add_one, hri, List.map_append]
        rfl
      have xn : ExN H6 (upd H6 d (.dK (kvs ++ [(Sum.inr r.name, V.ref z)]))) → True := fun _ => trivial
      have dne : ∀ b o, H6 b = some o → (∀ ks, o ≠ HO.dK ks) → (upd H6 d (.dK (kvs ++ [(Sum.inr r.name, V.ref z)]))) b = some o := fun b o e n => by
        rw [upd_ne (fun q => by rw [q, d6] at e; exact n _ (Option.some.inj e).symm)]
        exact e
      refine ⟨_, _, _, _, _, _, _, _, rfl, fun b o e n => ?_, dne _ _ p6 (fun ks z => by cases z), upd_same, ?_⟩
      · rw [upd_ne (ne_of_none e hd)]
        exact s36 _ _ (e3 _ _ (e2 b o e n))
      · rw [et]
        have keep : ∀ v q, SortAt C H6 v q → SortAt C (upd H6 d (.dK (kvs ++ [(Sum.inr r.name, V.ref z)]))) v q := fun v q hq => by
          obtain ⟨sa, sx, sw, sv, rfl, h1, ⟨b1, rfl, h2⟩, ⟨b2, rfl, h3⟩⟩ := hq
          exact ⟨sa, sx, _, _, rfl, dne _ _ h1 (fun ks z => by cases z), ⟨b1, rfl, dne _ _ h2 (fun ks z => by cases z)⟩, ⟨b2, rfl, dne _ _ h3 (fun ks z => by cases z)⟩⟩
        have D6 : DictAt C (upd H6 d (.dK (kvs ++ [(Sum.inr r.name, V.ref z)]))) kvs ((rs.take i).map Row.lo) := by
          have D3 := D.ex (ExN.of (e3.trans s36))
          exact ⟨D3.len, fun j kv q h1 h2 => ⟨(D3.at_ j kv q h1 h2).1, keep _ _ (D3.at_ j kv q h1 h2).2⟩⟩
        exact D6.snoc (r := r.lo) (keep _ _ sort6)
    · obtain ⟨a2, a3, a4, a5, a6, a7, a8, kvs, rfl, e2, p2, d2, D⟩ := hP
      rw [hxs.len, List.take_length] at D
      exact q _ e2 ⟨⟨dx, d, kvs, p2, d2, D⟩, ok.low, ok.low_low⟩
end
end Gw
namespace Gw
open PySem PySem.Spec PyProof.Rows L2
/-! ## 7. What Sorts tell -/
structure NoSortTx (K : PySem.W.Frag) (mg : Str → Option Value) (NS W fI : Addr) : Prop where
  oex : OexC K NS
  gN : mg "NoSort" = some (.ref NS)
  nN : PySem.W.findIn K (.ref NS) "name" = some none
  iC : PySem.W.findIn K (.ref NS) "__init__" = some (some (.ref fI))
  tI : PySem.W.typeIn K (.ref fI) = some (.type "function")
  win : WIni K mg "WaitError" W
section
variable {P : Program} {w : World} {K : PySem.W.Frag} {mg : Str → Option Value} {base : Heap} {C CS NS NW W : Addr}
/-! ### sort_names -/
def spNames (C CS : Addr) : Sp := fun vs H Q _ => ∃ (p : Addr) (rs : List Row), vs = [.ref p] ∧ SortsAt C CS H p rs ∧ ∀ l, H l = none → Q (.ref l) (upd H l (.lst (rs.map fun r => V.str r.name)))
theorem scNames : FnScope ["self"] ["self"] (defScope sNames) := ⟨rfl, rfl, rfl, by decide +kernel, rfl, by decide +kernel, by decide +kernel⟩
theorem ok_names {f : Addr} {fd : FuncData} (F : FnP K "sort_names" "Sorts.sort_names" sNames f fd) (TS : SortsTx K CS) (m1 : mg "list" = none) : FnOk P w K mg base CX0 1 f fd ["self"] (spNames C CS) := by
  refine F.ok scNames (fun vs H Q E h => ?_) (fun cdv A outer s H vs Q E hr h => ?_)
  · obtain ⟨p, rs, rfl, _⟩ := h
    rfl
  · obtain ⟨p, rs, rfl, S, q⟩ := h
    refine ⟨_, PSs.nox (pss_one (ps_ret (pe_callTy (call_listD rfl) (by rfl) m1 (by decide +kernel) (pa_cons (pe_fld (pv 0) rfl) pa_nil)))), ?_⟩
    obtain ⟨dx, d, kvs, hp, hd, D⟩ := S.ob
    refine ⟨_, rfl, p, CS, dx, _, _, rfl, hp, TS.cl, TS.nb, rfl, d, kvs, rfl, .inl hd, fun l hl => ?_⟩
    have e : (kvs.map fun kv => kV kv.1) = rs.map fun r => V.str r.name := by
      have e1 : (kvs.map fun kv => kV kv.1) = (kvs.map (·.1)).map kV := by
        rw [List.map_map]
        rfl
      rw [e1, D.keys, List.map_map]
      rfl
    rw [e]
    exact q l hl
/-! ### NoSort -/
def spNoSort (NS : Addr) : Sp := fun vs H Q _ => ∃ (p : Addr) (x : V), vs = [.ref p, x] ∧ H p = some (exo p NS none) ∧ ∀ dx, H dx = none → dx ≠ p → Q .non (upd (upd H dx (exd dx [("name", x)])) p (exo p NS (some dx)))
theorem scNoSort : FnScope ["self", "name"] ["self", "name"] (defScope sNoSort) := ⟨rfl, rfl, rfl, by decide +kernel, rfl, by decide +kernel, by decide +kernel⟩
theorem ok_noSort {f fI : Addr} {fd : FuncData} (F : FnP K "__init__" "NoSort.__init__" sNoSort f fd) (T : NoSortTx K mg NS W fI) : FnOk P w K mg base CX0 1 f fd ["self", "name"] (spNoSort NS) := by
  refine F.ok scNoSort (fun vs H Q E h => ?_) (fun cdv A outer s H vs Q E hr h => ?_)
  · obtain ⟨p, x, rfl, _⟩ := h
    rfl
  · obtain ⟨p, x, rfl, hp, q⟩ := h
    refine ⟨_, PSs.nox (pss_cons (ps_expr (pe_winit T.win (pa_cons (pv 0) (pa_cons pe_str pa_nil)))) (pss_one (ps_ost (pv 0) (pv 1)))), ?_⟩
    refine ⟨_, rfl, p, NS, _, rfl, (by decide), T.oex, hp, ?_⟩
    refine ⟨_, rfl, _, rfl, p, NS, rfl, T.oex, T.nN, .inl ⟨hp, q⟩⟩
/-- what a raised NoSort leaves -/
theorem raised_same {H : Hp} {a d : Addr} {x : V} (ha : H a = none) (hd : (upd H a (exo a NS none)) d = none) (nd : d ≠ a) :
    Same H (upd (del (upd (upd (upd H a (exo a NS none)) d (exd d [("name", x)])) a (exo a NS (some d))) a) d (.xd [("name", x)])) := fun b o e => by
  have na : b ≠ a := ne_of_none e ha
  have e2 : (upd H a (exo a NS none)) b = some o := by
    rw [upd_ne na]
    exact e
  have nb : b ≠ d := ne_of_none e2 hd
  rw [upd_ne nb, del_ne na, upd_ne na, upd_ne nb]
  exact e2
/-! ### sort_of -/
def spSortOf (C CS NS : Addr) : Sp := fun vs H Q E => ∃ (p : Addr) (rs : List Row) (x : V), vs = [.ref p, x] ∧ SortsAt C CS H p rs ∧ Kd H x ∧ (∀ z, x = .str z → z.length ≤ 1000) ∧
  ((∃ r ∈ rs, x = .str r.name ∧ ∀ v H', Same H H' → SortAt C H' v r → Q v H') ∨
    ((∀ r ∈ rs, x ≠ .str r.name) ∧ ∀ d H', Same H H' → H d = none → H' d = some (.xd [("name", x)]) → E (.ref NS) (some d) H'))
theorem scSortOf : FnScope ["self", "name"] ["self", "name"] (defScope sSortOf) := ⟨rfl, rfl, rfl, by decide +kernel, rfl, by decide +kernel, by decide +kernel⟩
theorem ok_sortOf {f f1 fI : Addr} {fd fd1 fdI : FuncData} (F : FnP K "sort_of" "Sorts.sort_of" sSortOf f fd) (TS : SortsTx K CS) (TN : NoSortTx K mg NS W fI)
    (G1 : Cal P w K mg base CX0 1 "is_name" ["thing"] spName f1 fd1) (bI : Binds K fdI ["self", "name"] []) (GI : FnOk P w K mg base CX0 1 fI fdI ["self", "name"] (spNoSort NS)) :
    FnOk P w K mg base (L2.CX P w) 3 f fd ["self", "name"] (spSortOf C CS NS) := by
  refine F.ok scSortOf (fun vs H Q E h => ?_) (fun cdv A outer s H vs Q E hr h => ?_)
  · obtain ⟨p, rs, x, rfl, _⟩ := h
    rfl
  · obtain ⟨p, rs, x, rfl, S, k, hz, q⟩ := h
    have hr1 : Room 1 _ := hr.mono (by decide)
    have hu := hu_of hr
    refine ⟨_, pss_cons (ps_if (PW.pt (pw_or (pt_not (pt_val (pe_call G1.F hr1 (by rfl) G1.g G1.kp G1.b .nil pass0 (pa_cons (pv 1) pa_nil))))
        (pw_or1 (pt_cmp (pc_dnotin hu (pv 1) (pe_fld (pv 0) rfl)))))) (pss_one (ps_raise (W := fun cls d _ H => E cls d H) rfl (takes_of rfl rfl rfl rfl) (pmk_oex TN.oex TN.iC TN.tI GI hr bI .nil pass0 rfl TN.gN (pa_cons (pv 1) pa_nil)))) pss_nil)
      (pss_one (ps_ret (pe_dget hu (pe_fld (pv 0) rfl) (pv 1) (fun _ _ => rfl)))), ?_⟩
    -- is_name(name)
    refine ⟨_, rfl, x, rfl, k, hz, fun b H1 e1 hb => ⟨b, rfl, ?_⟩⟩
    have S1 := S.ex (ExN.of e1)
    obtain ⟨dx, d, kvs, hp, hd, D⟩ := S1.ob
    have raise_ : (∀ d H', Same H H' → H d = none → H' d = some (.xd [("name", x)]) → E (.ref NS) (some d) H') → ∀ H2, Same H H2 → [x].length ≤ 1000 ∧ ∀ a, H2 a = none → spNoSort NS (.ref a :: ([x] ++ [])) (upd H2 a (exo a NS none))
        (fun v H3 => v = .non ∧ ∃ (d : Addr) (fs : List (Str × V)), H3 a = some (exo a NS (some d)) ∧ H3 d = some (exd d fs) ∧ H2 d = none ∧ E (.ref NS) (some d) (upd (del H3 a) d (.xd fs))) (fun _ _ _ => False) := by
      intro go H2 e2
      refine ⟨(by show 1 ≤ 1000; decide), fun a ha => ⟨a, x, rfl, upd_same, fun dy hdy ne => ⟨rfl, dy, [("name", x)], upd_same, ?_, ?_, ?_⟩⟩⟩
      · rw [upd_ne ne, upd_same]
      · rw [upd_ne ne] at hdy
        exact hdy
      · have hdy2 : H2 dy = none := by
          rw [upd_ne ne] at hdy
          exact hdy
        exact go dy _ (e2.trans (raised_same ha hdy ne)) (e2.free hdy2) upd_same
    rcases q with ⟨r, hr, rfl, q⟩ | ⟨hno, q⟩
    · have hbt : b = true := hb.mpr (S.ok.ok r hr).name
      subst hbt
      obtain ⟨v, hv, sv⟩ := D.val S.ok.nd hr
      refine iteF ⟨_, rfl, _, rfl, p, CS, dx, _, _, rfl, hp, TS.cl, TS.nb, rfl, d, _, rfl, DGet.k (k := Sum.inr r.name) hd, _, rfl, ?_⟩
      rw [hv]
      refine iteF ⟨_, rfl, p, CS, dx, _, _, rfl, hp, TS.cl, TS.nb, rfl, _, rfl, d, v, rfl, ?_, q v H1 e1 sv⟩
      rw [← hv]
      exact DGet.k (k := Sum.inr r.name) hd
    · cases b with
      | false => exact iteT ⟨_, rfl, raise_ q H1 e1⟩
      | true =>
        have hn := hb.mp rfl
        obtain ⟨z, rfl⟩ : ∃ z, x = .str z := by
          cases x with
          | str z => exact ⟨z, rfl⟩
          | _ => exact (show False from hn).elim
        refine iteF ⟨_, rfl, _, rfl, p, CS, dx, _, _, rfl, hp, TS.cl, TS.nb, rfl, d, _, rfl, DGet.k (k := Sum.inr z) hd, _, rfl, ?_⟩
        rw [D.noval (z := z) (fun r hr e => hno r hr (by rw [e]))]
        exact iteT ⟨_, rfl, raise_ q H1 e1⟩
/-! ### rows_told -/
def spTold (C CS : Addr) : Sp := fun vs H Q _ => ∃ (p : Addr) (rs : List Row), vs = [.ref p] ∧ SortsAt C CS H p rs ∧ ∀ l xs H', H l = none → Same H H' → H' l = some (.lst xs) → RowsAt H' xs rs → Q (.ref l) H'
abbrev teTold (K : PySem.W.Frag) : TE := tTup (tCons (tFld K (tVar 1) "name") (tCons (tFld K (tVar 1) "weight") (tCons (tFld K (tVar 1) "speed") (tCons (tFld K (tVar 1) "span") (tCons (tFld K (tVar 1) "tries") tNil)))))
theorem scTold : FnScope ["self", "one"] ["self"] (defScope sTold) := ⟨rfl, rfl, rfl, by decide +kernel, rfl, by decide +kernel, by decide +kernel⟩
theorem ok_told {f : Addr} {fd : FuncData} (F : FnP K "rows_told" "Sorts.rows_told" sTold f fd) (T : SortTx K C) (TS : SortsTx K CS) : FnOk P w K mg base CX0 1 f fd ["self"] (spTold C CS) := by
  refine F.ok scTold (fun vs H Q E h => ?_) (fun cdv A outer s H vs Q E hr h => ?_)
  · obtain ⟨p, rs, rfl, _⟩ := h
    rfl
  · obtain ⟨p, rs, rfl, S, q⟩ := h
    refine ⟨_, PSs.nox (pss_one (ps_ret (pe_lock (pe_lc (own := [("one", 1)]) (g := gName 1) (tt := tYes) (te := teTold K) rfl scTold.nd (pi_values (pe_fld (pv 0) rfl)) (blkOk_by (N := ["self", "one"]) (sc := defScope sTold) (by decide +kernel))
        (fun _ _ _ _ _ => pg_name (i := 1) scTold.nd rfl (Or.inl rfl)) (fun _ _ _ _ _ => pts_nil) (fun _ _ _ _ _ => pe_tup (by exact (pa_cons (pe_fld (pv 1) rfl) (pa_cons (pe_fld (pv 1) rfl) (pa_cons (pe_fld (pv 1) rfl) (pa_cons (pe_fld (pv 1) rfl) (pa_cons (pe_fld (pv 1) rfl) pa_nil))))))))))), ?_⟩
    obtain ⟨dx, d, kvs, hp, hd, D⟩ := S.ob
    refine ⟨d, .dK kvs, hd, trivial, fun od => ?_⟩
    have keep : ∀ b o, H b = some o → (∀ ks, o ≠ HO.dK ks) → (upd H d (.frz od (.dK kvs))) b = some o := fun b o e n => by
      rw [upd_ne (fun z => by rw [z, hd] at e; exact n _ (Option.some.inj e).symm)]
      exact e
    have back : ∀ b o, H b = some o → b ≠ d → (upd H d (.frz od (.dK kvs))) b = some o := fun b o e n => by
      rw [upd_ne n]
      exact e
    have hd1 : (upd H d (.frz od (.dK kvs))) d = some (.frz od (.dK kvs)) := upd_same
    have fr1 : ∀ b, (upd H d (.frz od (.dK kvs))) b = none → H b = none ∧ b ≠ d := fun b e => by
      have n : b ≠ d := fun z => by
        rw [z, hd1] at e
        cases e
      rw [upd_ne n] at e
      exact ⟨e, n⟩
    generalize upd H d (.frz od (.dK kvs)) = H1 at keep back hd1 fr1 ⊢
    refine ⟨_, rfl, p, CS, dx, _, _, rfl, keep _ _ hp (fun ks z => by cases z), TS.cl, TS.nb, rfl, d, od, kvs, rfl, hd1, fun Dl hD => lc_gen (n := kvs.length) (fun i H' => Same H1 H' ∧ ∃ ys, H' Dl = some (.lst ys) ∧ RowsAt H' ys (rs.take i))
      ⟨same_upd hD, [], upd_same, RowsAt.nil⟩ (fun i H' hi hP => ⟨hP.1 _ _ hd1, hi⟩) (fun H' hP => ⟨hP.1 _ _ hd1, Nat.le_refl _⟩) (fun i H' y H2 hi hP hy => ?_) fun H' hP => ?_⟩
    · obtain ⟨rfl, k0, hk⟩ := hy
      obtain ⟨e1, ys, hys, R⟩ := hP
      have hri : i < rs.length := by rw [← D.len]; exact hi
      obtain ⟨_, sx⟩ := D.at_ i _ _ hk (List.getElem?_eq_getElem hri)
      obtain ⟨sa, sd, sw, sv, ey, h1, ⟨b1, rfl, h2⟩, ⟨b2, rfl, h3⟩⟩ := sx
      have ey2 : y = .ref sa := ey
      subst ey2
      have h1' := e1 _ _ (keep _ _ h1 (fun ks z => by cases z))
      have h2' := e1 _ _ (keep _ _ h2 (fun ks z => by cases z))
      have h3' := e1 _ _ (keep _ _ h3 (fun ks z => by cases z))
      refine ⟨rfl, _, rfl, sa, C, sd, _, _, rfl, h1', T.cl, T.n1, rfl, _, rfl, sa, C, sd, _, _, rfl, h1', T.cl, T.n2, rfl, _, rfl, sa, C, sd, _, _, rfl, h1', T.cl, T.n3, rfl, _, rfl, sa, C, sd, _, _, rfl, h1', T.cl, T.n4, rfl, _, rfl, sa, C, sd, _, _, rfl, h1', T.cl, T.n5, rfl, by show 5 ≤ sizeLine; decide, fun t ht => ?_⟩
      have et : Same H2 (upd H2 t (.tup [.str rs[i].name, .ref b1, .ref b2, .int rs[i].span, .int rs[i].tries])) := same_upd ht
      have hl : ys.length < sizeLine := by
        rw [R.len, List.length_take, sizeLine_eq]
        have := S.ok.hi
        omega
      have row : RowAt (upd H2 t (.tup [.str rs[i].name, .ref b1, .ref b2, .int rs[i].span, .int rs[i].tries])) (.ref t) rs[i] := ⟨t, _, _, rfl, upd_same, ⟨b1, rfl, et _ _ h2'⟩, ⟨b2, rfl, et _ _ h3'⟩⟩
      have hysD := et _ _ hys
      have tx : TupEx (upd H2 t (.tup [.str rs[i].name, .ref b1, .ref b2, .int rs[i].span, .int rs[i].tries])) (upd (upd H2 t (.tup [.str rs[i].name, .ref b1, .ref b2, .int rs[i].span, .int rs[i].tries])) Dl (.lst (ys ++ [.ref t]))) := fun a xs e => by
        rw [upd_ne (ne_of e hysD (fun z => by cases z))]
        exact e
      refine ⟨ys, hysD, hl, same_mut (e1.trans et) hD, _, upd_same, ?_⟩
      rw [List.take_add_one, List.getElem?_eq_getElem hri]
      exact ((R.tx (TupEx.of et)).snoc row).tx tx
    · obtain ⟨e1, ys, hys, R⟩ := hP
      rw [D.len, List.take_length] at R
      refine ⟨e1 _ _ hd1, ?_⟩
      have nD : Dl ≠ d := (fr1 Dl hD).2
      have hd' := e1 _ _ hd1
      refine q Dl ys _ (fr1 Dl hD).1 (fun b o e => ?_) (by rw [upd_ne nD]; exact hys) (R.tx fun a xs e => ?_)
      · by_cases n : b = d
        · rw [n] at e ⊢
          rw [hd] at e
          rw [upd_same]
          exact e
        · rw [upd_ne n]
          exact e1 _ _ (back _ _ e n)
      · rw [upd_ne (ne_of e hd' (fun z => by cases z))]
        exact e
end
end Gw
namespace Gw
open PySem PySem.Spec PyProof.Rows L2
theorem cut2 (a b c d e : V) : cutV [a, b, c, d, e] none (some 2) = [a, b] := by
  unfold cutV
  rw [HT.sIx_none, show HT.sIx [a, b, c, d, e].length [a, b, c, d, e].length (some 2) = min 2 5 from HT.sIx_nat 5 5 2]
  rfl
theorem cut3 (a b c d e : V) : cutV [a, b, c, d, e] (some 3) none = [d, e] := by
  unfold cutV
  rw [HT.sIx_none, show HT.sIx [a, b, c, d, e].length 0 (some 3) = min 3 5 from HT.sIx_nat 5 0 3]
  rfl
theorem sp_lo {r : Row} (h : r.lo = r) (t b : Int) : (r.sp t b).lo = r.sp (loT t b) (loB t b) := by
  have e1 : loT r.wt r.wb = r.wt := congrArg Row.wt h
  have e2 : loB r.wt r.wb = r.wb := congrArg Row.wb h
  unfold Row.lo Row.sp
  dsimp only
  rw [e1, e2]
theorem lo_at {rs : List Row} (h : rs.map Row.lo = rs) {i : Nat} {r : Row} (hi : rs[i]? = some r) : r.lo = r := by
  have e : (rs.map Row.lo)[i]? = some r := by rw [h]; exact hi
  rw [List.getElem?_map, hi] at e
  exact Option.some.inj e
section
variable {P : Program} {w : World} {K : PySem.W.Frag} {mg : Str → Option Value} {base : Heap} {C CS NS NW W : Addr}
structure NoWeightTx (K : PySem.W.Frag) (mg : Str → Option Value) (NW : Addr) : Prop where
  gW : mg "NoWeight" = some (.ref NW)
  q : PySem.W.excIn K NW He.veBase "ValueError.__new__" = true
  k : PySem.W.keepIn K (.ref NW) = true
  b : PySem.W.subIn K (.ref NW) (.type "BaseException") = some true
  t : PySem.W.typeIn K (.ref NW) = some (.type "type")
def spWith (C CS NS NW : Addr) : Sp := fun vs H Q E => ∃ (p : Addr) (rs : List Row) (x sp : V), vs = [.ref p, x, sp] ∧ SortsAt C CS H p rs ∧ Kd H x ∧ (∀ z, x = .str z → z.length ≤ 1000) ∧
  ((∃ (i : Nat) (r : Row) (t b : Int), rs[i]? = some r ∧ x = .str r.name ∧ PairAt H sp t b ∧ Wt t b ∧ ∀ q H', Same H H' → SortsAt C CS H' q (rs.set i (r.sp (loT t b) (loB t b))) → Q (.ref q) H') ∨
    ((∀ r ∈ rs, x ≠ .str r.name) ∧ ∀ d H', Same H H' → H d = none → H' d = some (.xd [("name", x)]) → E (.ref NS) (some d) H') ∨
    ((∃ r ∈ rs, x = .str r.name) ∧ IsW H sp false ∧ ∀ H', Same H H' → E (.ref NW) none H'))
theorem scWith : FnScope ["self", "name", "speed", "rows", "row"] ["self", "name", "speed"] (defScope sWith) := ⟨rfl, rfl, rfl, by decide +kernel, rfl, by decide +kernel, by decide +kernel⟩
theorem ok_with {f f1 f2 f3 fI : Addr} {fd fd1 fd2 fd3 fdI : FuncData} (F : FnP K "with_speed" "Sorts.with_speed" sWith f fd) (TS : SortsTx K CS) (TW : NoWeightTx K mg NW)
    (G1 : Cal P w K mg base CX0 2 "is_weight" ["thing"] spIsW f1 fd1) (G2 : CalM P w K mg base (L2.CX P w) 3 CS "sort_of" ["self", "name"] (spSortOf C CS NS) f2 fd2) (G3 : CalM P w K mg base CX0 1 CS "rows_told" ["self"] (spTold C CS) f3 fd3)
    (mC : mg "Sorts" = some (.ref CS)) (M : Mk K CS fI) (bI : Binds K fdI ["self", "rows"] []) (GI : FnOk P w K mg base CX0 4 fI fdI ["self", "rows"] (spSorts C CS)) :
    FnOk P w K mg base (L2.CX P w) 6 f fd ["self", "name", "speed"] (spWith C CS NS NW) := by
  refine F.ok scWith (fun vs H Q E h => ?_) (fun cdv A outer s H vs Q E hr h => ?_)
  · obtain ⟨p, rs, x, sp, rfl, _⟩ := h
    rfl
  · obtain ⟨p, rs, x, sp, rfl, S, k, hz, q⟩ := h
    have hr1 : Room 1 _ := hr.mono (by decide)
    have hr2 : Room 2 _ := hr.mono (by decide)
    have hr3 : Room 3 _ := hr.mono (by decide)
    refine ⟨_, pss_cons (ps_expr (pe_meth (E := E) (pv 0) TS.cl G2.m G2.F hr3 G2.b .nil (passes_call (W := fun cls d _ H => E cls d H) (takes_of rfl rfl rfl rfl) (fun _ _ _ _ z => z)) (pa_cons (pv 1) pa_nil)))
      (pss_cons (ps_if (pt_not (pt_val (pe_call G1.F hr2 (by rfl) G1.g G1.kp G1.b .nil pass0 (pa_cons (pv 2) pa_nil)))) (pss_one (ps_raise (W := fun cls d _ H => E cls d H) rfl (takes_of rfl rfl rfl rfl) (pmk_own0 PySem.F.excBase_ValueError TW.q TW.gW TW.k (raises_own TW.b TW.t)))) pss_nil)
      (pss_cons (ps_set (i := 3) scWith.nd rfl (.inl rfl) (pe_lst pa_nil))
      (pss_cons (ps_for (passes_of rfl) rfl (pi_list (pe_meth0 (pv 0) TS.cl G3.m G3.F hr1 G3.b .nil pass0)) (pg_name (i := 4) scWith.nd rfl (Or.inl rfl))
        (pss_cons (ps_if (pt_cmpR op_eq (pe_ix ix_tup (pv 4) pe_int (fun _ _ => rfl)) (pv 1) (nomark _))
          (pss_one (ps_set (i := 4) scWith.nd rfl (.inl rfl) (pe_op op_catT (pe_op op_catT (pe_slice sl_tup (pv 4) po_none (po_some pe_int)) (pe_tup (pa_cons (pv 2) pa_nil))) (pe_slice sl_tup (pv 4) (po_some pe_int) po_none)))) pss_nil)
        (pss_one (ps_expr (pe_bm PySem.F.plainAttrs_list PySem.F.slot_list_append PySem.F.type_list_append mt_append (pv 3) (pa_cons (pv 4) pa_nil))))))
      (pss_one (ps_ret (pe_make M GI hr rfl mC bI .nil pass0 (pa_cons (pv 3) pa_nil))))))), ?_⟩
    have S' := S
    obtain ⟨dx, d, kvs, hp, hd, D⟩ := S.ob
    -- self.sort_of(name)
    refine ⟨_, rfl, p, dx, _, rfl, hp, rfl, _, rfl, p, rs, x, rfl, S', k, hz, ?_⟩
    rcases q with ⟨i, r, t, b, hi, rfl, hsp, hw, q⟩ | ⟨hno, q⟩ | ⟨⟨r, hr, rfl⟩, hsp, q⟩
    · refine .inl ⟨r, List.mem_of_getElem? hi, rfl, fun v H1 e1 _ => ?_⟩
      have S1 := S'.ex (ExN.of e1)
      have hsp1 := hsp.ex (ExN.of e1)
      refine ⟨_, rfl, sp, true, rfl, IsW.yes hsp1 hw, _, rfl, iteF ?_⟩
      -- rows = []
      refine ⟨Nat.zero_le _, fun l hl => ?_⟩
      have e2 : Same H1 (upd H1 l (.lst [])) := same_upd hl
      have l2 : (upd H1 l (.lst [])) l = some (.lst []) := upd_same
      generalize upd H1 l (.lst []) = H2 at e2 l2 ⊢
      have S2 := S1.ex (ExN.of e2)
      obtain ⟨dx2, d2, kvs2, hp2, hd2, D2⟩ := S2.ob
      refine ⟨_, rfl, p, dx2, _, rfl, hp2, rfl, p, rs, rfl, S2, fun l3 xs H3 hl3 e3 h3 R3 => ?_⟩
      have nl : l3 ≠ l := fun z => by
        rw [z, l2] at hl3
        cases hl3
      have hl1 : H1 l3 = none := e2.free hl3
      obtain ⟨asp, rfl, hasp⟩ := hsp1
      have hasp3 := e3 _ _ (e2 _ _ hasp)
      refine ⟨l3, rfl, ⟨_, SqL.of h3⟩, for_list (K := K) (a := l3) (xs := xs) (fun j σ H' => ∃ (a4 : Option V) (ys : List V), σ = [some (.ref p), some (.str r.name), some (.ref asp), some (.ref l), a4] ∧ Same H1 H' ∧ H' l3 = some (.lst xs) ∧ TupEx H3 H' ∧
          H' l = some (.lst ys) ∧ RowsAt H' ys ((rs.set i (r.sp t b)).take j))
        ⟨none, [], rfl, e2.trans e3, h3, TupEx.of (Same.refl _), e3 _ _ l2, RowsAt.nil⟩ (fun j σ H' _ hP => ?_) (fun j y σ H' hj hP => ?_) (fun σ H' hP => ?_)⟩
      · obtain ⟨_, _, _, _, h, _⟩ := hP
        exact SqL.of h
      · obtain ⟨a4, ys, rfl, e4, h4, tx4, l4, R4⟩ := hP
        obtain ⟨rj, hrj, row⟩ := R3.get hj
        have row4 := row.tx tx4
        obtain ⟨a, x1, x2, rfl, ha, hx1, hx2⟩ := row4
        have hlen : ys.length < sizeLine := by
          rw [R4.len, List.length_take, List.length_set, sizeLine_eq]
          have := S.ok.hi
          omega
        have hjl := (List.getElem?_eq_some_iff.mp hrj).1
        refine ⟨_, rfl, a, _, 0, .str rj.name, rfl, rfl, SqT.of ha, atI_nat (j := 0) rfl, _, rfl, rfl, _, rfl, ?_⟩
        -- the end of a turn
        have fin : ∀ (H5 : Hp) (b5 : Addr) (rr : Row), Same H' H5 → RowAt H5 (.ref b5) rr → (rs.set i (r.sp t b))[j]? = some rr → ∃ l0 xs0 y0, V.ref l = .ref l0 ∧ [V.ref b5] = [y0] ∧ H5 l0 = some (.lst xs0) ∧ xs0.length < sizeLine ∧
            (∃ (a4 : Option V) (ys : List V), [some (V.ref p), some (.str r.name), some (.ref asp), some (.ref l), some (V.ref b5)] = [some (.ref p), some (.str r.name), some (.ref asp), some (.ref l), a4] ∧ Same H1 (upd H5 l0 (.lst (xs0 ++ [y0]))) ∧ (upd H5 l0 (.lst (xs0 ++ [y0]))) l3 = some (.lst xs) ∧ TupEx H3 (upd H5 l0 (.lst (xs0 ++ [y0]))) ∧
              (upd H5 l0 (.lst (xs0 ++ [y0]))) l = some (.lst ys) ∧ RowsAt (upd H5 l0 (.lst (xs0 ++ [y0]))) ys ((rs.set i (r.sp t b)).take (j + 1))) := by
          intro H5 b5 rr e5 row5 hrr
          have l5 := e5 _ _ l4
          have tx : TupEx H5 (upd H5 l (.lst (ys ++ [.ref b5]))) := fun a xs e => by
            rw [upd_ne (ne_of e l5 (fun z => by cases z))]
            exact e
          refine ⟨l, ys, .ref b5, rfl, rfl, l5, hlen, _, _, rfl, same_mut (e4.trans e5) hl, ?_, (tx4.trans (TupEx.of e5)).trans tx, upd_same, ?_⟩
          · rw [upd_ne nl]
            exact e5 _ _ h4
          · rw [List.take_add_one, hrr]
            exact ((R4.tx (TupEx.of e5)).snoc row5).tx tx
        by_cases en : rj.name = r.name
        · have eij := nodup_at S.ok.nd hrj hi en
          subst eij
          have err : rj = r := Option.some.inj (hrj.symm.trans hi)
          subst err
          rw [decide_eq_true (by rw [en])]
          refine iteT ⟨_, rfl, 2, rfl, a, _, rfl, SqT.of ha, (by show ¬ ((0 : Nat) = 0 ∧ HT.sIx 5 5 (some 2) = 5); decide), fun q1 hq1 => ?_⟩
          rw [cut2]
          have c1 : Same H' (upd H' q1 (.tup [.str rj.name, x1])) := same_upd hq1
          have t1 : (upd H' q1 (.tup [.str rj.name, x1])) q1 = some (.tup [.str rj.name, x1]) := upd_same
          generalize upd H' q1 (.tup [.str rj.name, x1]) = Ha at c1 t1 ⊢
          refine ⟨_, rfl, (by show 1 ≤ sizeLine; decide), fun q2 hq2 => ?_⟩
          have c2 : Same Ha (upd Ha q2 (.tup [.ref asp])) := same_upd hq2
          have t2 : (upd Ha q2 (.tup [.ref asp])) q2 = some (.tup [.ref asp]) := upd_same
          generalize upd Ha q2 (.tup [.ref asp]) = Hb at c2 t2 ⊢
          refine ⟨q1, q2, _, _, rfl, rfl, SqT.of (c2 _ _ t1), SqT.of t2, (fun z => by cases z), (by show 2 + 1 ≤ sizeLine; decide), (fun z => by cases z), fun _ q3 hq3 => ?_⟩
          have c3 : Same Hb (upd Hb q3 (.tup ([.str rj.name, x1] ++ [.ref asp]))) := same_upd hq3
          have t3 : (upd Hb q3 (.tup ([.str rj.name, x1] ++ [.ref asp]))) q3 = some (.tup ([.str rj.name, x1] ++ [.ref asp])) := upd_same
          generalize upd Hb q3 (.tup ([.str rj.name, x1] ++ [.ref asp])) = Hc at c3 t3 ⊢
          have c13 := (c1.trans c2).trans c3
          refine ⟨_, rfl, 3, rfl, a, _, rfl, SqT.of (c13 _ _ ha), (by show ¬ (HT.sIx 5 0 (some 3) = 0 ∧ (5 : Nat) = 5); decide), fun q4 hq4 => ?_⟩
          rw [cut3]
          have c4 : Same Hc (upd Hc q4 (.tup [.int rj.span, .int rj.tries])) := same_upd hq4
          have t4 : (upd Hc q4 (.tup [.int rj.span, .int rj.tries])) q4 = some (.tup [.int rj.span, .int rj.tries]) := upd_same
          generalize upd Hc q4 (.tup [.int rj.span, .int rj.tries]) = Hd at c4 t4 ⊢
          refine ⟨q3, q4, _, _, rfl, rfl, SqT.of (c4 _ _ t3), SqT.of t4, (fun z => by cases z), (by show 3 + 2 ≤ sizeLine; decide), (fun z => by cases z), fun _ q5 hq5 => ?_⟩
          have c5 : Same Hd (upd Hd q5 (.tup ([.str rj.name, x1] ++ [.ref asp] ++ [.int rj.span, .int rj.tries]))) := same_upd hq5
          have t5 : (upd Hd q5 (.tup ([.str rj.name, x1] ++ [.ref asp] ++ [.int rj.span, .int rj.tries]))) q5 = some (.tup [.str rj.name, x1, .ref asp, .int rj.span, .int rj.tries]) := upd_same
          generalize upd Hd q5 (.tup ([.str rj.name, x1] ++ [.ref asp] ++ [.int rj.span, .int rj.tries])) = He at c5 t5 ⊢
          have c := (c13.trans c4).trans c5
          have g := fin He q5 (rj.sp t b) c ⟨q5, _, _, rfl, t5, hx1.ex (ExN.of c), ⟨asp, rfl, tx4.trans (TupEx.of c) _ _ hasp3⟩⟩ (by rw [List.getElem?_set_self hjl])
          obtain ⟨l0, xs0, y0, g1, g2, g3, g4, g5⟩ := g
          exact ⟨_, rfl, .inl ⟨rfl, _, SqL.of (c _ _ l4)⟩, _, rfl, l0, xs0, y0, g1, g2, g3, g4, g5⟩
        · have ne : i ≠ j := fun z => en (by
            rw [z, hrj] at hi
            rw [Option.some.inj hi])
          rw [decide_eq_false (fun z => en (V.str.inj z))]
          refine iteF ?_
          have g := fin H' a rj (Same.refl _) ⟨a, x1, x2, rfl, ha, hx1, hx2⟩ (by rw [List.getElem?_set_ne ne]; exact hrj)
          obtain ⟨l0, xs0, y0, g1, g2, g3, g4, g5⟩ := g
          exact ⟨_, rfl, .inl ⟨rfl, _, SqL.of l4⟩, _, rfl, l0, xs0, y0, g1, g2, g3, g4, g5⟩
      · obtain ⟨a4, ys, rfl, e4, h4, tx4, l4, R4⟩ := hP
        have ok2 := S.ok.set hi hw
        rw [R3.len, List.take_of_length_le (by rw [List.length_set]; exact Nat.le_refl _)] at R4
        -- return Sorts(rows)
        refine ⟨_, rfl, fun z dz nz ndz nez => ⟨z, dz, l, ys, rs.set i (r.sp t b), rfl, upd_same, ?_, R4.tx (fun a xs e => ?_), ok2, fun H6 k6 S6 => ⟨rfl, ?_⟩⟩⟩
        · rw [upd_ne (ne_of_none l4 nz), upd_ne (ne_of_none l4 ndz)]
          exact l4
        · rw [upd_ne (ne_of_none e nz), upd_ne (ne_of_none e ndz)]
          exact e
        · have em : (rs.set i (r.sp t b)).map Row.lo = rs.set i (r.sp (loT t b) (loB t b)) := by
            rw [map_set, S.lo, sp_lo (lo_at S.lo hi)]
          rw [em] at S6
          refine q z H6 (fun b o e => ?_) S6
          have e' := e4 _ _ (e1 _ _ e)
          have nb : b ≠ z := ne_of_none e' nz
          refine k6 b o ?_ nb
          rw [upd_ne nb, upd_ne (ne_of_none e' ndz)]
          exact e'
    · exact .inr ⟨hno, q⟩
    · refine .inl ⟨r, hr, rfl, fun v H1 e1 _ => ?_⟩
      refine ⟨_, rfl, sp, false, rfl, hsp.ex e1, _, rfl, iteT ?_⟩
      exact q H1 e1
end
end Gw
namespace Gw
open PySem PySem.Spec PyProof.Rows L2
/-! ## 8. What the law draws -/
section
variable {P : Program} {w : World} {K : PySem.W.Frag} {mg : Str → Option Value} {base : Heap} {C CS NS NW W : Addr}
/-! ### a cell of the script: any int -/
def spCell (K : PySem.W.Frag) : Sp := fun vs H Q _ => ∃ (a : Addr) (ns : List Int) (k : Int), vs = [.ref a, .int k] ∧ SqL K H a (ns.map V.int) ∧ 0 ≤ k ∧ k ≤ 1000 ∧ ∀ i : Int, Q (.int i) H
theorem scCell : FnScope ["_law_script", "_law_k"] ["_law_script", "_law_k"] (defScope lCell) := ⟨rfl, rfl, rfl, by decide +kernel, rfl, by decide +kernel, by decide +kernel⟩
theorem ok_cell {f : Addr} {fd : FuncData} (F : FnP K "_law_cell" "_law_cell" lCell f fd) (m1 : mg "len" = none) : FnOk P w K mg base CX0 1 f fd ["_law_script", "_law_k"] (spCell K) := by
  refine F.ok scCell (fun vs H Q E h => ?_) (fun cdv A outer s H vs Q E hr h => ?_)
  · obtain ⟨a, ns, k, rfl, _⟩ := h
    rfl
  · obtain ⟨a, ns, k, rfl, hS, k0, k1, q⟩ := h
    refine ⟨_, PSs.nox (pss_cons (ps_if (pt_cmpR op_lt (pv 1) (pe_callB call_len_seq (by rfl) m1 PySem.boot_len (pa_cons (pv 0) pa_nil)) (nomark _)) (pss_one (ps_ret (pe_ix ix_list (pv 0) (pv 1) (fun _ _ => rfl)))) pss_nil)
      (pss_one (ps_ret (pe_op op_add (pe_op op_mul pe_int (pv 1)) pe_int)))), ?_⟩
    refine ⟨_, rfl, _, rfl, a, _, rfl, .inl hS, _, _, rfl, rfl, _, rfl, ?_⟩
    refine ite2 (fun h => ?_) (fun h => ?_)
    · have h := of_decide_eq_true h
      rw [List.length_map] at h
      have hj : k.toNat < ns.length := by omega
      obtain ⟨i, hi⟩ : ∃ i, ns[k.toNat]? = some i := ⟨_, List.getElem?_eq_getElem hj⟩
      have e : k = ((k.toNat : Nat) : Int) := by omega
      refine ⟨_, rfl, _, rfl, a, _, k, .int i, rfl, rfl, hS, ?_, q i⟩
      rw [e]
      exact atI_nat (by rw [List.getElem?_map, hi]; rfl)
    · exact ⟨_, rfl, _, _, rfl, rfl, .inl ⟨by decide, by decide⟩, _, _, rfl, rfl, q _⟩
/-! ### numbers mixed -/
def spMix : Sp := fun vs H Q _ => ∃ c k : Int, vs = [.int c, .int k] ∧ 0 ≤ k ∧ k ≤ 1000 ∧ ∀ m : Int, 0 ≤ m → m < 2147483587 → Q (.int m) H
theorem scMix : FnScope ["_law_cell_here", "_law_k", "_law_number"] ["_law_cell_here", "_law_k"] (defScope lMix) := ⟨rfl, rfl, rfl, by decide +kernel, rfl, by decide +kernel, by decide +kernel⟩
theorem ok_mix {f : Addr} {fd : FuncData} (F : FnP K "_law_mix" "_law_mix" lMix f fd) : FnOk P w K mg base CX0 1 f fd ["_law_cell_here", "_law_k"] spMix := by
  refine F.ok scMix (fun vs H Q E h => ?_) (fun cdv A outer s H vs Q E hr h => ?_)
  · obtain ⟨c, k, rfl, _⟩ := h
    rfl
  · obtain ⟨c, k, rfl, k0, k1, q⟩ := h
    refine ⟨_, PSs.nox (pss_cons (ps_set (i := 2) scMix.nd rfl (.inl rfl) (pe_op op_mod (pe_op op_mul (pe_op op_add (pe_op op_add (pe_op op_mod (pv 0) pe_int) (pe_op op_mul pe_int (pv 1))) pe_int) pe_int) pe_int))
      (pss_cons (ps_set (i := 2) scMix.nd rfl (.inl rfl) (pe_op op_mod (pe_op op_mul (pv 2) (pv 2)) pe_int))
      (pss_one (ps_ret (pe_op op_mod (pe_op op_mul (pv 2) (pe_op op_add (pv 2) pe_int)) pe_int))))), ?_⟩
    refine ⟨_, rfl, _, _, rfl, rfl, (by show (0 : Int) < 2147483629; decide), _, rfl, _, _, rfl, rfl, .inl ⟨by decide, by decide⟩, _, _, rfl, rfl, _, _, rfl, rfl, _, _, rfl, rfl, .inr ⟨by decide, by decide⟩, _, _, rfl, rfl, (by show (0 : Int) < 2147483647; decide), ?_⟩
    have h1 := Int.emod_nonneg ((c % 2147483629 + 7919 * k + 101) * 48271) (show (2147483647 : Int) ≠ 0 by decide)
    have h2 := Int.emod_lt_of_pos ((c % 2147483629 + 7919 * k + 101) * 48271) (show (0 : Int) < 2147483647 by decide)
    show tSeq _ _ _ _ _
    generalize ((c % 2147483629 + 7919 * k + 101) * 48271) % 2147483647 = n at h1 h2 ⊢
    refine ⟨_, rfl, _, rfl, _, _, rfl, rfl, .inl ⟨by omega, by omega⟩, _, _, rfl, rfl, (by show (0 : Int) < 2147483629; decide), ?_⟩
    have h3 := Int.emod_nonneg (n * n) (show (2147483629 : Int) ≠ 0 by decide)
    have h4 := Int.emod_lt_of_pos (n * n) (show (0 : Int) < 2147483629 by decide)
    generalize (n * n) % 2147483629 = m at h3 h4 ⊢
    refine ⟨_, rfl, _, rfl, _, _, rfl, rfl, _, _, rfl, rfl, .inl ⟨by omega, by omega⟩, _, _, rfl, rfl, (by show (0 : Int) < 2147483587; decide), ?_⟩
    exact q _ (Int.emod_nonneg _ (by decide)) (Int.emod_lt_of_pos _ (by decide))
/-! ### a draw -/
def spDraw : Sp := fun vs H Q _ => ∃ c k : Int, vs = [.int c, .int k] ∧ 0 ≤ k ∧ k ≤ 100 ∧ ∀ m : Int, 0 ≤ m → m < 1099511627776 → Q (.int m) H
theorem scDraw : FnScope ["_law_cell_here", "_law_k"] ["_law_cell_here", "_law_k"] (defScope lDraw) := ⟨rfl, rfl, rfl, by decide +kernel, rfl, by decide +kernel, by decide +kernel⟩
theorem ok_draw {f f1 : Addr} {fd fd1 : FuncData} (F : FnP K "_law_draw" "_law_draw" lDraw f fd) (G1 : Cal P w K mg base CX0 1 "_law_mix" ["_law_cell_here", "_law_k"] spMix f1 fd1) : FnOk P w K mg base CX0 2 f fd ["_law_cell_here", "_law_k"] spDraw := by
  refine F.ok scDraw (fun vs H Q E h => ?_) (fun cdv A outer s H vs Q E hr h => ?_)
  · obtain ⟨c, k, rfl, _⟩ := h
    rfl
  · obtain ⟨c, k, rfl, k0, k1, q⟩ := h
    refine ⟨_, PSs.nox (pss_cons (ps_if (PW.pt (pw_and (pt_cmpR op_ge (pv 0) (pe_op op_pow pe_int pe_int) (nomark _)) (pw_and1 (pt_cmpR op_gt (pe_op op_shr (pv 0) (pe_op op_mul pe_int (pv 1))) pe_int (nomark _)))))
        (pss_one (ps_ret (pe_op op_modN (pe_op op_shr (pv 0) (pe_op op_mul pe_int (pv 1))) (pe_op op_pow pe_int pe_int)))) pss_nil)
      (pss_one (ps_ret (pe_call G1.F hr (by rfl) G1.g G1.kp G1.b .nil pass0 (pa_cons (pv 0) (pa_cons (pe_op op_add pe_int (pv 1)) pa_nil)))))), ?_⟩
    have low : tRet (tCall spMix [] E0 (tCons (tVar 0) (tCons (tOp (rI0 fun i j => V.int (i + j)) (tC (.int 3)) (tVar 1)) tNil))) { nx := fun _ H' => Q V.non H', rt := Q } (L2.start ["_law_cell_here", "_law_k"] [.int c, .int k]) H := by
      refine ⟨_, rfl, _, rfl, _, _, rfl, rfl, c, 3 + k, rfl, by omega, by omega, fun m h0 h1 => q m h0 (by omega)⟩
    refine ⟨_, rfl, _, _, rfl, rfl, ⟨by decide, by decide, by decide⟩, _, _, rfl, rfl, _, rfl, ?_⟩
    refine ite2 (fun h => ?_) (fun h => ?_)
    · refine ⟨_, rfl, _, rfl, _, _, rfl, rfl, .inl ⟨by decide, by decide⟩, _, _, rfl, rfl, by omega, _, _, rfl, rfl, _, rfl, ?_⟩
      refine ite2 (fun h2 => ?_) (fun h2 => low)
      refine ⟨_, rfl, _, rfl, _, _, rfl, rfl, .inl ⟨by decide, by decide⟩, _, _, rfl, rfl, by omega, _, _, rfl, rfl, ⟨by decide, by decide, by decide⟩, _, _, rfl, rfl, (by show ((2 : Int) ^ (40 : Int).toNat) ≠ 0; decide), ?_⟩
      have e : ((2 : Int) ^ (40 : Int).toNat) = 1099511627776 := by decide
      show Q (.int (Int.fmod (c / 2 ^ (40 * k).toNat) ((2 : Int) ^ (40 : Int).toNat))) H
      rw [e, Int.fmod_eq_emod_of_nonneg _ (by decide)]
      exact q _ (Int.emod_nonneg _ (by decide)) (Int.emod_lt_of_pos _ (by decide))
    · exact iteF low
/-! ### a weight drawn -/
def spWeight : Sp := fun vs H Q _ => ∃ n : Int, vs = [.int n] ∧ 0 ≤ n ∧ ∀ p t b, H p = none → Wt t b → Q (.ref p) (upd H p (.tup [.int t, .int b]))
theorem scWeight : FnScope ["_law_number"] ["_law_number"] (defScope lWeight) := ⟨rfl, rfl, rfl, by decide +kernel, rfl, by decide +kernel, by decide +kernel⟩
theorem ok_weight {f : Addr} {fd : FuncData} (F : FnP K "_law_weight" "_law_weight" lWeight f fd) : FnOk P w K mg base CX0 1 f fd ["_law_number"] spWeight := by
  refine F.ok scWeight (fun vs H Q E h => ?_) (fun cdv A outer s H vs Q E hr h => ?_)
  · obtain ⟨n, rfl, _⟩ := h
    rfl
  · obtain ⟨n, rfl, n0, q⟩ := h
    refine ⟨_, PSs.nox (pss_cons (ps_if (pt_cmpR op_eq (pe_op op_mod (pv 0) pe_int) pe_int (nomark _))
        (pss_one (ps_ret (pe_tup (pa_cons (pe_op op_mod (pe_op op_fdiv (pv 0) pe_int) pe_int) (pa_cons (pe_op op_add pe_int (pe_op op_mod (pe_op op_fdiv (pv 0) pe_int) pe_int)) pa_nil))))) pss_nil)
      (pss_one (ps_ret (pe_tup (pa_cons (pe_op op_mod (pe_op op_fdiv (pv 0) pe_int) pe_int) (pa_cons (pe_op op_add pe_int (pe_op op_mod (pe_op op_fdiv (pv 0) pe_int) pe_int)) pa_nil)))))), ?_⟩
    refine ⟨_, rfl, _, _, rfl, rfl, (by show (0 : Int) < 4; decide), rfl, _, rfl, ?_⟩
    have h12 : ∀ x : Int, 1 ≤ 1 + x % 12 ∧ 1 + x % 12 ≤ 12 := fun x => by omega
    refine ite2 (fun h => ?_) (fun h => ?_)
    · refine ⟨_, rfl, _, _, rfl, rfl, ⟨by decide, by decide⟩, _, _, rfl, rfl, (by show (0 : Int) < 1000001; decide), _, rfl, _, _, rfl, rfl, ⟨by decide, by decide⟩, _, _, rfl, rfl, (by show (0 : Int) < 12; decide), _, _, rfl, rfl, by show 2 ≤ sizeLine; decide, fun p hp => ?_⟩
      exact q p _ _ hp ⟨by omega, by omega, (h12 _).1, (h12 _).2⟩
    · refine ⟨_, rfl, _, _, rfl, rfl, ⟨by decide, by decide⟩, _, _, rfl, rfl, (by show (0 : Int) < 25; decide), _, rfl, _, _, rfl, rfl, ⟨by decide, by decide⟩, _, _, rfl, rfl, (by show (0 : Int) < 12; decide), _, _, rfl, rfl, by show 2 ≤ sizeLine; decide, fun p hp => ?_⟩
      exact q p _ _ hp ⟨by omega, by omega, (h12 _).1, (h12 _).2⟩
/-! ### lowest terms, by trying -/
def spLow : Sp := fun vs H Q _ => ∃ (v : V) (t b : Int), vs = [v] ∧ PairAt H v t b ∧ Wt t b ∧ ∀ p, H p = none → Q (.ref p) (upd H p (.tup [.int (loT t b), .int (loB t b)]))
theorem scLow : FnScope ["_law_weight_here", "_law_top", "_law_bottom", "_law_by"] ["_law_weight_here"] (defScope lLowest) := ⟨rfl, rfl, rfl, by decide +kernel, rfl, by decide +kernel, by decide +kernel⟩
/-- what holds while common divisors up to k are taken out -/
structure Red (t b k x y : Int) : Prop where
  c : ∃ c : Int, 0 < c ∧ t = c * x ∧ b = c * y
  x0 : 0 ≤ x
  y0 : 1 ≤ y
  y1 : y ≤ 12
  nd : NoDiv k x y
theorem Red.step {t b k x y d : Int} (h : Red t b k x y) (d2 : 2 ≤ d) (hx : x % d = 0) (hy : y % d = 0) : Red t b k (x / d) (y / d) ∧ (y / d).toNat < y.toNat := by
  obtain ⟨c, c0, e1, e2⟩ := h.c
  have ex : d * (x / d) = x := Int.mul_ediv_cancel' (Int.dvd_of_emod_eq_zero hx)
  have ey : d * (y / d) = y := Int.mul_ediv_cancel' (Int.dvd_of_emod_eq_zero hy)
  have hx0 := h.x0
  have hy0 := h.y0
  have hy1 := h.y1
  have q0 : 0 ≤ x / d := Int.ediv_nonneg hx0 (by omega)
  have q1 : 0 ≤ y / d := Int.ediv_nonneg (by omega) (by omega)
  have q2 : 1 ≤ y / d := by
    by_cases z : y / d = 0
    · rw [z, Int.mul_zero] at ey
      omega
    · omega
  have q3 : y / d < y := by
    have h1 : 2 * (y / d) ≤ d * (y / d) := Int.mul_le_mul_of_nonneg_right d2 q1
    omega
  refine ⟨⟨⟨c * d, Int.mul_pos c0 (by omega), by rw [Int.mul_assoc, ex]; exact e1, by rw [Int.mul_assoc, ey]; exact e2⟩, q0, q2, by omega, fun e he hk hh => ?_⟩, by omega⟩
  refine h.nd e he hk ⟨?_, ?_⟩
  · rw [← ex, Int.mul_emod, hh.1, Int.mul_zero, Int.zero_emod]
  · rw [← ey, Int.mul_emod, hh.2, Int.mul_zero, Int.zero_emod]
theorem Red.out {t b k x y d : Int} (h : Red t b k x y) (e : d = k + 1) (hn : ¬ (x % d = 0 ∧ y % d = 0)) : Red t b d x y :=
  ⟨h.c, h.x0, h.y0, h.y1, fun z hz hk hh => by
    by_cases q : z = d
    · rw [q] at hh
      exact hn hh
    · exact h.nd z hz (by omega) hh⟩
theorem Red.fin {t b x y : Int} (h : Red t b 12 x y) : x = loT t b ∧ y = loB t b := by
  obtain ⟨c, c0, e1, e2⟩ := h.c
  obtain ⟨h1, h2⟩ := lo_eq c0 e1 e2 (cop_of h.nd h.y0 h.y1)
  exact ⟨h1.symm, h2.symm⟩
theorem ok_low {f : Addr} {fd : FuncData} (F : FnP K "_law_lowest" "_law_lowest" lLowest f fd) (m1 : mg "range" = none) : FnOk P w K mg base CX0 1 f fd ["_law_weight_here"] spLow := by
  refine F.ok scLow (fun vs H Q E h => ?_) (fun cdv A outer s H vs Q E hr h => ?_)
  · obtain ⟨v, t, b, rfl, _⟩ := h
    rfl
  · obtain ⟨v, t, b, rfl, hv, wt, q⟩ := h
    refine ⟨_, PSs.nox (pss_cons (ps_asg (pv 0) (pg_tup (by rfl) (pgs_cons (pg_name (i := 1) scLow.nd rfl (.inl rfl)) (pgs_cons (pg_name (i := 2) scLow.nd rfl (.inl rfl)) pgs_nil))))
      (pss_cons (ps_for PassesOwn.never rfl (pi_range2 rfl m1 (pa_cons pe_int (pa_cons pe_int pa_nil))) (pg_name (i := 3) scLow.nd rfl (Or.inl rfl))
        (pss_one (ps_while PassesOwn.never (PW.pt (pw_and (pt_cmpR op_eq (pe_op op_mod (pv 1) (pv 3)) pe_int (nomark _)) (pw_and1 (pt_cmpR op_eq (pe_op op_mod (pv 2) (pv 3)) pe_int (nomark _)))))
          (pss_cons (ps_set (i := 1) scLow.nd rfl (.inl rfl) (pe_op op_fdiv (pv 1) (pv 3))) (pss_one (ps_set (i := 2) scLow.nd rfl (.inl rfl) (pe_op op_fdiv (pv 2) (pv 3))))))))
      (pss_one (ps_ret (pe_tup (pa_cons (pv 1) (pa_cons (pv 2) pa_nil))))))), ?_⟩
    obtain ⟨a, rfl, ha⟩ := hv
    refine ⟨_, rfl, a, _, rfl, SqT.of ha, rfl, _, _, rfl, _, _, rfl, rfl, ?_⟩
    refine ⟨2, 13, rfl, ⟨by decide, by decide, by decide, by decide⟩, for_range (lo := 2) (n := 11) (fun i σ H' => H' = H ∧ ∃ (x y : Int) (a3 : Option V), σ = [some (.ref a), some (.int x), some (.int y), a3] ∧ Red t b (1 + i) x y)
      ⟨rfl, t, b, none, rfl, ⟨1, by decide, (Int.one_mul _).symm, (Int.one_mul _).symm⟩, wt.t0, wt.b0, wt.b1, fun d d2 d1 => by omega⟩ (fun i σ H' hi hP => ?_) (fun σ H' hP => ?_)⟩
    · obtain ⟨rfl, x, y, a3, rfl, R⟩ := hP
      refine ⟨fun m σ H2 => H2 = H' ∧ ∃ x y : Int, σ = [some (.ref a), some (.int x), some (.int y), some (.int (2 + (i : Int)))] ∧ Red t b (1 + i) x y ∧ m = y.toNat, ⟨_, rfl, x, y, rfl, R, rfl⟩, fun m σ H2 hW => ?_⟩
      obtain ⟨rfl, x, y, rfl, R, rfl⟩ := hW
      have d0 : (0 : Int) < 2 + (i : Int) := by omega
      have d1 : (2 + (i : Int)) < 1073741824 := by omega
      have out : ¬ (x % (2 + (i : Int)) = 0 ∧ y % (2 + (i : Int)) = 0) → H2 = H2 ∧ ∃ (x' y' : Int) (a3 : Option V), [some (V.ref a), some (V.int x), some (V.int y), some (V.int (2 + (i : Int)))] = [some (.ref a), some (.int x'), some (.int y'), a3] ∧ Red t b (1 + ((i + 1 : Nat) : Int)) x' y' := fun hn => by
        refine ⟨rfl, x, y, _, rfl, ?_⟩
        have e : (1 + ((i + 1 : Nat) : Int)) = 2 + (i : Int) := by omega
        rw [e]
        exact R.out (by omega) hn
      refine ⟨_, rfl, _, rfl, _, _, rfl, rfl, d0, rfl, _, rfl, ?_⟩
      refine ite2 (fun h => ?_) (fun h => ?_)
      · have hx : x % (2 + (i : Int)) = 0 := V.int.inj (of_decide_eq_true h)
        refine ⟨_, rfl, _, rfl, _, _, rfl, rfl, d0, rfl, _, rfl, ?_⟩
        refine ite2 (fun h2 => ?_) (fun h2 => ?_)
        · have hy : y % (2 + (i : Int)) = 0 := V.int.inj (of_decide_eq_true h2)
          obtain ⟨R2, lt⟩ := R.step (by omega) hx hy
          exact ⟨_, fun _ _ z => z, _, rfl, _, rfl, _, _, rfl, rfl, ⟨d0, d1⟩, _, rfl, _, rfl, _, _, rfl, rfl, ⟨d0, d1⟩, _, lt, rfl, _, _, rfl, R2, rfl⟩
        · exact out fun z => h2 (decide_eq_true (congrArg V.int z.2))
      · exact iteF (out fun z => h (decide_eq_true (congrArg V.int z.1)))
    · obtain ⟨rfl, x, y, a3, rfl, R⟩ := hP
      obtain ⟨rfl, rfl⟩ := Red.fin (R : Red t b 12 x y)
      exact ⟨_, rfl, _, rfl, by show 2 ≤ sizeLine; decide, fun p hp => q p hp⟩
end
end Gw
namespace Gw
open PySem PySem.Spec PyProof.Rows L2
/-! ### names drawn: the mathematics -/
def one (c : Nat) : Str := ⟨#[c]⟩
def oneV (c : Nat) : V := .str (one c)
theorem join_codes : ∀ cs : List Nat, (Str.join ⟨#[]⟩ (cs.map one)).cps.toList = cs
  | [] => rfl
  | [c] => rfl
  | c :: d :: r => by
    have ih := join_codes (d :: r)
    show ((one c ++ ⟨#[]⟩ ++ Str.join ⟨#[]⟩ ((d :: r).map one)).cps).toList = c :: d :: r
    rw [Str.cps_append, Array.toList_append, ih]
    rfl
theorem glue_codes (cs : List Nat) : (Txt.join ⟨#[]⟩ (cs.map one)).cps.toList = cs := by
  show (Builtin.Str.glued ⟨#[]⟩ (cs.map one)).cps.toList = cs
  rw [StrLaws.glued_eq_join]
  exact join_codes cs
theorem mul_codes (c : Nat) (n : Int) (h1 : 1 ≤ n) (h8 : n ≤ 8) : (Txt.mul (one c) n).cps.toList = List.replicate n.toNat c := by
  have h : n = 1 ∨ n = 2 ∨ n = 3 ∨ n = 4 ∨ n = 5 ∨ n = 6 ∨ n = 7 ∨ n = 8 := by omega
  rcases h with rfl | rfl | rfl | rfl | rfl | rfl | rfl | rfl <;> rfl
theorem len_codes (z : Str) : z.length = z.cps.toList.length := by
  show z.cps.size = z.cps.toList.length
  simp
theorem mul_ok {c : Nat} {n : Int} (hc : 97 ≤ c ∧ c ≤ 122) (h1 : 1 ≤ n) (h8 : n ≤ 8) : NameOk (Txt.mul (one c) n) ∧ (Txt.mul (one c) n).length = n.toNat := by
  have e := mul_codes c n h1 h8
  have el : (Txt.mul (one c) n).length = n.toNat := by rw [len_codes, e, List.length_replicate]
  refine ⟨⟨by omega, by omega, fun d hd => ?_⟩, el⟩
  rw [e] at hd
  rw [(List.mem_replicate.mp hd).2]
  exact hc
theorem codes_ok {cs : List Nat} (hl : 1 ≤ cs.length) (h8 : cs.length ≤ 8) (h : ∀ c ∈ cs, 97 ≤ c ∧ c ≤ 122) : NameOk (Txt.join ⟨#[]⟩ (cs.map one)) := by
  refine ⟨?_, ?_, fun d hd => ?_⟩
  · rw [len_codes, glue_codes]
    exact hl
  · rw [len_codes, glue_codes]
    exact h8
  · rw [glue_codes] at hd
    exact h d hd
theorem letters_at {i : Int} (h0 : 0 ≤ i) (h1 : i < 26) : atI letters.cps.toList i = some (97 + i.toNat) := by
  have e : i = ((i.toNat : Nat) : Int) := by omega
  rw [e]
  refine atI_nat ?_
  rw [letters_eq, List.getElem?_map, List.getElem?_range (by omega)]
  show some (i.toNat + 97) = some (97 + ((i.toNat : Nat) : Int).toNat)
  rw [Int.toNat_natCast, Nat.add_comm]
/-- names that g gives, unlike -/
theorem names_nd {g : Nat → Str} {n : Nat} (h : ∀ i j, i < n → j < n → g i = g j → i = j) : ((List.range n).map g).Nodup := by
  refine List.pairwise_map.mpr (List.Pairwise.imp_of_mem (fun {i j} hi hj hij z => ?_) List.pairwise_lt_range)
  have := h i j (List.mem_range.mp hi) (List.mem_range.mp hj) z
  omega
/-- what _law_names gives -/
structure NamesOk (zs : List Str) (n : Nat) : Prop where
  len : zs.length = n
  ok : ∀ z ∈ zs, NameOk z
  nd : zs.Nodup
theorem namesOk {g : Nat → Str} {n : Nat} (hg : ∀ i, i < n → NameOk (g i)) (h : ∀ i j, i < n → j < n → g i = g j → i = j) : NamesOk ((List.range n).map g) n :=
  ⟨by rw [List.length_map, List.length_range], fun z hz => by
    obtain ⟨i, hi, rfl⟩ := List.mem_map.mp hz
    exact hg i (List.mem_range.mp hi), names_nd h⟩
section
variable {P : Program} {w : World} {K : PySem.W.Frag} {mg : Str → Option Value} {base : Heap} {C CS NS NW W : Addr}
def spDNames : Sp := fun vs H Q _ => ∃ c n : Int, vs = [.int c, .int n] ∧ 1 ≤ n ∧ n ≤ 8 ∧ ∀ l zs H', H l = none → Same H H' → H' l = some (.lst (zs.map V.str)) → NamesOk zs n.toNat → Q (.ref l) H'
abbrev nDNames : List Str := ["_law_cell_here", "_law_many", "_law_letters", "_law_number", "_law_k", "_law_size", "_law_at", "_law_base", "_law_names_here"]
theorem scDNames : FnScope nDNames ["_law_cell_here", "_law_many"] (defScope lNames) := ⟨rfl, rfl, rfl, by decide +kernel, rfl, by decide +kernel, by decide +kernel⟩
theorem ok_dnames {f f1 f2 : Addr} {fd fd1 fd2 : FuncData} (F : FnP K "_law_names" "_law_names" lNames f fd) (m1 : mg "range" = none) (G1 : Cal P w K mg base CX0 1 "_law_mix" ["_law_cell_here", "_law_k"] spMix f1 fd1)
    (G2 : Cal P w K mg base CX0 2 "_law_draw" ["_law_cell_here", "_law_k"] spDraw f2 fd2) : FnOk P w K mg base CX0 3 f fd ["_law_cell_here", "_law_many"] spDNames := by
  refine F.ok scDNames (fun vs H Q E h => ?_) (fun cdv A outer s H vs Q E hr h => ?_)
  · obtain ⟨c, n, rfl, _⟩ := h
    rfl
  · obtain ⟨c, n, rfl, n1, n8, q⟩ := h
    have hr1 : Room 1 _ := hr.mono (by decide)
    have nd := scDNames.nd
    refine ⟨_, PSs.nox (pss_cons (ps_set (i := 2) nd rfl (.inr rfl) pe_str)
      (pss_cons (ps_set (i := 3) nd rfl (.inr rfl) (pe_call G2.F hr (by rfl) G2.g G2.kp G2.b .nil pass0 (pa_cons (pv 0) (pa_cons pe_int pa_nil))))
      (pss_cons (ps_if (pt_cmpR op_eq (pe_op op_mod (pv 3) pe_int) pe_int (nomark _))
        (pss_one (ps_ret (pe_lc (own := [("_law_k", 4)]) (g := gName 4) (tt := tYes) rfl nd (pi_range1 rfl m1 (pa_cons (pv 1) pa_nil)) (blkOk_by (N := nDNames) (sc := defScope lNames) (by decide +kernel))
          (fun _ _ _ _ _ => pg_name (i := 4) nd rfl (Or.inl rfl)) (fun _ _ _ _ _ => pts_nil) (fun _ _ _ _ _ => pe_op op_mulS (pe_ix ix_str (pv 2) (pe_op op_mod (pe_op op_fdiv (pv 3) pe_int) pe_int) (fun _ _ => rfl))
            (pe_op op_add pe_int (pe_op op_mod (pe_op op_add (pe_op op_mul (pv 4) pe_int) (pe_op op_fdiv (pv 3) pe_int)) pe_int)))))) pss_nil)
      (pss_cons (ps_set (i := 5) nd rfl (.inl rfl) (pe_op op_add pe_int (pe_op op_mod (pe_op op_fdiv (pv 3) pe_int) pe_int)))
      (pss_cons (ps_set (i := 6) nd rfl (.inl rfl) (pe_op op_mod (pe_op op_fdiv (pv 3) pe_int) (pv 5)))
      (pss_cons (ps_setLc (i := 7) (own := [("_law_k", 4)]) (g := gName 4) (tt := tYes) rfl nd rfl rfl (sw_true rfl rfl rfl (by decide +kernel)) (pi_range1 rfl m1 (pa_cons (pv 5) pa_nil)) (blkOk_by (N := nDNames) (sc := defScope lNames) (by decide +kernel))
          (fun _ _ _ _ _ => pg_name (i := 4) nd rfl (Or.inl rfl)) (fun _ _ _ _ _ => pts_nil) (fun _ _ _ _ _ => pe_ix ix_str (pv 2) (pe_op op_mod (pe_op op_add (pe_op op_fdiv (pv 3) pe_int)
            (pe_call G1.F hr1 (by rfl) G1.g G1.kp G1.b .nil pass0 (pa_cons (pv 0) (pa_cons (pe_op op_add pe_int (pv 4)) pa_nil)))) pe_int) (fun _ _ => rfl)))
      (pss_cons (ps_set (i := 8) nd rfl (.inl rfl) (pe_lst pa_nil))
      (pss_cons (ps_for PassesOwn.never rfl (pi_range1 rfl m1 (pa_cons (pv 1) pa_nil)) (pg_name (i := 4) nd rfl (Or.inl rfl))
        (pss_cons (ps_asg (pe_ix ix_str (pv 2) (pe_op op_mod (pe_op op_add (pe_op op_fdiv (pv 3) pe_int) (pe_op op_mul pe_int (pv 4))) pe_int) (fun _ _ => rfl)) (pg_sub (pv 7) (pv 6) set_list))
        (pss_one (ps_expr (pe_bm PySem.F.plainAttrs_list PySem.F.slot_list_append PySem.F.type_list_append mt_append (pv 8) (pa_cons (pe_join pe_str (pv 7)) pa_nil))))))
      (pss_one (ps_ret (pv 8))))))))))), ?_⟩
    have L100 : letters.length ≤ sizeLine := by rw [letters_len, sizeLine_eq]; decide
    -- letters, number
    refine ⟨_, rfl, c, 0, rfl, by decide, by decide, fun m m0 m1 => ?_⟩
    have z3 : 0 ≤ m / 3 := Int.ediv_nonneg m0 (by decide)
    refine ⟨_, rfl, _, _, rfl, rfl, (by show (0 : Int) < 3; decide), rfl, _, rfl, ?_⟩
    refine ite2 (fun _ => ?_) (fun _ => ?_)
    · -- one letter, several lengths
      have i0 := Int.emod_nonneg (m / 3) (show (26 : Int) ≠ 0 by decide)
      have i1 := Int.emod_lt_of_pos (m / 3) (show (0 : Int) < 26 by decide)
      have hc : 97 ≤ 97 + (m / 3 % 26).toNat ∧ 97 + (m / 3 % 26).toNat ≤ 122 := by omega
      have k0 : ∀ k : Nat, 1 ≤ 1 + (((0 : Int) + (k : Int)) * 3 + m / 78) % 8 ∧ 1 + (((0 : Int) + (k : Int)) * 3 + m / 78) % 8 ≤ 8 := fun k => by omega
      refine ⟨_, rfl, n, rfl, by omega, by omega, fun D hD => lc_range (lo := 0) (n := n.toNat) (fun i H' => Same H H' ∧ H' D = some (.lst (((List.range i).map fun k : Nat => Txt.mul (one (97 + (m / 3 % 26).toNat)) (1 + (((0 : Int) + (k : Int)) * 3 + m / 78) % 8)).map V.str)))
        ⟨same_upd hD, upd_same⟩ (fun i H' hi hP => ?_) (fun H' hP => ?_)⟩
      · obtain ⟨e1, hl⟩ := hP
        refine ⟨rfl, _, rfl, _, rfl, _, _, rfl, rfl, ⟨by decide, by decide⟩, _, _, rfl, rfl, (by show (0 : Int) < 26; decide), letters, _, _, rfl, rfl, L100, letters_at i0 i1,
          _, rfl, _, _, rfl, rfl, .inr ⟨by decide, by decide⟩, _, rfl, _, _, rfl, rfl, ⟨by decide, by decide⟩, _, _, rfl, rfl, _, _, rfl, rfl, (by show (0 : Int) < 8; decide), _, _, rfl, rfl,
          _, _, rfl, rfl, (k0 i).1, (k0 i).2, rfl, _, hl, ?_, same_mut e1 hD, ?_⟩
        · rw [List.length_map, List.length_map, List.length_range, sizeLine_eq]
          omega
        · rw [upd_same, List.range_succ, List.map_append, List.map_append]
          rfl
      · obtain ⟨e1, hl⟩ := hP
        refine q D _ H' hD e1 hl (namesOk (fun i hi => (mul_ok hc (k0 i).1 (k0 i).2).1) fun i j hi hj e => ?_)
        have e2 := congrArg Str.length e
        rw [(mul_ok hc (k0 i).1 (k0 i).2).2, (mul_ok hc (k0 j).1 (k0 j).2).2] at e2
        have := k0 i
        have := k0 j
        omega
    · -- several letters, unlike at one place
      refine ⟨_, rfl, _, _, rfl, rfl, ⟨by decide, by decide⟩, _, _, rfl, rfl, (by show (0 : Int) < 8; decide), _, _, rfl, rfl, ?_⟩
      have s1 : 1 ≤ 1 + m / 3 % 8 := by omega
      have s8 : 1 + m / 3 % 8 ≤ 8 := by omega
      dsimp only
      generalize hsz : 1 + m / 3 % 8 = sz at s1 s8 ⊢
      refine ⟨_, rfl, _, _, rfl, rfl, ⟨by decide, by decide⟩, _, rfl, _, _, rfl, rfl, (by show (0 : Int) < sz; omega), ?_⟩
      have a0 := Int.emod_nonneg (m / 24) (show sz ≠ 0 by omega)
      have a1 := Int.emod_lt_of_pos (m / 24) (show 0 < sz by omega)
      dsimp only
      generalize m / 24 % sz = at_ at a0 a1 ⊢
      -- base
      refine ⟨_, rfl, sz, rfl, by omega, by omega, fun D hD => lc_range (lo := 0) (n := sz.toNat) (fun i H' => Same H H' ∧ ∃ cs : List Nat, cs.length = i ∧ (∀ c ∈ cs, 97 ≤ c ∧ c ≤ 122) ∧ H' D = some (.lst ((cs.map one).map V.str)))
        ⟨same_upd hD, [], rfl, (fun c hc => by cases hc), upd_same⟩ (fun i H' hi hP => ?_) (fun H1 hP => ?_)⟩
      · obtain ⟨e1, cs, el, hcs, hl⟩ := hP
        refine ⟨rfl, _, rfl, _, rfl, _, _, rfl, rfl, ⟨by decide, by decide⟩, _, rfl, _, rfl, _, _, rfl, rfl, c, _, rfl, (by show (0 : Int) ≤ 90 + (0 + (i : Int)); omega), (by show (90 : Int) + (0 + (i : Int)) ≤ 1000; omega), fun x x0 x1 => ?_⟩
        have i0 := Int.emod_nonneg (m / 192 + x) (show (26 : Int) ≠ 0 by decide)
        have i1 := Int.emod_lt_of_pos (m / 192 + x) (show (0 : Int) < 26 by decide)
        refine ⟨_, _, rfl, rfl, _, _, rfl, rfl, (by show (0 : Int) < 26; decide), letters, _, _, rfl, rfl, L100, letters_at i0 i1, _, hl, ?_, same_mut e1 hD, cs ++ [97 + ((m / 192 + x) % 26).toNat], ?_, fun d hd => ?_, ?_⟩
        · rw [List.length_map, List.length_map, el, sizeLine_eq]
          omega
        · rw [List.length_append, el]
          rfl
        · rcases List.mem_append.mp hd with h | h
          · exact hcs d h
          · rw [List.mem_singleton.mp h]
            omega
        · rw [upd_same, List.map_append, List.map_append]
          rfl
      · obtain ⟨e1, cs, el, hcs, hl⟩ := hP
        -- names_here = []
        refine ⟨Nat.zero_le _, fun l2 hl2 => ?_⟩
        have nD : D ≠ l2 := ne_of_none hl hl2
        have hl2H : H l2 = none := e1.free hl2
        have k0 : ∀ k : Nat, 0 ≤ (m / 5000 + 7 * ((0 : Int) + (k : Int))) % 26 ∧ (m / 5000 + 7 * ((0 : Int) + (k : Int))) % 26 < 26 := fun k => by omega
        have an : at_.toNat < cs.length := by omega
        have eat : at_ = ((at_.toNat : Nat) : Int) := by omega
        refine ⟨_, rfl, n, rfl, by omega, by omega, for_range (lo := 0) (n := n.toNat) (fun i σ H' => ∃ a4 : Option V, σ = [some (.int c), some (.int n), some (.str letters), some (.int m), a4, some (.int sz), some (.int at_), some (.ref D), some (.ref l2)] ∧ Same H H' ∧
            (∃ ds : List Nat, H' D = some (.lst ((ds.map one).map V.str)) ∧ ds.length = cs.length ∧ ∀ x, ds.set at_.toNat x = cs.set at_.toNat x) ∧
            H' l2 = some (.lst (((List.range i).map fun k : Nat => Txt.join ⟨#[]⟩ ((cs.set at_.toNat (97 + ((m / 5000 + 7 * ((0 : Int) + (k : Int))) % 26).toNat)).map one)).map V.str)))
          ⟨none, rfl, same_mut e1 hl2H, ⟨cs, by rw [upd_ne nD]; exact hl, rfl, fun _ => rfl⟩, upd_same⟩ (fun i σ H' hi hP => ?_) (fun σ H' hP => ?_)⟩
        · obtain ⟨a4, rfl, e4, ⟨ds, hds, edl, eds⟩, h2⟩ := hP
          have nD2 : D ≠ l2 := nD
          refine ⟨_, rfl, _, rfl, _, _, rfl, rfl, ⟨by decide, by decide⟩, _, rfl, _, _, rfl, rfl, .inl ⟨by decide, by decide⟩, _, _, rfl, rfl, _, _, rfl, rfl, (by show (0 : Int) < 26; decide), letters, _, _, rfl, rfl, L100, letters_at (k0 i).1 (k0 i).2,
            _, rfl, _, rfl, D, _, at_, at_.toNat, rfl, rfl, hds, ?_, ?_⟩
          · show (if 0 ≤ at_ then _ else _) = _
            rw [if_pos a0, if_pos (by rw [List.length_map, List.length_map, edl]; omega)]
          · have es : ((ds.map one).map V.str).set at_.toNat (V.str ⟨#[97 + ((m / 5000 + 7 * ((0 : Int) + (i : Int))) % 26).toNat]⟩) = ((ds.set at_.toNat (97 + ((m / 5000 + 7 * ((0 : Int) + (i : Int))) % 26).toNat)).map one).map V.str := by
              rw [map_set, map_set]
              rfl
            rw [es, eds]
            have dl : (cs.set at_.toNat (97 + ((m / 5000 + 7 * ((0 : Int) + (i : Int))) % 26).toNat)).length = cs.length := List.length_set
            have sums : ∀ l : List Nat, ((l.map one).map (·.length)).sum = l.length := fun l => by
              induction l with
              | nil => rfl
              | cons x r ih =>
                rw [List.map_cons, List.map_cons, List.sum_cons, ih, List.length_cons]
                show 1 + r.length = r.length + 1
                omega
            refine ⟨.ref l2, rfl, .inl ⟨rfl, _, SqL.of (by rw [upd_ne nD.symm]; exact h2)⟩, ⟨_, rfl⟩, .ref D, rfl, ⟨#[]⟩, D, (cs.set at_.toNat (97 + ((m / 5000 + 7 * ((0 : Int) + (i : Int))) % 26).toNat)).map one, rfl, rfl, .inl (SqL.of upd_same), ?_, ?_⟩
            · rw [sums, dl, List.length_map, dl]
              show cs.length + cs.length * 0 ≤ 16777216
              omega
            · refine ⟨l2, _, _, rfl, rfl, (by rw [upd_ne nD.symm]; exact h2), ?_, _, rfl, same_mut ?_ hl2H, ⟨_, by rw [upd_ne nD]; exact upd_same, dl, fun x => ?_⟩, ?_⟩
              · rw [List.length_map, List.length_map, List.length_range, sizeLine_eq]
                omega
              · exact same_mut e4 hD
              · exact List.set_set ..
              · rw [upd_same, List.range_succ, List.map_append, List.map_append]
                rfl
        · obtain ⟨a4, rfl, e4, _, h2⟩ := hP
          refine ⟨_, rfl, q l2 _ H' hl2H e4 h2 (namesOk (fun i hi => codes_ok ?_ ?_ fun d hd => ?_) fun i j hi hj e => ?_)⟩
          · rw [List.length_set]
            omega
          · rw [List.length_set]
            omega
          · rcases List.mem_or_eq_of_mem_set hd with h | rfl
            · exact hcs d h
            · have := k0 i
              omega
          · have e2 := congrArg (fun z : Str => z.cps.toList) e
            rw [glue_codes, glue_codes] at e2
            have e3 := congrArg (fun l : List Nat => l[at_.toNat]?) e2
            rw [List.getElem?_set_self an, List.getElem?_set_self an] at e3
            have e4 := Option.some.inj e3
            have := k0 i
            have := k0 j
            omega
end
end Gw
namespace Gw
open PySem PySem.Spec PyProof.Rows L2
/-! ### rows as data -/
def pairD (t b : Int) : PyData := .tuple [.int t, .int b]
def Row.data (r : Row) : PyData := .tuple [.str r.name, pairD r.wt r.wb, pairD r.st r.sb, .int r.span, .int r.tries]
theorem pair_dp {K : PySem.W.Frag} {H : Hp} {v : V} {t b : Int} (h : PairAt H v t b) : Dp K H v (pairD t b) := by
  obtain ⟨a, rfl, ha⟩ := h
  exact .tup (SqT.of ha) (.cons (.int _) (.cons (.int _) .nil))
theorem row_dp {K : PySem.W.Frag} {H : Hp} {v : V} {r : Row} (h : RowAt H v r) : Dp K H v r.data := by
  obtain ⟨a, w, s, rfl, ha, hw, hs⟩ := h
  exact .tup (SqT.of ha) (.cons (.str _) (.cons (pair_dp hw) (.cons (pair_dp hs) (.cons (.int _) (.cons (.int _) .nil)))))
theorem rows_dpA {K : PySem.W.Frag} {H : Hp} : ∀ {xs : List V} {rs : List Row}, RowsAt H xs rs → DpAll K H xs (rs.map Row.data)
  | [], [], _ => .nil
  | [], _ :: _, h => by have := h.len; simp at this
  | _ :: _, [], h => by have := h.len; simp at this
  | x :: xs, r :: rs, h => .cons (row_dp (h.at_ 0 x r rfl rfl)) (rows_dpA ⟨by have := h.len; simpa using this, fun i y q h1 h2 => h.at_ (i + 1) y q h1 h2⟩)
theorem rows_dp {K : PySem.W.Frag} {H : Hp} {l : Addr} {xs : List V} {rs : List Row} (hl : H l = some (.lst xs)) (h : RowsAt H xs rs) : Dp K H (.ref l) (.list (rs.map Row.data)) := .lst (SqL.of hl) (rows_dpA h)
theorem names_dpA {K : PySem.W.Frag} {H : Hp} : ∀ zs : List Str, DpAll K H (zs.map V.str) (zs.map PyData.str)
  | [] => .nil
  | z :: zs => .cons (.str z) (names_dpA zs)
theorem names_dp {K : PySem.W.Frag} {H : Hp} {l : Addr} {zs : List Str} (hl : H l = some (.lst (zs.map V.str))) : Dp K H (.ref l) (.list (zs.map PyData.str)) := .lst (SqL.of hl) (names_dpA zs)
theorem name_strOk {z : Str} (h : NameOk z) : PyData.strOk z = true := by
  unfold PyData.strOk
  rw [Array.all_eq_true_iff_forall_mem]
  intro c hc
  have := h.az c (by simpa using hc)
  exact decide_eq_true (by omega)
theorem row_lay {r : Row} (h : NameOk r.name) : r.data.canLay0 = true ∧ r.data.depth ≤ 2 := by
  refine ⟨?_, ?_⟩
  · have e := name_strOk h
    simp [Row.data, pairD, PyData.canLay0, PyData.canLayAll0, e]
  · simp [Row.data, pairD, PyData.depth, PyData.depthAll]
theorem rows_layA : ∀ {rs : List Row}, (∀ r ∈ rs, NameOk r.name) → PyData.canLayAll0 (rs.map Row.data) = true ∧ PyData.depthAll (rs.map Row.data) ≤ 2
  | [], _ => ⟨rfl, Nat.zero_le _⟩
  | r :: rs, h => by
    obtain ⟨a1, a2⟩ := row_lay (h r List.mem_cons_self)
    obtain ⟨b1, b2⟩ := rows_layA (rs := rs) fun q hq => h q (List.mem_cons_of_mem _ hq)
    refine ⟨?_, ?_⟩
    · show (r.data.canLay0 && PyData.canLayAll0 (rs.map Row.data)) = true
      rw [a1, b1]
      rfl
    · show max r.data.depth (PyData.depthAll (rs.map Row.data)) ≤ 2
      omega
theorem names_layA : ∀ {zs : List Str}, (∀ z ∈ zs, NameOk z) → PyData.canLayAll0 (zs.map PyData.str) = true ∧ PyData.depthAll (zs.map PyData.str) ≤ 2
  | [], _ => ⟨rfl, Nat.zero_le _⟩
  | z :: zs, h => by
    have a1 := name_strOk (h z List.mem_cons_self)
    obtain ⟨b1, b2⟩ := names_layA (zs := zs) fun q hq => h q (List.mem_cons_of_mem _ hq)
    refine ⟨?_, ?_⟩
    · show (PyData.strOk z && PyData.canLayAll0 (zs.map PyData.str)) = true
      rw [a1, b1]
      rfl
    · show max 0 (PyData.depthAll (zs.map PyData.str)) ≤ 2
      omega
/-- data that == takes -/
structure Lay (d : PyData) : Prop where
  sh : SeqAt.shaped d = true
  eq : PyData.eqv d d = true
theorem Lay.of {d : PyData} (h1 : d.canLay0 = true) (h2 : d.depth ≤ 64) : Lay d := ⟨by unfold SeqAt.shaped; rw [h1, decide_eq_true h2]; rfl, SeqAt.eqv_refl d h1⟩
theorem rows_lay {rs : List Row} (h : ∀ r ∈ rs, NameOk r.name) : Lay (.list (rs.map Row.data)) := by
  obtain ⟨a, b⟩ := rows_layA h
  refine .of a ?_
  show PyData.depthAll (rs.map Row.data) + 1 ≤ 64
  omega
theorem names_lay {zs : List Str} (h : ∀ z ∈ zs, NameOk z) : Lay (.list (zs.map PyData.str)) := by
  obtain ⟨a, b⟩ := names_layA h
  refine .of a ?_
  show PyData.depthAll (zs.map PyData.str) + 1 ≤ 64
  omega
theorem one_lay {r : Row} (h : NameOk r.name) : Lay r.data := .of (row_lay h).1 (Nat.le_trans (row_lay h).2 (by decide))
theorem RowsOk.nm {rs : List Row} (h : RowsOk rs) : ∀ r ∈ rs, NameOk r.name := fun r hr => (h.ok r hr).name
section
variable {P : Program} {w : World} {K : PySem.W.Frag} {mg : Str → Option Value} {base : Heap} {C CS NS NW W : Addr}
/-! ### a row drawn -/
def spDRow : Sp := fun vs H Q _ => ∃ (c : Int) (z : Str), vs = [.int c, .str z] ∧ NameOk z ∧ ∀ (v : V) (r : Row) H', Same H H' → RowAt H' v r → r.Ok → r.name = z → Q v H'
theorem scDRow : FnScope ["_law_cell_here", "_law_name", "_law_span", "_law_tries"] ["_law_cell_here", "_law_name"] (defScope lRow) := ⟨rfl, rfl, rfl, by decide +kernel, rfl, by decide +kernel, by decide +kernel⟩
theorem ok_drow {f f1 f2 : Addr} {fd fd1 fd2 : FuncData} (F : FnP K "_law_row" "_law_row" lRow f fd) (G1 : Cal P w K mg base CX0 2 "_law_draw" ["_law_cell_here", "_law_k"] spDraw f1 fd1)
    (G2 : Cal P w K mg base CX0 1 "_law_weight" ["_law_number"] spWeight f2 fd2) : FnOk P w K mg base CX0 3 f fd ["_law_cell_here", "_law_name"] spDRow := by
  refine F.ok scDRow (fun vs H Q E h => ?_) (fun cdv A outer s H vs Q E hr h => ?_)
  · obtain ⟨c, z, rfl, _⟩ := h
    rfl
  · obtain ⟨c, z, rfl, hz, q⟩ := h
    have hr1 : Room 1 _ := hr.mono (by decide)
    have nd := scDRow.nd
    refine ⟨_, PSs.nox (pss_cons (ps_set (i := 2) nd rfl (.inl rfl) (pe_op op_add pe_int (pe_op op_mod (pe_call G1.F hr (by rfl) G1.g G1.kp G1.b .nil pass0 (pa_cons (pv 0) (pa_cons pe_int pa_nil))) pe_int)))
      (pss_cons (ps_set (i := 3) nd rfl (.inl rfl) (pe_op op_add pe_int (pe_op op_mod (pe_op op_fdiv (pe_call G1.F hr (by rfl) G1.g G1.kp G1.b .nil pass0 (pa_cons (pv 0) (pa_cons pe_int pa_nil))) pe_int) pe_int)))
      (pss_one (ps_ret (pe_tup (pa_cons (pv 1) (pa_cons (pe_call G2.F hr1 (by rfl) G2.g G2.kp G2.b .nil pass0 (pa_cons (pe_call G1.F hr (by rfl) G1.g G1.kp G1.b .nil pass0 (pa_cons (pv 0) (pa_cons pe_int pa_nil))) pa_nil))
        (pa_cons (pe_call G2.F hr1 (by rfl) G2.g G2.kp G2.b .nil pass0 (pa_cons (pe_call G1.F hr (by rfl) G1.g G1.kp G1.b .nil pass0 (pa_cons (pv 0) (pa_cons pe_int pa_nil))) pa_nil))
        (pa_cons (pv 2) (pa_cons (pv 3) pa_nil)))))))))), ?_⟩
    refine ⟨_, rfl, c, 2, rfl, by decide, by decide, fun m m0 m1 => ?_⟩
    refine ⟨_, _, rfl, rfl, (by show (0 : Int) < 4; decide), _, _, rfl, rfl, ?_⟩
    refine ⟨_, rfl, c, 2, rfl, by decide, by decide, fun n n0 n1 => ?_⟩
    refine ⟨_, _, rfl, rfl, ⟨by decide, by decide⟩, _, _, rfl, rfl, (by show (0 : Int) < 3; decide), _, _, rfl, rfl, ?_⟩
    refine ⟨_, rfl, _, rfl, c, 0, rfl, by decide, by decide, fun x x0 x1 => ⟨x, rfl, x0, fun p t b hp wt => ?_⟩⟩
    refine ⟨_, rfl, c, 1, rfl, by decide, by decide, fun y y0 y1 => ⟨y, rfl, y0, fun p2 t2 b2 hp2 wt2 => ?_⟩⟩
    refine ⟨_, rfl, _, rfl, by show 5 ≤ sizeLine; decide, fun p3 hp3 => ?_⟩
    have c1 : Same H (upd H p (.tup [.int t, .int b])) := same_upd hp
    have c2 : Same (upd H p (.tup [.int t, .int b])) _ := same_upd (o := .tup [.int t2, .int b2]) hp2
    have c3 := same_upd (o := .tup [.str z, .ref p, .ref p2, .int (1 + m % 4), .int (1 + n / 4 % 3)]) hp3
    exact q (.ref p3) ⟨z, t, b, t2, b2, 1 + m % 4, 1 + n / 4 % 3⟩ _ ((c1.trans c2).trans c3) ⟨p3, .ref p, .ref p2, rfl, upd_same, ⟨p, rfl, c3 _ _ (c2 _ _ upd_same)⟩, ⟨p2, rfl, c3 _ _ upd_same⟩⟩
      ⟨hz, wt, wt2, by show 1 ≤ 1 + m % 4; omega, by show 1 + m % 4 ≤ 4; omega, by show 1 ≤ 1 + n / 4 % 3; omega, by show 1 + n / 4 % 3 ≤ 3; omega⟩ rfl
/-! ### rows in lowest terms, as they are due -/
def spDue : Sp := fun vs H Q _ => ∃ (l : Addr) (xs : List V) (rs : List Row), vs = [.ref l] ∧ H l = some (.lst xs) ∧ RowsAt H xs rs ∧ RowsOk rs ∧
  ∀ (l2 : Addr) ys H', H l2 = none → Same H H' → H' l2 = some (.lst ys) → RowsAt H' ys (rs.map Row.lo) → Q (.ref l2) H'
theorem scDue : FnScope ["_law_rows_here", "_law_row_here"] ["_law_rows_here"] (defScope lDue) := ⟨rfl, rfl, rfl, by decide +kernel, rfl, by decide +kernel, by decide +kernel⟩
abbrev tAt (K : PySem.W.Frag) (i : Nat) (j : Int) : TE := tOp (rIxT K) (tVar i) (tC (.int j))
abbrev teDue (K : PySem.W.Frag) : TE := tTup (tCons (tAt K 1 0) (tCons (tCall spLow [] E0 (tCons (tAt K 1 1) tNil)) (tCons (tCall spLow [] E0 (tCons (tAt K 1 2) tNil)) (tCons (tAt K 1 3) (tCons (tAt K 1 4) tNil)))))
theorem ok_due {f f1 : Addr} {fd fd1 : FuncData} (F : FnP K "_law_due" "_law_due" lDue f fd) (G1 : Cal P w K mg base CX0 1 "_law_lowest" ["_law_weight_here"] spLow f1 fd1) : FnOk P w K mg base CX0 2 f fd ["_law_rows_here"] spDue := by
  refine F.ok scDue (fun vs H Q E h => ?_) (fun cdv A outer s H vs Q E hr h => ?_)
  · obtain ⟨l, xs, rs, rfl, _⟩ := h
    rfl
  · obtain ⟨l, xs, rs, rfl, hl, R, ok, q⟩ := h
    refine ⟨_, PSs.nox (pss_one (ps_ret (pe_lc (own := [("_law_row_here", 1)]) (g := gName 1) (tt := tYes) (te := teDue K) rfl scDue.nd (pi_list (pv 0)) (blkOk_by (N := ["_law_rows_here", "_law_row_here"]) (sc := defScope lDue) (by decide +kernel))
        (fun _ _ _ _ _ => pg_name (i := 1) scDue.nd rfl (Or.inl rfl)) (fun _ _ _ _ _ => pts_nil) (fun _ _ _ _ _ => pe_tup (by exact (pa_cons (pe_ix ix_tup (pv 1) pe_int (fun _ _ => rfl))
          (pa_cons (pe_call G1.F hr (by rfl) G1.g G1.kp G1.b .nil pass0 (pa_cons (pe_ix ix_tup (pv 1) pe_int (fun _ _ => rfl)) pa_nil))
          (pa_cons (pe_call G1.F hr (by rfl) G1.g G1.kp G1.b .nil pass0 (pa_cons (pe_ix ix_tup (pv 1) pe_int (fun _ _ => rfl)) pa_nil))
          (pa_cons (pe_ix ix_tup (pv 1) pe_int (fun _ _ => rfl)) (pa_cons (pe_ix ix_tup (pv 1) pe_int (fun _ _ => rfl)) pa_nil)))))))))), ?_⟩
    refine ⟨_, rfl, l, rfl, ⟨_, SqL.of hl⟩, fun D hD => lc_list (K := K) (a := l) (xs := xs) (fun i H' => Same H H' ∧ ∃ ys, H' D = some (.lst ys) ∧ RowsAt H' ys ((rs.take i).map Row.lo))
      ⟨same_upd hD, [], upd_same, RowsAt.nil⟩ (fun i H' _ hP => SqL.of (hP.1 _ _ hl)) (fun i x H' hi hP => ?_) (fun H' hP => ?_)⟩
    · obtain ⟨e1, ys, hys, R'⟩ := hP
      obtain ⟨r, hri, row⟩ := R.get hi
      have rok := ok.ok r (List.mem_of_getElem? hri)
      obtain ⟨a, x1, x2, rfl, ha, h1, h2⟩ := row.ex (ExN.of e1)
      refine ⟨rfl, _, rfl, a, _, 0, .str r.name, rfl, rfl, SqT.of ha, atI_nat (j := 0) rfl, ?_⟩
      refine ⟨_, rfl, a, _, 1, x1, rfl, rfl, SqT.of ha, atI_nat (j := 1) rfl, x1, r.wt, r.wb, rfl, h1, rok.w, fun p hp => ?_⟩
      have c1 : Same H' (upd H' p (.tup [.int (loT r.wt r.wb), .int (loB r.wt r.wb)])) := same_upd hp
      have t1 : (upd H' p (.tup [.int (loT r.wt r.wb), .int (loB r.wt r.wb)])) p = _ := upd_same
      generalize upd H' p (.tup [.int (loT r.wt r.wb), .int (loB r.wt r.wb)]) = Ha at c1 t1 ⊢
      refine ⟨_, rfl, a, _, 2, x2, rfl, rfl, SqT.of (c1 _ _ ha), atI_nat (j := 2) rfl, x2, r.st, r.sb, rfl, h2.ex (ExN.of c1), rok.s, fun p2 hp2 => ?_⟩
      have c2 : Same Ha (upd Ha p2 (.tup [.int (loT r.st r.sb), .int (loB r.st r.sb)])) := same_upd hp2
      have t2 : (upd Ha p2 (.tup [.int (loT r.st r.sb), .int (loB r.st r.sb)])) p2 = _ := upd_same
      generalize upd Ha p2 (.tup [.int (loT r.st r.sb), .int (loB r.st r.sb)]) = Hb at c2 t2 ⊢
      have ha2 := c2 _ _ (c1 _ _ ha)
      refine ⟨_, rfl, a, _, 3, .int r.span, rfl, rfl, SqT.of ha2, atI_nat (j := 3) rfl, _, rfl, a, _, 4, .int r.tries, rfl, rfl, SqT.of ha2, atI_nat (j := 4) rfl, by show 5 ≤ sizeLine; decide, fun p3 hp3 => ?_⟩
      have c3 : Same Hb (upd Hb p3 (.tup [.str r.name, .ref p, .ref p2, .int r.span, .int r.tries])) := same_upd hp3
      have t3 : (upd Hb p3 (.tup [.str r.name, .ref p, .ref p2, .int r.span, .int r.tries])) p3 = _ := upd_same
      generalize upd Hb p3 (.tup [.str r.name, .ref p, .ref p2, .int r.span, .int r.tries]) = Hc at c3 t3 ⊢
      have c := (c1.trans c2).trans c3
      have hys3 := c _ _ hys
      have row3 : RowAt Hc (.ref p3) r.lo := ⟨p3, _, _, rfl, t3, ⟨p, rfl, c3 _ _ (c2 _ _ t1)⟩, ⟨p2, rfl, c3 _ _ t2⟩⟩
      refine ⟨ys, hys3, ?_, same_mut (e1.trans c) hD, _, upd_same, ?_⟩
      · rw [R'.len, List.length_map, List.length_take, sizeLine_eq]
        have := ok.hi
        omega
      · rw [List.take_add_one, hri, List.map_append]
        exact ((R'.ex (ExN.of c)).snoc row3).ex (ExN.lst hys3)
    · obtain ⟨e1, ys, hys, R'⟩ := hP
      rw [R.len, List.take_length] at R'
      exact q D ys H' hD e1 hys R'
/-! ### rows drawn -/
def spDRows (K : PySem.W.Frag) : Sp := fun vs H Q _ => ∃ (a : Addr) (ns : List Int) (k : Int), vs = [.ref a, .int k] ∧ SqL K H a (ns.map V.int) ∧ (∀ H', Same H H' → SqL K H' a (ns.map V.int)) ∧ 0 ≤ k ∧ k ≤ 100 ∧
  ∀ (l : Addr) xs rs H', H l = none → Same H H' → H' l = some (.lst xs) → RowsAt H' xs rs → RowsOk rs → Q (.ref l) H'
abbrev nDRows : List Str := ["_law_script", "_law_at", "_law_cell_here", "_law_names_here", "_law_k", "_law_name"]
theorem scDRows : FnScope nDRows ["_law_script", "_law_at"] (defScope lRows) := ⟨rfl, rfl, rfl, by decide +kernel, rfl, by decide +kernel, by decide +kernel⟩
abbrev teDRows (K : PySem.W.Frag) : TE := tCall spDRow [] E0 (tCons (tCall (spCell K) [] E0 (tCons (tVar 0) (tCons (tOp (rI0 fun i j => V.int (i + j)) (tOp (rI0 fun i j => V.int (i + j)) (tVar 1) (tC (.int 1))) (tVar 4)) tNil))) (tCons (tVar 5) tNil))
theorem ok_drows {f f1 f2 f3 f4 : Addr} {fd fd1 fd2 fd3 fd4 : FuncData} (F : FnP K "_law_rows" "_law_rows" lRows f fd) (m1 : mg "enumerate" = none) (G1 : Cal P w K mg base CX0 1 "_law_cell" ["_law_script", "_law_k"] (spCell K) f1 fd1)
    (G2 : Cal P w K mg base CX0 3 "_law_names" ["_law_cell_here", "_law_many"] spDNames f2 fd2) (G3 : Cal P w K mg base CX0 1 "_law_mix" ["_law_cell_here", "_law_k"] spMix f3 fd3)
    (G4 : Cal P w K mg base CX0 3 "_law_row" ["_law_cell_here", "_law_name"] spDRow f4 fd4) : FnOk P w K mg base CX0 4 f fd ["_law_script", "_law_at"] (spDRows K) := by
  refine F.ok scDRows (fun vs H Q E h => ?_) (fun cdv A outer s H vs Q E hr h => ?_)
  · obtain ⟨a, ns, k, rfl, _⟩ := h
    rfl
  · obtain ⟨a, ns, k, rfl, hS, hSS, k0, k1, q⟩ := h
    have hr1 : Room 1 _ := hr.mono (by decide)
    have nd := scDRows.nd
    refine ⟨_, PSs.nox (pss_cons (ps_set (i := 2) nd rfl (.inl rfl) (pe_call G1.F hr1 (by rfl) G1.g G1.kp G1.b .nil pass0 (pa_cons (pv 0) (pa_cons (pv 1) pa_nil))))
      (pss_cons (ps_set (i := 3) nd rfl (.inl rfl) (pe_call G2.F hr (by rfl) G2.g G2.kp G2.b .nil pass0 (pa_cons (pv 2) (pa_cons (pe_op op_add pe_int (pe_op op_mod (pe_call G3.F hr1 (by rfl) G3.g G3.kp G3.b .nil pass0 (pa_cons (pv 2) (pa_cons pe_int pa_nil))) pe_int)) pa_nil))))
      (pss_one (ps_ret (pe_lc (own := [("_law_k", 4), ("_law_name", 5)]) (g := gTup K 2 (gCons (gName 4) (gCons (gName 5) gNil))) (tt := tYes) (te := teDRows K) rfl nd (pi_enum (by rfl) m1 (pa_cons (pv 3) pa_nil)) (blkOk_by (N := nDRows) (sc := defScope lRows) (by decide +kernel))
        (fun _ _ _ _ _ => pg_tup (by rfl) (pgs_cons (pg_name (i := 4) nd rfl (.inl rfl)) (pgs_cons (pg_name (i := 5) nd rfl (.inl rfl)) pgs_nil))) (fun _ _ _ _ _ => pts_nil)
        (fun _ _ _ _ _ => pe_call G4.F hr (by rfl) G4.g G4.kp G4.b .nil pass0 (pa_cons (pe_call G1.F hr1 (by rfl) G1.g G1.kp G1.b .nil pass0 (pa_cons (pv 0) (pa_cons (pe_op op_add (pe_op op_add (pv 1) pe_int) (pv 4)) pa_nil))) (pa_cons (pv 5) pa_nil)))))))), ?_⟩
    refine ⟨_, rfl, _, rfl, a, ns, k, rfl, hS, k0, by omega, fun c => ?_⟩
    refine ⟨_, rfl, _, rfl, c, 70, rfl, by decide, by decide, fun m m0 m1 => ?_⟩
    refine ⟨_, _, rfl, rfl, (by show (0 : Int) < 8; decide), _, _, rfl, rfl, c, 1 + m % 8, rfl, by omega, by omega, fun l zs H1 hl0 e1 hl N => ?_⟩
    have zl := N.len
    refine ⟨_, rfl, l, _, rfl, SqL.of hl, fun D hD => lc_gen (n := zs.length) (fun i H' => Same H1 H' ∧ ∃ ys rs, H' D = some (.lst ys) ∧ RowsAt H' ys rs ∧ rs.map (·.name) = zs.take i ∧ ∀ r ∈ rs, r.Ok)
      ⟨same_upd hD, [], [], upd_same, RowsAt.nil, rfl, fun r hr => by cases hr⟩ (fun i H' hi hP => ⟨_, .str zs[i], SqL.of (hP.1 _ _ hl), by rw [List.getElem?_map, List.getElem?_eq_getElem hi]; rfl⟩)
      (fun H' hP => ⟨_, SqL.of (hP.1 _ _ hl), by rw [List.length_map]; exact Nat.le_refl _⟩) (fun i H' y H2 hi hP hy => ?_) (fun H' hP => ?_)⟩
    · obtain ⟨T, x, rfl, hT, rfl, hx⟩ := hy
      obtain ⟨e2, ys, rs, hys, R, hn, hok⟩ := hP
      have hx2 := hx _ (SqL.of (e2 _ _ hl))
      rw [List.getElem?_map, List.getElem?_eq_getElem hi] at hx2
      have ex : V.str zs[i] = x := Option.some.inj hx2
      subst ex
      have zok := N.ok zs[i] (List.getElem_mem hi)
      have c1 : Same H' (upd H' T (.tup [.int (i : Nat), .str zs[i]])) := same_upd hT
      have t1 : (upd H' T (.tup [.int (i : Nat), .str zs[i]])) T = _ := upd_same
      generalize upd H' T (.tup [.int (i : Nat), .str zs[i]]) = Ha at c1 t1 ⊢
      have hz8 : zs.length ≤ 8 := by omega
      refine ⟨T, _, rfl, SqT.of t1, rfl, _, _, rfl, _, _, rfl, rfl, rfl, ?_⟩
      refine ⟨_, rfl, _, rfl, _, _, rfl, rfl, _, rfl, _, _, rfl, rfl, a, ns, _, rfl, hSS _ ((e1.trans e2).trans c1), (by show 0 ≤ k + 1 + ((i : Nat) : Int); omega), (by show k + 1 + ((i : Nat) : Int) ≤ 1000; omega), fun cc => ?_⟩
      refine ⟨_, rfl, cc, zs[i], rfl, zok, fun v r Hb c2 row rok rn => ?_⟩
      have c := c1.trans c2
      have hys2 := c _ _ hys
      have ll := congrArg List.length hn
      rw [List.length_map, List.length_take] at ll
      refine ⟨ys, hys2, ?_, same_mut (e2.trans c) hD, _, rs ++ [r], upd_same, ?_, ?_, fun q hq => ?_⟩
      · rw [R.len, sizeLine_eq]
        omega
      · exact ((R.ex (ExN.of c)).snoc row).ex (ExN.lst hys2)
      · rw [List.map_append, hn, List.take_add_one, List.getElem?_eq_getElem hi]
        show _ ++ [r.name] = _
        rw [rn]
        rfl
      · rcases List.mem_append.mp hq with h | h
        · exact hok q h
        · rw [List.mem_singleton.mp h]
          exact rok
    · obtain ⟨e2, ys, rs, hys, R, hn, hok⟩ := hP
      rw [List.take_length] at hn
      have ll := congrArg List.length hn
      rw [List.length_map] at ll
      refine q D ys rs H' (e1.free hD) (e1.trans e2) hys R ⟨by omega, by omega, hok, by rw [hn]; exact N.nd⟩
end
end Gw
namespace Gw
open PySem PySem.Spec PyProof.Rows L2
/-! ## 9. Sorts stand -/
theorem eqBT {v : V} {H : Hp} {b : Bool} {Q : VK} (e : b = true) (h : Q (.bl true) H) : Q (.bl b) H := by
  rw [e]
  exact h
/-- [row[0] for row in rows] -/
theorem lc_first {K : PySem.W.Frag} {i j : Nat} {l : Addr} {xs : List V} {rs : List Row} {σ : L2.St} {H : Hp} {Q : VK} (hs : σ[i]? = some (some (.ref l))) (hl : H l = some (.lst xs)) (R : RowsAt H xs rs) (h8 : rs.length ≤ 8)
    (hw : ∀ x, wipe ((wipe σ [j]).set j (some x)) [j] = wipe σ [j]) (hg : ∀ x, ((wipe σ [j]).set j (some x))[j]? = some (some x))
    (q : ∀ D H', H D = none → Same H H' → H' D = some (.lst ((rs.map (·.name)).map V.str)) → Q (.ref D) H') : tLc (iList K (tVar i)) (gName j) tYes (tAt K j 0) [j] σ H Q := by
  refine ⟨_, hs, l, rfl, ⟨_, SqL.of hl⟩, fun D hD => lc_list (K := K) (a := l) (xs := xs) (fun k H' => Same H H' ∧ H' D = some (.lst (((rs.take k).map (·.name)).map V.str)))
    ⟨same_upd hD, upd_same⟩ (fun k H' _ hP => SqL.of (hP.1 _ _ hl)) (fun k x H' hk hP => ?_) (fun H' hP => ?_)⟩
  · obtain ⟨e1, hd⟩ := hP
    obtain ⟨r, hr, row⟩ := R.get hk
    obtain ⟨a, x1, x2, rfl, ha, _, _⟩ := row.ex (ExN.of e1)
    refine ⟨hw _, _, hg _, a, _, 0, .str r.name, rfl, rfl, SqT.of ha, atI_nat (j := 0) rfl, _, hd, ?_, same_mut e1 hD, ?_⟩
    · rw [List.length_map, List.length_map, List.length_take, sizeLine_eq]
      omega
    · rw [upd_same, List.take_add_one, hr, List.map_append, List.map_append]
      rfl
  · obtain ⟨e1, hd⟩ := hP
    rw [R.len, List.take_length] at hd
    exact q D H' hD e1 hd
section
variable {P : Program} {w : World} {K : PySem.W.Frag} {mg : Str → Option Value} {base : Heap} {C CS NS NW W : Addr}
def spStands (C CS : Addr) : Sp := fun vs H Q _ => ∃ (p l : Addr) (xs : List V) (rs : List Row), vs = [.ref p, .ref l] ∧ SortsAt C CS H p (rs.map Row.lo) ∧ H l = some (.lst xs) ∧ RowsAt H xs rs ∧ RowsOk rs ∧ ∀ H', Same H H' → Q (.bl true) H'
abbrev nStands : List Str := ["_law_sorts", "_law_rows_here", "_law_due_here", "_law_names_here", "_law_told_here", "_law_row_here", "_law_one"]
theorem scStands : FnScope nStands ["_law_sorts", "_law_rows_here"] (defScope lStands) := ⟨rfl, rfl, rfl, by decide +kernel, rfl, by decide +kernel, by decide +kernel⟩
theorem ok_stands {f f1 f2 f3 f4 : Addr} {fd fd1 fd2 fd3 fd4 : FuncData} (F : FnP K "_law_stands" "_law_stands" lStands f fd) (m1 : mg "isinstance" = none) (m2 : mg "list" = none) (T : SortTx K C) (TS : SortsTx K CS)
    (G1 : Cal P w K mg base CX0 2 "_law_due" ["_law_rows_here"] spDue f1 fd1) (G2 : CalM P w K mg base CX0 1 CS "sort_names" ["self"] (spNames C CS) f2 fd2) (G3 : CalM P w K mg base CX0 1 CS "rows_told" ["self"] (spTold C CS) f3 fd3)
    (G4 : CalM P w K mg base (L2.CX P w) 3 CS "sort_of" ["self", "name"] (spSortOf C CS NS) f4 fd4) : FnOk P w K mg base CX0 4 f fd ["_law_sorts", "_law_rows_here"] (spStands C CS) := by
  refine F.ok scStands (fun vs H Q E h => ?_) (fun cdv A outer s H vs Q E hr h => ?_)
  · obtain ⟨p, l, xs, rs, rfl, _⟩ := h
    rfl
  · obtain ⟨p, l, xs, rs, rfl, S, hl, R, ok, q⟩ := h
    have hr1 : Room 1 _ := hr.mono (by decide)
    have hr2 : Room 2 _ := hr.mono (by decide)
    have hr3 : Room 3 _ := hr.mono (by decide)
    have hu := hr.units
    have nd := scStands.nd
    refine ⟨_, PSs.nox (pss_cons (ps_set (i := 2) nd rfl (.inl rfl) (pe_call G1.F hr2 (by rfl) G1.g G1.kp G1.b .nil pass0 (pa_cons (pv 1) pa_nil)))
      (pss_cons (ps_set (i := 3) nd rfl (.inl rfl) (pe_meth0 (pv 0) TS.cl G2.m G2.F hr1 G2.b .nil pass0))
      (pss_cons (ps_set (i := 4) nd rfl (.inl rfl) (pe_meth0 (pv 0) TS.cl G3.m G3.F hr1 G3.b .nil pass0))
      (pss_cons (ps_if (PW.pt (pw_or (pt_not (pt_val (pe_callB call_isi (by rfl) m1 (by decide +kernel) (pa_cons (pv 3) (pa_cons (pe_bltn (v := .ty "list") (by rfl) m2 (by decide +kernel) rfl) pa_nil)))))
          (pw_or (pt_cmpR (op_neD hu) (pv 3) (pe_lc (own := [("_law_row_here", 5)]) (g := gName 5) (tt := tYes) (te := tAt K 5 0) rfl nd (pi_list (pv 2)) (blkOk_by (N := nStands) (sc := defScope lStands) (by decide +kernel))
            (fun _ _ _ _ _ => pg_name (i := 5) nd rfl (Or.inl rfl)) (fun _ _ _ _ _ => pts_nil) (fun _ _ _ _ _ => pe_ix ix_tup (pv 5) pe_int (fun _ _ => rfl))) (nomark _))
          (pw_or (pt_not (pt_val (pe_callB call_isi (by rfl) m1 (by decide +kernel) (pa_cons (pv 4) (pa_cons (pe_bltn (v := .ty "list") (by rfl) m2 (by decide +kernel) rfl) pa_nil)))))
          (pw_or1 (pt_cmpR (op_neD hu) (pv 4) (pv 2) (nomark _))))))) (pss_one (ps_ret pe_bl)) pss_nil)
      (pss_cons (ps_expr (pe_bm0 PySem.F.plainAttrs_list PySem.F.slot_list_clear PySem.F.type_list_clear mt_clear (pv 3)))
      (pss_cons (ps_expr (pe_bm0 PySem.F.plainAttrs_list PySem.F.slot_list_clear PySem.F.type_list_clear mt_clear (pv 4)))
      (pss_cons (ps_for PassesOwn.never rfl (pi_list (pv 2)) (pg_name (i := 5) nd rfl (Or.inl rfl))
        (pss_cons (ps_set (i := 6) nd rfl (.inl rfl) (pe_meth (E := E0) (pv 0) TS.cl G4.m G4.F hr3 G4.b .nil passL (pa_cons (pe_ix ix_tup (pv 5) pe_int (fun _ _ => rfl)) pa_nil)))
        (pss_one (ps_if (pt_cmpR (op_neD hu) (pe_tup (pa_cons (pe_fld (pv 6) rfl) (pa_cons (pe_fld (pv 6) rfl) (pa_cons (pe_fld (pv 6) rfl) (pa_cons (pe_fld (pv 6) rfl) (pa_cons (pe_fld (pv 6) rfl) pa_nil)))))) (pv 5) (nomark _)) (pss_one (ps_ret pe_bl)) pss_nil))))
      (pss_one (ps_ret (pe_and (pe_cmpR (op_eqD hu) (pe_meth0 (pv 0) TS.cl G2.m G2.F hr1 G2.b .nil pass0) (pe_lc (own := [("_law_row_here", 5)]) (g := gName 5) (tt := tYes) (te := tAt K 5 0) rfl nd (pi_list (pv 2)) (blkOk_by (N := nStands) (sc := defScope lStands) (by decide +kernel))
            (fun _ _ _ _ _ => pg_name (i := 5) nd rfl (Or.inl rfl)) (fun _ _ _ _ _ => pts_nil) (fun _ _ _ _ _ => pe_ix ix_tup (pv 5) pe_int (fun _ _ => rfl))) (nomark _))
          (pe_one (pe_cmpR (op_eqD hu) (pe_meth0 (pv 0) TS.cl G3.m G3.F hr1 G3.b .nil pass0) (pv 2) (nomark _))))))))))))), ?_⟩
    refine ⟨_, rfl, l, xs, rs, rfl, hl, R, ok, fun l2 ys H1 hl2 e1 y1 R1 => ?_⟩
    have ok2 := ok.low
    have len8 : (rs.map Row.lo).length ≤ 8 := ok2.hi
    have lo2 := ok.low_low
    have nm2 := ok2.nm
    generalize rs.map Row.lo = ds at S R1 ok2 len8 lo2 nm2
    have S1 := S.ex (ExN.of e1)
    obtain ⟨dx, d, kvs, hp, _⟩ := S1.ob
    refine ⟨_, rfl, p, dx, _, rfl, hp, rfl, p, ds, rfl, S1, fun ln hln => ?_⟩
    have c1 : Same H1 (upd H1 ln (.lst (ds.map fun r => V.str r.name))) := same_upd hln
    have t1 : (upd H1 ln (.lst (ds.map fun r => V.str r.name))) ln = some (.lst ((ds.map (·.name)).map V.str)) := by
      rw [upd_same, List.map_map]
      rfl
    generalize upd H1 ln (.lst (ds.map fun r => V.str r.name)) = H2 at c1 t1 ⊢
    refine ⟨_, rfl, p, dx, _, rfl, c1 _ _ hp, rfl, p, ds, rfl, S1.ex (ExN.of c1), fun lt zs H3 hlt c2 z3 R3 => ?_⟩
    have hltH1 : H1 lt = none := c1.free hlt
    have t3 := c2 _ _ t1
    have y3 := c2 _ _ (c1 _ _ y1)
    have R13 := R1.ex (ExN.of (c1.trans c2))
    have kn : Kd H3 (.ref ln) := .lst t3
    have kt : Kd H3 (.ref lt) := .lst z3
    have zok : ∀ z ∈ ds.map (·.name), NameOk z := fun z hz => by
      obtain ⟨r, hr, rfl⟩ := List.mem_map.mp hz
      exact nm2 r hr
    -- the four tests
    refine ⟨_, rfl, .ref ln, .ty "list", _, _, _, rfl, .ty _, kn.ty.1, kn.kit "list" (by decide), _, rfl, ?_⟩
    rw [tyS_of t3]
    refine iteF ⟨_, rfl, lc_first (i := 2) rfl y3 R13 len8 (fun _ => rfl) (fun _ => rfl) fun D H4 hD c3 hd => ?_⟩
    have nl := names_lay zok
    have z4 := c3 _ _ z3
    have y4 := c3 _ _ y3
    refine ⟨_, _, names_dp (c3 _ _ t3), names_dp hd, nl.sh, nl.sh, _, rfl, ?_⟩
    rw [nl.eq]
    have kt4 : Kd H4 (.ref lt) := .lst z4
    refine iteF ⟨_, rfl, .ref lt, .ty "list", _, _, _, rfl, .ty _, kt4.ty.1, kt4.kit "list" (by decide), _, rfl, ?_⟩
    rw [tyS_of z4]
    have rl := rows_lay nm2
    refine iteF ⟨_, rfl, _, rfl, _, _, rows_dp z4 (R3.ex (ExN.of c3)), rows_dp y4 (R13.ex (ExN.of c3)), rl.sh, rl.sh, _, rfl, ?_⟩
    rw [rl.eq]
    refine iteF ?_
    -- both lists cleared
    have nlt : ln ≠ lt := ne_of_none t1 hlt
    have z5 : (upd H4 ln (.lst [])) lt = some (.lst zs) := by
      rw [upd_ne nlt.symm]
      exact z4
    refine ⟨_, rfl, .inl ⟨rfl, _, SqL.of (c3 _ _ t3)⟩, ln, _, rfl, rfl, c3 _ _ t3, ?_⟩
    refine ⟨_, rfl, .inl ⟨rfl, _, SqL.of z5⟩, lt, _, rfl, rfl, z5, ?_⟩
    have e6 : Same H1 (upd (upd H4 ln (.lst [])) lt (.lst [])) := same_mut (same_mut ((c1.trans c2).trans c3) hln) hltH1
    generalize upd (upd H4 ln (.lst [])) lt (.lst []) = H6 at e6 ⊢
    -- each sort
    refine ⟨_, rfl, l2, rfl, ⟨_, SqL.of (e6 _ _ y1)⟩, for_list (K := K) (a := l2) (xs := ys) (fun i σ H' => ∃ a5 a6 : Option V, σ = [some (.ref p), some (.ref l), some (.ref l2), some (.ref ln), some (.ref lt), a5, a6] ∧ Same H1 H')
      ⟨_, _, rfl, e6⟩ (fun i σ H' _ hP => ?_) (fun i x σ H' hi hP => ?_) (fun σ H' hP => ?_)⟩
    · obtain ⟨_, _, _, e⟩ := hP
      exact SqL.of (e _ _ y1)
    · obtain ⟨a5, a6, rfl, e⟩ := hP
      obtain ⟨r, hri, row⟩ := R1.get hi
      have rok := ok2.ok r (List.mem_of_getElem? hri)
      obtain ⟨a, x1, x2, rfl, ha, hx1, hx2⟩ := row
      have ha' := e _ _ ha
      refine ⟨_, rfl, p, dx, _, rfl, e _ _ hp, rfl, _, rfl, a, _, 0, .str r.name, rfl, rfl, SqT.of ha', atI_nat (j := 0) rfl, p, ds, .str r.name, rfl, S1.ex (ExN.of e), .str _, (fun z e => by cases e; exact name_small rok.name), .inl ⟨r, List.mem_of_getElem? hri, rfl, fun v H7 e7 sv => ?_⟩⟩
      obtain ⟨sa, sd, w1, w2, rfl, hsa, hw1, hw2⟩ := sv
      refine ⟨_, rfl, sa, C, sd, _, _, rfl, hsa, T.cl, T.n1, rfl, _, rfl, sa, C, sd, _, _, rfl, hsa, T.cl, T.n2, rfl, _, rfl, sa, C, sd, _, _, rfl, hsa, T.cl, T.n3, rfl, _, rfl, sa, C, sd, _, _, rfl, hsa, T.cl, T.n4, rfl, _, rfl, sa, C, sd, _, _, rfl, hsa, T.cl, T.n5, rfl, by show 5 ≤ sizeLine; decide, fun t ht => ?_⟩
      have e8 : Same H7 (upd H7 t (.tup [.str r.name, w1, w2, .int r.span, .int r.tries])) := same_upd ht
      have et : Same H1 (upd H7 t (.tup [.str r.name, w1, w2, .int r.span, .int r.tries])) := (e.trans e7).trans e8
      have row1 : RowAt (upd H7 t (.tup [.str r.name, w1, w2, .int r.span, .int r.tries])) (.ref t) r := ⟨t, _, _, rfl, upd_same, hw1.ex (ExN.of e8), hw2.ex (ExN.of e8)⟩
      have row2 : RowAt (upd H7 t (.tup [.str r.name, w1, w2, .int r.span, .int r.tries])) (.ref a) r := ⟨a, _, _, rfl, et _ _ ha, hx1.ex (ExN.of et), hx2.ex (ExN.of et)⟩
      generalize upd H7 t (.tup [.str r.name, w1, w2, .int r.span, .int r.tries]) = H8 at et row1 row2 ⊢
      have ol := one_lay rok.name
      refine ⟨_, rfl, _, _, row_dp row1, row_dp row2, ol.sh, ol.sh, _, rfl, ?_⟩
      rw [ol.eq]
      exact iteF ⟨_, _, rfl, et⟩
    · obtain ⟨a5, a6, rfl, e⟩ := hP
      have S7 := S1.ex (ExN.of e)
      refine ⟨_, rfl, p, dx, _, rfl, e _ _ hp, rfl, p, ds, rfl, S7, fun m hm => ?_⟩
      have d1 : Same H' (upd H' m (.lst (ds.map fun r => V.str r.name))) := same_upd hm
      have u1 : (upd H' m (.lst (ds.map fun r => V.str r.name))) m = some (.lst ((ds.map (·.name)).map V.str)) := by
        rw [upd_same, List.map_map]
        rfl
      generalize upd H' m (.lst (ds.map fun r => V.str r.name)) = H8 at d1 u1 ⊢
      have e8 := e.trans d1
      refine lc_first (i := 2) rfl (e8 _ _ y1) (R1.ex (ExN.of e8)) len8 (fun _ => rfl) (fun _ => rfl) fun D H9 hD d2 hd => ?_
      refine ⟨_, _, names_dp (d2 _ _ u1), names_dp hd, nl.sh, nl.sh, _, rfl, ?_⟩
      rw [nl.eq]
      have e9 := e8.trans d2
      refine iteT ⟨_, rfl, p, dx, _, rfl, e9 _ _ hp, rfl, p, ds, rfl, S1.ex (ExN.of e9), fun n ws H10 hn d3 hn2 R10 => ?_⟩
      have e10 := e9.trans d3
      refine ⟨_, rfl, _, _, rows_dp hn2 R10, rows_dp (e10 _ _ y1) (R1.ex (ExN.of e10)), rl.sh, rl.sh, ?_⟩
      rw [rl.eq]
      exact q _ (e1.trans e10)
end
end Gw
namespace Gw
open PySem PySem.Spec PyProof.Rows L2
/-! ## 10. Refused -/
theorem Kd.flat {H : Hp} {x : V} (k : Kd H x) : flatB x = true ∨ ∃ a, x = .ref a := by
  cases k with
  | non => exact .inl rfl
  | bl b => exact .inl rfl
  | int i => exact .inl rfl
  | str z => exact .inl rfl
  | lst h => exact .inr ⟨_, rfl⟩
  | tup h => exact .inr ⟨_, rfl⟩
  | dic h => exact .inr ⟨_, rfl⟩
/-- what the clauses of the law look up -/
structure CatchTx (K : PySem.W.Frag) (NS NW : Addr) : Prop where
  ss : PySem.W.exmOne K (.ref NS) (.ref NS) = some true
  ws : PySem.W.exmOne K (.ref NW) (.ref NS) = some false
  ww : PySem.W.exmOne K (.ref NW) (.ref NW) = some true
  xf : XfC K NS
section
variable {P : Program} {w : World} {K : PySem.W.Frag} {mg : Str → Option Value} {base : Heap} {C CS NS NW W : Addr}
def spLTold (C CS : Addr) : Sp := fun vs H Q _ => ∃ (p : Addr) (ds : List Row) (x sp : V), vs = [.ref p, x, sp] ∧ SortsAt C CS H p ds ∧ Kd H x ∧ (∀ z, x = .str z → z.length ≤ 1000) ∧
  ((∃ (i : Nat) (r : Row) (t b : Int), ds[i]? = some r ∧ x = .str r.name ∧ PairAt H sp t b ∧ Wt t b ∧ ∀ (a q : Addr) H', Same H H' → H' a = some (.tup [.str "good", .ref q]) → SortsAt C CS H' q (ds.set i (r.sp (loT t b) (loB t b))) → Q (.ref a) H') ∨
    ((∀ r ∈ ds, x ≠ .str r.name) ∧ ∀ (a : Addr) H', Same H H' → H' a = some (.tup [.str "sort", x]) → Q (.ref a) H') ∨
    ((∃ r ∈ ds, x = .str r.name) ∧ IsW H sp false ∧ ∀ (a : Addr) H', Same H H' → H' a = some (.tup [.str "weight", .non]) → Q (.ref a) H'))
theorem scLTold : FnScope ["_law_sorts", "_law_name", "_law_speed", "_law_told_here", "e"] ["_law_sorts", "_law_name", "_law_speed"] (defScope lTold) := ⟨rfl, rfl, rfl, by decide +kernel, rfl, by decide +kernel, by decide +kernel⟩
theorem ok_ltold {f f1 fI : Addr} {fd fd1 : FuncData} (F : FnP K "_law_told" "_law_told" lTold f fd) (TS : SortsTx K CS) (TN : NoSortTx K mg NS W fI) (TW : NoWeightTx K mg NW) (TC : CatchTx K NS NW)
    (G1 : CalM P w K mg base (L2.CX P w) 6 CS "with_speed" ["self", "name", "speed"] (spWith C CS NS NW) f1 fd1) : FnOk P w K mg base CX0 7 f fd ["_law_sorts", "_law_name", "_law_speed"] (spLTold C CS) := by
  refine F.ok scLTold (fun vs H Q E h => ?_) (fun cdv A outer s H vs Q E hr h => ?_)
  · obtain ⟨p, ds, x, sp, rfl, _⟩ := h
    rfl
  · obtain ⟨p, ds, x, sp, rfl, S, k, hz, q⟩ := h
    have nd := scLTold.nd
    refine ⟨_, PSs.nox (pss_cons (ps_set (i := 3) nd rfl (.inl rfl) (pe_tup (pa_cons pe_str (pa_cons pe_non pa_nil))))
      (pss_cons (ps_try_two (i := 4) (c := .ref NS) (c2 := .ref NW) rfl rfl nd rfl rfl ⟨by rfl, by decide, .inl TN.gN⟩ ⟨by rfl, by decide, .inl TW.gW⟩
        (fun W pn xe tk _ => pss_one (ps_set (i := 3) nd rfl (.inl rfl) (pe_tup (pa_cons pe_str (pa_cons (pe_methA (E := WE W) (pv 0) TS.cl G1.m G1.F hr G1.b (fun σ => passAt tk σ) (pa_cons (pv 1) (pa_cons (pv 2) pa_nil))) pa_nil)))))
        (fun a oe cls d pn hz hf => pss_one (ps_set (i := 3) nd rfl (.inl rfl) (pe_tup (pa_cons pe_str (pa_cons (pe_xf TC.xf TN.nN hz hf (pv 4)) pa_nil)))))
        (fun a oe cls d pn hz hf => pss_one (ps_set (i := 3) nd rfl (.inl rfl) (pe_tup (pa_cons pe_str (pa_cons pe_non pa_nil))))))
      (pss_one (ps_ret (pv 3))))), ?_⟩
    refine ⟨by show 2 ≤ sizeLine; decide, fun t0 ht0 => ?_⟩
    have e1 : Same H (upd H t0 (.tup [.str "good", .non])) := same_upd ht0
    generalize upd H t0 (.tup [.str "good", .non]) = H1 at e1 ⊢
    have S1 := S.ex (ExN.of e1)
    obtain ⟨dx, d, kvs, hp, _⟩ := S1.ob
    refine ⟨_, rfl, p, dx, _, rfl, hp, rfl, _, rfl, _, rfl, p, ds, x, sp, rfl, S1, k.ex e1, hz, ?_⟩
    rcases q with ⟨i, r, t, b, hi, rfl, hsp, wt, q⟩ | ⟨hno, q⟩ | ⟨hex, hsp, q⟩
    · refine .inl ⟨i, r, t, b, hi, rfl, hsp.ex (ExN.of e1), wt, fun a H2 e2 S2 => ⟨by show 2 ≤ sizeLine; decide, fun t1 ht1 => ?_⟩⟩
      have e3 : Same H2 (upd H2 t1 (.tup [.str "good", .ref a])) := same_upd ht1
      exact ⟨_, rfl, q t1 a _ ((e1.trans e2).trans e3) upd_same (S2.ex (ExN.of e3))⟩
    · refine .inr (.inl ⟨hno, fun dd H2 e2 hdd hd2 => .inl ⟨TC.ss, fun a ha => ?_⟩⟩)
      refine ⟨_, rfl, rfl, rfl, dd, _, _, rfl, hd2, rfl, by show 2 ≤ sizeLine; decide, fun t1 ht1 => ?_⟩
      exact ⟨_, rfl, q t1 _ ((e1.trans e2).trans (same_upd ht1)) upd_same⟩
    · refine .inr (.inr ⟨hex, hsp.ex e1, fun H2 e2 => .inr ⟨TC.ws, TC.ww, fun a ha => ⟨by show 2 ≤ sizeLine; decide, fun t1 ht1 => ?_⟩⟩⟩)
      exact ⟨_, rfl, q t1 _ ((e1.trans e2).trans (same_upd ht1)) upd_same⟩
/-! ### sort_of refuses -/
def spLNo (C CS : Addr) : Sp := fun vs H Q _ => ∃ (p : Addr) (ds : List Row) (x : V), vs = [.ref p, x] ∧ SortsAt C CS H p ds ∧ Kd H x ∧ (∀ z, x = .str z → z.length ≤ 1000) ∧ (∀ r ∈ ds, x ≠ .str r.name) ∧ ∀ H', Same H H' → Q (.bl true) H'
theorem scLNo : FnScope ["_law_sorts", "_law_name", "_law_told_here", "e"] ["_law_sorts", "_law_name"] (defScope lNoSort) := ⟨rfl, rfl, rfl, by decide +kernel, rfl, by decide +kernel, by decide +kernel⟩
theorem ok_lno {f f1 fI : Addr} {fd fd1 : FuncData} (F : FnP K "_law_no_sort" "_law_no_sort" lNoSort f fd) (TS : SortsTx K CS) (TN : NoSortTx K mg NS W fI) (TC : CatchTx K NS NW)
    (G1 : CalM P w K mg base (L2.CX P w) 3 CS "sort_of" ["self", "name"] (spSortOf C CS NS) f1 fd1) : FnOk P w K mg base CX0 4 f fd ["_law_sorts", "_law_name"] (spLNo C CS) := by
  refine F.ok scLNo (fun vs H Q E h => ?_) (fun cdv A outer s H vs Q E hr h => ?_)
  · obtain ⟨p, ds, x, rfl, _⟩ := h
    rfl
  · obtain ⟨p, ds, x, rfl, S, k, hz, hno, q⟩ := h
    have nd := scLNo.nd
    have hu := hu_of hr
    refine ⟨_, PSs.nox (pss_cons (ps_set (i := 2) nd rfl (.inl rfl) pe_non)
      (pss_cons (ps_try_as (i := 3) (c := .ref NS) (Wout := fun _ _ _ _ => False) rfl rfl nd rfl rfl ⟨by rfl, by decide, .inl TN.gN⟩ (fun _ _ ⟨_, _, _, _, _, _, _, _, _, _, _, _, _, _, _, _, z⟩ => z.elim)
        (fun W pn xe tk _ => pss_one (ps_expr (pe_methA (E := WE W) (pv 0) TS.cl G1.m G1.F hr G1.b (fun σ => passAt tk σ) (pa_cons (pv 1) pa_nil))))
        (fun a oe cls d pn hz hf => pss_one (ps_set (i := 2) nd rfl (.inl rfl) (pe_tup (pa_cons pe_str (pa_cons (pe_xf TC.xf TN.nN hz hf (pv 3)) pa_nil))))))
      (pss_one (ps_ret (pe_cmpR (op_eqSelf (Nat.lt_of_succ_lt hu)) (pv 2) (pe_tup (pa_cons pe_str (pa_cons (pv 1) pa_nil))) (nomark _)))))), ?_⟩
    obtain ⟨dx, d, kvs, hp, _⟩ := S.ob
    refine ⟨_, rfl, p, dx, _, rfl, hp, rfl, _, rfl, p, ds, x, rfl, S, k, hz, .inr ⟨hno, fun dd H2 e2 hdd hd2 => ⟨true, TC.ss, fun _ a ha => ?_, fun z => by cases z⟩⟩⟩
    refine ⟨_, rfl, rfl, rfl, dd, _, _, rfl, hd2, rfl, by show 2 ≤ sizeLine; decide, fun t1 ht1 => ?_⟩
    have c1 : Same H2 (upd H2 t1 (.tup [.str "sort", x])) := same_upd ht1
    have u1 : (upd H2 t1 (.tup [.str "sort", x])) t1 = some (.tup [.str "sort", x]) := upd_same
    have k2 : Kd H2 x := k.ex e2
    generalize upd H2 t1 (.tup [.str "sort", x]) = H3 at c1 u1 ⊢
    refine ⟨_, rfl, _, rfl, by show 2 ≤ sizeLine; decide, fun t2 ht2 => ?_⟩
    have c2 : Same H3 (upd H3 t2 (.tup [.str "sort", x])) := same_upd ht2
    refine ⟨t1, t2, [.str "sort", x], rfl, rfl, SqT.of (c2 _ _ u1), SqT.of upd_same, fun v hv => ?_, q _ ((e2.trans c1).trans c2)⟩
    rcases List.mem_cons.mp hv with rfl | hv
    · exact .inl rfl
    · rw [List.mem_singleton.mp hv]
      exact k2.flat
end
end Gw
namespace Gw
open PySem PySem.Spec PyProof.Rows L2
/-! ## 11. Sorts made anew -/
theorem cut_to {xs : List V} {k : Nat} (h : k ≤ xs.length) : cutV xs none (some (k : Int)) = xs.take k := by
  unfold cutV
  rw [HT.sIx_none, HT.sIx_nat, Nat.min_eq_left h]
  rfl
theorem cut_from {xs : List V} {k : Nat} (h : k ≤ xs.length) : cutV xs (some (k : Int)) none = xs.drop k := by
  unfold cutV
  rw [HT.sIx_none, HT.sIx_nat, Nat.min_eq_left h]
  refine List.take_of_length_le ?_
  rw [List.length_drop]
  exact Nat.le_refl _
theorem set_cut {α : Type} {v : α} : ∀ {xs : List α} {k : Nat}, k < xs.length → xs.take k ++ [v] ++ xs.drop (k + 1) = xs.set k v
  | [], _, h => absurd h (Nat.not_lt_zero _)
  | x :: xs, 0, _ => rfl
  | x :: xs, k + 1, h => congrArg (x :: ·) (set_cut (xs := xs) (k := k) (Nat.lt_of_succ_lt_succ h))
theorem RowsAt.set {H : Hp} {xs : List V} {rs : List Row} {v : V} {r : Row} {k : Nat} (h : RowsAt H xs rs) (hv : RowAt H v r) : RowsAt H (xs.set k v) (rs.set k r) := by
  refine ⟨by rw [List.length_set, List.length_set, h.len], fun i y q h1 h2 => ?_⟩
  by_cases e : k = i
  · subst e
    have l1 := (List.getElem?_eq_some_iff.mp h1).1
    have l2 := (List.getElem?_eq_some_iff.mp h2).1
    rw [List.length_set] at l1 l2
    rw [List.getElem?_set_self l1] at h1
    rw [List.getElem?_set_self l2] at h2
    rw [← Option.some.inj h1, ← Option.some.inj h2]
    exact hv
  · rw [List.getElem?_set_ne e] at h1 h2
    exact h.at_ i y q h1 h2
abbrev tRow (K : PySem.W.Frag) (l i : Nat) : TE := tOp (rIxL K) (tVar l) (tVar i)
/-- rows[:at] + [rows[at][:2] + (speed,) + rows[at][3:]] + rows[at + 1:] -/
abbrev teSwap (K : PySem.W.Frag) (l i : Nat) (sp : TE) : TE := tOp rCat (tOp rCat (tSl (rSlL K) (tVar l) tNoPart (tPart (tVar i)))
  (tLst (tCons (tOp (rCatT K) (tOp (rCatT K) (tSl (rSlT K) (tRow K l i) tNoPart (tPart (tC (.int 2)))) (tTup (tCons sp tNil))) (tSl (rSlT K) (tRow K l i) (tPart (tC (.int 3))) tNoPart)) tNil)))
  (tSl (rSlL K) (tVar l) (tPart (tOp (rI0 fun i j => V.int (i + j)) (tVar i) (tC (.int 1)))) tNoPart)
theorem swap_ok {K : PySem.W.Frag} {l i : Nat} {σ : L2.St} {H : Hp} {Q : VK} {a : Addr} {xs : List V} {rs : List Row} {k : Nat} {r : Row} {sp : TE} {t b : Int} (hl : σ[l]? = some (some (.ref a))) (hi : σ[i]? = some (some (.int (k : Int))))
    (ha : H a = some (.lst xs)) (R : RowsAt H xs rs) (hk : rs[k]? = some r) (h8 : rs.length ≤ 8) (hsp : ∀ H1 (Q1 : VK), Same H H1 → (∀ v H2, Same H1 H2 → PairAt H2 v t b → Q1 v H2) → sp σ H1 Q1)
    (q : ∀ D ys H', H D = none → Same H H' → H' D = some (.lst ys) → RowsAt H' ys (rs.set k (r.sp t b)) → Q (.ref D) H') : teSwap K l i sp σ H Q := by
  obtain ⟨x, hx, row⟩ := R.get2 hk
  have hkl := (List.getElem?_eq_some_iff.mp hx).1
  have h8x : xs.length ≤ 8 := by rw [R.len]; exact h8
  obtain ⟨ra, w, s, rfl, hra, hw, hs⟩ := row
  refine ⟨_, hl, _, hi, _, rfl, a, xs, rfl, SqL.of ha, fun p hp => ?_⟩
  rw [cut_to (by omega)]
  have c1 : Same H (upd H p (.lst (xs.take k))) := same_upd hp
  have t1 : (upd H p (.lst (xs.take k))) p = some (.lst (xs.take k)) := upd_same
  generalize upd H p (.lst (xs.take k)) = H1 at c1 t1 ⊢
  refine ⟨_, hl, _, hi, a, xs, _, .ref ra, rfl, rfl, SqL.of (c1 _ _ ha), atI_nat hx, 2, rfl, ra, _, rfl, SqT.of (c1 _ _ hra), (by show ¬ ((0 : Nat) = 0 ∧ HT.sIx 5 5 (some 2) = 5); decide), fun q1 hq1 => ?_⟩
  rw [cut2]
  have c2 : Same H1 (upd H1 q1 (.tup [.str r.name, w])) := same_upd hq1
  have t2 : (upd H1 q1 (.tup [.str r.name, w])) q1 = some (.tup [.str r.name, w]) := upd_same
  generalize upd H1 q1 (.tup [.str r.name, w]) = H2 at c2 t2 ⊢
  refine hsp H2 _ (c1.trans c2) fun v H3 c3 hv => ⟨by show 1 ≤ sizeLine; decide, fun q2 hq2 => ?_⟩
  have c4 : Same H3 (upd H3 q2 (.tup [v])) := same_upd hq2
  have t4 : (upd H3 q2 (.tup [v])) q2 = some (.tup [v]) := upd_same
  generalize upd H3 q2 (.tup [v]) = H4 at c4 t4 ⊢
  refine ⟨q1, q2, _, _, rfl, rfl, SqT.of (c4 _ _ (c3 _ _ t2)), SqT.of t4, (fun z => by cases z), (by show 2 + 1 ≤ sizeLine; decide), (fun z => by cases z), fun _ q3 hq3 => ?_⟩
  have c5 : Same H4 (upd H4 q3 (.tup ([.str r.name, w] ++ [v]))) := same_upd hq3
  have t5 : (upd H4 q3 (.tup ([.str r.name, w] ++ [v]))) q3 = some (.tup ([.str r.name, w] ++ [v])) := upd_same
  generalize upd H4 q3 (.tup ([.str r.name, w] ++ [v])) = H5 at c5 t5 ⊢
  have c := (((c1.trans c2).trans c3).trans c4).trans c5
  refine ⟨_, hl, _, hi, a, xs, _, .ref ra, rfl, rfl, SqL.of (c _ _ ha), atI_nat hx, 3, rfl, ra, _, rfl, SqT.of (c _ _ hra), (by show ¬ (HT.sIx 5 0 (some 3) = 0 ∧ (5 : Nat) = 5); decide), fun q4 hq4 => ?_⟩
  rw [cut3]
  have c6 : Same H5 (upd H5 q4 (.tup [.int r.span, .int r.tries])) := same_upd hq4
  have t6 : (upd H5 q4 (.tup [.int r.span, .int r.tries])) q4 = some (.tup [.int r.span, .int r.tries]) := upd_same
  generalize upd H5 q4 (.tup [.int r.span, .int r.tries]) = H6 at c6 t6 ⊢
  refine ⟨q3, q4, _, _, rfl, rfl, SqT.of (c6 _ _ t5), SqT.of t6, (fun z => by cases z), (by show 3 + 2 ≤ sizeLine; decide), (fun z => by cases z), fun _ q5 hq5 => ?_⟩
  have c7 : Same H6 (upd H6 q5 (.tup ([.str r.name, w] ++ [v] ++ [.int r.span, .int r.tries]))) := same_upd hq5
  have t7 : (upd H6 q5 (.tup ([.str r.name, w] ++ [v] ++ [.int r.span, .int r.tries]))) q5 = some (.tup [.str r.name, w, v, .int r.span, .int r.tries]) := upd_same
  generalize upd H6 q5 (.tup ([.str r.name, w] ++ [v] ++ [.int r.span, .int r.tries])) = H7 at c7 t7 ⊢
  refine ⟨by show 1 ≤ sizeLine; decide, fun d1 hd1 => ?_⟩
  have c8 : Same H7 (upd H7 d1 (.lst [.ref q5])) := same_upd hd1
  have t8 : (upd H7 d1 (.lst [.ref q5])) d1 = some (.lst [.ref q5]) := upd_same
  generalize upd H7 d1 (.lst [.ref q5]) = H8 at c8 t8 ⊢
  have c38 := (((c4.trans c5).trans c6).trans c7).trans c8
  have c18 := (c2.trans c3).trans c38
  refine ⟨p, d1, _, _, rfl, rfl, c18 _ _ t1, t8, ?_, fun p2 hp2 => ?_⟩
  · rw [List.length_take, sizeLine_eq]
    show min k xs.length + 1 ≤ _
    omega
  have c9 : Same H8 (upd H8 p2 (.lst (xs.take k ++ [.ref q5]))) := same_upd hp2
  have t9 : (upd H8 p2 (.lst (xs.take k ++ [.ref q5]))) p2 = some (.lst (xs.take k ++ [.ref q5])) := upd_same
  generalize upd H8 p2 (.lst (xs.take k ++ [.ref q5])) = H9 at c9 t9 ⊢
  have cc := (c1.trans c18).trans c9
  refine ⟨_, hl, _, hi, _, _, rfl, rfl, _, rfl, a, xs, rfl, SqL.of (cc _ _ ha), fun p3 hp3 => ?_⟩
  have ek : (k : Int) + 1 = ((k + 1 : Nat) : Int) := by omega
  rw [ek, cut_from (by omega)]
  have c10 : Same H9 (upd H9 p3 (.lst (xs.drop (k + 1)))) := same_upd hp3
  have t10 : (upd H9 p3 (.lst (xs.drop (k + 1)))) p3 = some (.lst (xs.drop (k + 1))) := upd_same
  generalize upd H9 p3 (.lst (xs.drop (k + 1))) = H10 at c10 t10 ⊢
  refine ⟨p2, p3, _, _, rfl, rfl, c10 _ _ t9, t10, ?_, fun D hD => ?_⟩
  · rw [List.length_append, List.length_take, List.length_drop, sizeLine_eq]
    show min k xs.length + 1 + (xs.length - (k + 1)) ≤ _
    omega
  rw [set_cut hkl]
  have c11 : Same H10 (upd H10 D (.lst (xs.set k (.ref q5)))) := same_upd hD
  have call := (cc.trans c10).trans c11
  refine q D _ _ ((cc.trans c10).free hD) call upd_same ((R.ex (ExN.of call)).set ⟨q5, w, v, rfl, ?_, hw.ex (ExN.of call), ?_⟩)
  · exact c11 _ _ (c10 _ _ (c9 _ _ (c8 _ _ t7)))
  · exact hv.ex (ExN.of (((c38.trans c9).trans c10).trans c11))
end Gw
namespace Gw
open PySem PySem.Spec PyProof.Rows L2
section
variable {P : Program} {w : World} {K : PySem.W.Frag} {mg : Str → Option Value} {base : Heap} {C CS NS NW W : Addr}
/-- Sorts(l) -/
theorem mk_sorts {l z dz : Addr} {xs : List V} {rs : List Row} {H : Hp} {Q : VK} {E : XK} (hl : H l = some (.lst xs)) (R : RowsAt H xs rs) (ok : RowsOk rs) (nz : H z = none) (ndz : H dz = none) (q : ∀ H', Same H H' → SortsAt C CS H' z (rs.map Row.lo) → Q .non H') :
    spSorts C CS [.ref z, .ref l] (upd (upd H dz (.own z)) z (.ins CS dz [])) Q E := by
  refine ⟨z, dz, l, xs, rs, rfl, upd_same, ?_, R.tx (fun a xs e => ?_), ok, fun H6 k6 S6 => q H6 (fun b o e => ?_) S6⟩
  · rw [upd_ne (ne_of_none hl nz), upd_ne (ne_of_none hl ndz)]
    exact hl
  · rw [upd_ne (ne_of_none e nz), upd_ne (ne_of_none e ndz)]
    exact e
  · have nb : b ≠ z := ne_of_none e nz
    refine k6 b o ?_ nb
    rw [upd_ne nb, upd_ne (ne_of_none e ndz)]
    exact e
def spFirst : Sp := fun vs H Q _ => ∃ (l : Addr) (xs : List V) (rs : List Row) (way : Int) (k : Nat), vs = [.ref l, .int way, .int (k : Int)] ∧ H l = some (.lst xs) ∧ RowsAt H xs rs ∧ RowsOk rs ∧ k < rs.length ∧ ∀ H', Same H H' → Q (.bl true) H'
abbrev nFirst : List Str := ["_law_rows_here", "_law_way", "_law_at", "_law_due_here", "_law_sorts", "_law_one", "_law_other", "_law_row_here"]
theorem scFirst : FnScope nFirst ["_law_rows_here", "_law_way", "_law_at"] (defScope lFirst) := ⟨rfl, rfl, rfl, by decide +kernel, rfl, by decide +kernel, by decide +kernel⟩
theorem ok_first {f f1 f2 f3 f4 f5 fI : Addr} {fd fd1 fd2 fd3 fd4 fd5 fdI : FuncData} (F : FnP K "_law_first" "_law_first" lFirst f fd) (m2 : mg "list" = none) (T : SortTx K C) (TS : SortsTx K CS)
    (G1 : Cal P w K mg base CX0 2 "_law_due" ["_law_rows_here"] spDue f1 fd1) (G2 : CalM P w K mg base CX0 1 CS "sort_names" ["self"] (spNames C CS) f2 fd2) (G3 : CalM P w K mg base CX0 1 CS "rows_told" ["self"] (spTold C CS) f3 fd3)
    (G4 : CalM P w K mg base (L2.CX P w) 3 CS "sort_of" ["self", "name"] (spSortOf C CS NS) f4 fd4) (G5 : CalM P w K mg base (L2.CX P w) 6 CS "with_speed" ["self", "name", "speed"] (spWith C CS NS NW) f5 fd5)
    (mC : mg "Sorts" = some (.ref CS)) (M : Mk K CS fI) (bI : Binds K fdI ["self", "rows"] []) (GI : FnOk P w K mg base CX0 4 fI fdI ["self", "rows"] (spSorts C CS)) :
    FnOk P w K mg base CX0 7 f fd ["_law_rows_here", "_law_way", "_law_at"] spFirst := by
  refine F.ok scFirst (fun vs H Q E h => ?_) (fun cdv A outer s H vs Q E hr h => ?_)
  · obtain ⟨l, xs, rs, way, k, rfl, _⟩ := h
    rfl
  · obtain ⟨l, xs, rs, way, k, rfl, hl, R, ok, hk, q⟩ := h
    have hr1 : Room 1 _ := hr.mono (by decide)
    have hr2 : Room 2 _ := hr.mono (by decide)
    have hr3 : Room 3 _ := hr.mono (by decide)
    have hr5 : Room 5 _ := hr.mono (by decide)
    have hu := hr.units
    have nd := scFirst.nd
    refine ⟨_, PSs.nox (pss_cons (ps_set (i := 3) nd rfl (.inl rfl) (pe_call G1.F hr2 (by rfl) G1.g G1.kp G1.b .nil pass0 (pa_cons (pv 0) pa_nil)))
      (pss_cons (ps_set (i := 4) nd rfl (.inl rfl) (pe_make M GI hr5 rfl mC bI .nil pass0 (pa_cons (pe_callTy call_list_of (by rfl) m2 (by decide +kernel) (pa_cons (pv 0) pa_nil)) pa_nil)))
      (pss_cons (ps_if (pt_cmpR op_eq (pv 1) pe_int (nomark _)) (pss_one (ps_ret (pe_cmpR (op_eqD hu) (pe_meth0 (pv 4) TS.cl G3.m G3.F hr1 G3.b .nil pass0) (pv 3) (nomark _)))) pss_nil)
      (pss_cons (ps_if (pt_cmpR op_eq (pv 1) pe_int (nomark _)) (pss_cons (ps_set (i := 5) nd rfl (.inl rfl) (pe_meth (E := E0) (pv 4) TS.cl G4.m G4.F hr3 G4.b .nil passL (pa_cons (pe_ix ix_tup (pe_ix ix_list (pv 0) (pv 2) (fun _ _ => rfl)) pe_int (fun _ _ => rfl)) pa_nil)))
        (pss_one (ps_ret (pe_cmpR (op_eqD hu) (pe_tup (pa_cons (pe_fld (pv 5) rfl) (pa_cons (pe_fld (pv 5) rfl) (pa_cons (pe_fld (pv 5) rfl) (pa_cons (pe_fld (pv 5) rfl) (pa_cons (pe_fld (pv 5) rfl) pa_nil)))))) (pe_ix ix_list (pv 3) (pv 2) (fun _ _ => rfl)) (nomark _))))) pss_nil)
      (pss_cons (ps_if (pt_cmpR op_eq (pv 1) pe_int (nomark _)) (pss_cons (ps_set (i := 6) nd rfl (.inl rfl) (pe_meth (E := E0) (pv 4) TS.cl G5.m G5.F hr G5.b .nil passL (pa_cons (pe_ix ix_tup (pe_ix ix_list (pv 0) (pv 2) (fun _ _ => rfl)) pe_int (fun _ _ => rfl))
          (pa_cons (pe_tup (pa_cons pe_int (pa_cons pe_int pa_nil))) pa_nil))))
        (pss_one (ps_ret (pe_cmpR (op_eqD hu) (pe_meth0 (pv 6) TS.cl G3.m G3.F hr1 G3.b .nil pass0)
          (pe_op op_cat (pe_op op_cat (pe_slice sl_list (pv 3) po_none (po_some (pv 2)))
            (pe_lst (pa_cons (pe_op op_catT (pe_op op_catT (pe_slice sl_tup (pe_ix ix_list (pv 3) (pv 2) (fun _ _ => rfl)) po_none (po_some pe_int)) (pe_tup (pa_cons (pe_tup (pa_cons pe_int (pa_cons pe_int pa_nil))) pa_nil)))
              (pe_slice sl_tup (pe_ix ix_list (pv 3) (pv 2) (fun _ _ => rfl)) (po_some pe_int) po_none)) pa_nil)))
            (pe_slice sl_list (pv 3) (po_some (pe_op op_add (pv 2) pe_int)) po_none)) (nomark _))))) pss_nil)
      (pss_one (ps_ret (pe_cmpR (op_eqD hu) (pe_meth0 (pv 4) TS.cl G2.m G2.F hr1 G2.b .nil pass0) (pe_lc (own := [("_law_row_here", 7)]) (g := gName 7) (tt := tYes) (te := tAt K 7 0) rfl nd (pi_list (pv 3)) (blkOk_by (N := nFirst) (sc := defScope lFirst) (by decide +kernel))
            (fun _ _ _ _ _ => pg_name (i := 7) nd rfl (Or.inl rfl)) (fun _ _ _ _ _ => pts_nil) (fun _ _ _ _ _ => pe_ix ix_tup (pv 7) pe_int (fun _ _ => rfl))) (nomark _))))))))), ?_⟩
    obtain ⟨r, hrk⟩ : ∃ r, rs[k]? = some r := ⟨_, List.getElem?_eq_getElem hk⟩
    obtain ⟨xr, hxr, row⟩ := R.get2 hrk
    obtain ⟨ra, w1, w2, rfl, hra, _, _⟩ := row
    have rok := ok.ok r (List.mem_of_getElem? hrk)
    refine ⟨_, rfl, l, xs, rs, rfl, hl, R, ok, fun l2 ys H1 hl2 e1 y1 R1 => ?_⟩
    refine ⟨_, rfl, l, xs, rfl, .inl (SqL.of (e1 _ _ hl)), fun lc hlc => ?_⟩
    have c0 : Same H1 (upd H1 lc (.lst xs)) := same_upd hlc
    refine fun z dz nz ndz nez => mk_sorts (xs := xs) (rs := rs) upd_same (R.ex (ExN.of (e1.trans c0))) ok nz ndz fun H2 c1 S2 => ⟨rfl, ?_⟩
    have e2 := c0.trans c1
    have ok2 := ok.low
    have len8 : (rs.map Row.lo).length ≤ 8 := ok2.hi
    have nm2 := ok2.nm
    have hdk : (rs.map Row.lo)[k]? = some r.lo := by
      rw [List.getElem?_map, hrk]
      rfl
    have hnm : r.lo.name = r.name := rfl
    have rlok : r.lo.Ok := Row.lo_ok rok
    generalize rs.map Row.lo = ds at S2 R1 ok2 len8 nm2 hdk
    generalize r.lo = rl at hdk hnm rlok
    have y2 := e2 _ _ y1
    have R2 := R1.ex (ExN.of e2)
    have q2 : ∀ H', Same H2 H' → Q (.bl true) H' := fun H' e => q _ ((e1.trans e2).trans e)
    have l2' := e2 _ _ (e1 _ _ hl)
    have ra2 := e2 _ _ (e1 _ _ hra)
    obtain ⟨yr, hyr, rowY⟩ := R2.get2 hdk
    clear R1 y1 hl2 c1 e2 q R hl hra hlc c0 nz ndz nez
    have hsh := rows_lay nm2
    have hlx := hsh.sh
    have hle := hsh.eq
    obtain ⟨dx, d, kvs, hp, _⟩ := S2.ob
    refine ⟨_, rfl, rfl, _, rfl, ?_⟩
    refine ite2 (fun _ => ?_) (fun _ => ?_)
    · refine ⟨_, rfl, z, dx, _, rfl, hp, rfl, z, ds, rfl, S2, fun m zs H3 hm e3 m3 R3 => ⟨_, rfl, _, _, rows_dp m3 R3, rows_dp (e3 _ _ y2) (R2.ex (ExN.of e3)), hlx, hlx, ?_⟩⟩
      rw [hle]
      exact q2 _ e3
    refine ⟨_, rfl, rfl, _, rfl, ?_⟩
    refine ite2 (fun _ => ?_) (fun _ => ?_)
    · refine ⟨_, rfl, z, dx, _, rfl, hp, rfl, _, rfl, _, rfl, l, xs, _, .ref ra, rfl, rfl, SqL.of l2', atI_nat hxr, ra, _, 0, .str r.name, rfl, rfl, SqT.of ra2, atI_nat (j := 0) rfl, z, ds, .str r.name, rfl, S2, .str _,
        (fun z e => by cases e; exact name_small rok.name), .inl ⟨rl, List.mem_of_getElem? hdk, by rw [hnm], fun v H7 e7 sv => ?_⟩⟩
      obtain ⟨sa, sd, u1, u2, rfl, hsa, hw1, hw2⟩ := sv
      refine ⟨_, rfl, sa, C, sd, _, _, rfl, hsa, T.cl, T.n1, rfl, _, rfl, sa, C, sd, _, _, rfl, hsa, T.cl, T.n2, rfl, _, rfl, sa, C, sd, _, _, rfl, hsa, T.cl, T.n3, rfl, _, rfl, sa, C, sd, _, _, rfl, hsa, T.cl, T.n4, rfl, _, rfl, sa, C, sd, _, _, rfl, hsa, T.cl, T.n5, rfl, by show 5 ≤ sizeLine; decide, fun t ht => ?_⟩
      have e8 : Same H7 (upd H7 t (.tup [.str rl.name, u1, u2, .int rl.span, .int rl.tries])) := same_upd ht
      have row1 : RowAt (upd H7 t (.tup [.str rl.name, u1, u2, .int rl.span, .int rl.tries])) (.ref t) rl := ⟨t, _, _, rfl, upd_same, hw1.ex (ExN.of e8), hw2.ex (ExN.of e8)⟩
      generalize upd H7 t (.tup [.str rl.name, u1, u2, .int rl.span, .int rl.tries]) = H8 at e8 row1 ⊢
      have e78 := e7.trans e8
      have ol := one_lay rlok.name
      refine ⟨_, rfl, _, rfl, l2, ys, _, yr, rfl, rfl, SqL.of (e78 _ _ y2), atI_nat hyr, _, _, row_dp row1, row_dp (rowY.ex (ExN.of e78)), ol.sh, ol.sh, ?_⟩
      rw [ol.eq]
      exact q2 _ e78
    refine ⟨_, rfl, rfl, _, rfl, ?_⟩
    refine ite2 (fun _ => ?_) (fun _ => ?_)
    · refine ⟨_, rfl, z, dx, _, rfl, hp, rfl, _, rfl, _, rfl, l, xs, _, .ref ra, rfl, rfl, SqL.of l2', atI_nat hxr, ra, _, 0, .str r.name, rfl, rfl, SqT.of ra2, atI_nat (j := 0) rfl, by show 2 ≤ sizeLine; decide, fun t ht => ?_⟩
      have e3 : Same H2 (upd H2 t (.tup [.int 6, .int 4])) := same_upd ht
      have t3 : (upd H2 t (.tup [.int 6, .int 4])) t = some (.tup [.int 6, .int 4]) := upd_same
      generalize upd H2 t (.tup [.int 6, .int 4]) = H3 at e3 t3 ⊢
      refine ⟨z, ds, .str r.name, .ref t, rfl, S2.ex (ExN.of e3), .str _, (fun z e => by cases e; exact name_small rok.name), .inl ⟨k, rl, 6, 4, hdk, by rw [hnm], ⟨t, rfl, t3⟩, ⟨by decide, by decide, by decide, by decide⟩, fun z4 H4 e4 S4 => ?_⟩⟩
      have e24 := e3.trans e4
      obtain ⟨dx4, d4, kvs4, hp4, _⟩ := S4.ob
      refine ⟨_, rfl, z4, dx4, _, rfl, hp4, rfl, z4, _, rfl, S4, fun m zs H5 hm e5 m5 R5 => ?_⟩
      have e25 := e24.trans e5
      refine swap_ok (K := K) (l := 3) (i := 2) (t := 3) (b := 2) rfl rfl (e25 _ _ y2) (R2.ex (ExN.of e25)) hdk len8 (fun Ha Qa ea h => ?_) fun D ws H6 hD e6 hw6 R6 => ?_
      · exact ⟨by show 2 ≤ sizeLine; decide, fun t5 ht5 => h (.ref t5) _ (same_upd ht5) ⟨t5, rfl, upd_same⟩⟩
      · have okS : RowsOk (ds.set k (rl.sp 3 2)) := ok2.set hdk ⟨by decide, by decide, by decide, by decide⟩
        have ol := rows_lay okS.nm
        have R5' : RowsAt H6 zs (ds.set k (rl.sp 3 2)) := R5.ex (ExN.of e6)
        refine ⟨_, _, rows_dp (e6 _ _ m5) R5', rows_dp hw6 R6, ol.sh, ol.sh, ?_⟩
        rw [ol.eq]
        exact q2 _ (e25.trans e6)
    · refine ⟨_, rfl, z, dx, _, rfl, hp, rfl, z, ds, rfl, S2, fun m hm => ?_⟩
      have d1 : Same H2 (upd H2 m (.lst (ds.map fun r => V.str r.name))) := same_upd hm
      have u1 : (upd H2 m (.lst (ds.map fun r => V.str r.name))) m = some (.lst ((ds.map (·.name)).map V.str)) := by
        rw [upd_same, List.map_map]
        rfl
      generalize upd H2 m (.lst (ds.map fun r => V.str r.name)) = H8 at d1 u1 ⊢
      have nl : Lay (.list ((ds.map (·.name)).map PyData.str)) := names_lay fun z hz => by
        obtain ⟨r, hr, rfl⟩ := List.mem_map.mp hz
        exact nm2 r hr
      refine lc_first (i := 3) rfl (d1 _ _ y2) (R2.ex (ExN.of d1)) len8 (fun _ => rfl) (fun _ => rfl) fun D H9 hD d2 hd => ?_
      refine ⟨_, _, names_dp (d2 _ _ u1), names_dp hd, nl.sh, nl.sh, ?_⟩
      rw [nl.eq]
      exact q2 _ (d1.trans d2)
end
end Gw
namespace Gw
open PySem PySem.Spec PyProof.Rows L2
/-! ## 12. What is asked by a cell -/
/-- no sort's name -/
structure Wrong (H : Hp) (v : V) : Prop where
  k : Kd H v
  z : ∀ z, v = .str z → z.length ≤ 1000
  n : ∀ z, NameOk z → v ≠ .str z
theorem Wrong.ex {H H' : Hp} {v : V} (h : Wrong H v) (e : Same H H') : Wrong H' v := ⟨h.k.ex e, h.z, h.n⟩
theorem Wrong.str {H : Hp} {z : Str} (hl : z.length ≤ 1000) (hn : ¬ NameOk z) : Wrong H (.str z) := ⟨.str z, (fun y e => by cases e; exact hl), fun y hy e => by cases e; exact hn hy⟩
theorem Wrong.ref {H : Hp} {a : Addr} (k : Kd H (.ref a)) : Wrong H (.ref a) := ⟨k, (fun z e => by cases e), fun z _ e => by cases e⟩
theorem app_len (x y : Str) : (x ++ y).length = x.length + y.length := by
  rw [len_codes, len_codes, len_codes, Str.cps_append, Array.toList_append, List.length_append]
theorem no_empty : ¬ NameOk "" := fun h => absurd h.lo (by decide)
theorem no_upper : ¬ NameOk "A" := fun h => absurd (h.az 65 (by decide)).1 (by decide)
theorem no_long : ¬ NameOk "abcdefghi" := fun h => absurd h.hi (by decide)
theorem no_longer {z : Str} (hz : NameOk z) : ¬ NameOk (z ++ "zzzzzzzz") := fun h => by
  have h1 := h.hi
  have h2 := hz.lo
  rw [app_len] at h1
  have h3 : ("zzzzzzzz" : Str).length = 8 := by decide
  omega
theorem no_space {z : Str} : ¬ NameOk (z ++ " ") := fun h => by
  have h1 : 32 ∈ (z ++ " ").cps.toList := by
    rw [Str.cps_append, Array.toList_append]
    exact List.mem_append_right _ (by decide)
  have := (h.az 32 h1).1
  omega
theorem get_all {α : Type} {p : α → Prop} {l : List α} (h : ∀ x ∈ l, p x) {i n : Int} (i0 : 0 ≤ i) (hn : i < n) (hl : n = l.length) : ∃ x, atI l i = some x ∧ p x := by
  have hlt : i.toNat < l.length := by omega
  have e : i = ((i.toNat : Nat) : Int) := by omega
  obtain ⟨j, rfl⟩ : ∃ j : Nat, i = (j : Int) := ⟨_, e⟩
  rw [Int.toNat_natCast] at hlt
  exact ⟨l[j], atI_nat (List.getElem?_eq_getElem hlt), h _ (List.getElem_mem hlt)⟩
section
variable {P : Program} {w : World} {K : PySem.W.Frag} {mg : Str → Option Value} {base : Heap} {C CS NS NW W : Addr}
def spAsked (C CS : Addr) : Sp := fun vs H Q _ => ∃ (p l : Addr) (xs : List V) (rs : List Row) (c : Int), vs = [.ref p, .ref l, .int c] ∧ SortsAt C CS H p (rs.map Row.lo) ∧ H l = some (.lst xs) ∧ RowsAt H xs rs ∧ RowsOk rs ∧ ∀ H', Same H H' → Q (.bl true) H'
abbrev nAsked : List Str := ["_law_sorts", "_law_rows_here", "_law_cell_here", "_law_at", "_law_speed", "_law_word", "_law_other", "_law_wrong", "_law_bad", "_law_odd"]
theorem scAsked : FnScope nAsked ["_law_sorts", "_law_rows_here", "_law_cell_here"] (defScope lAsked) := ⟨rfl, rfl, rfl, by decide +kernel, rfl, by decide +kernel, by decide +kernel⟩
theorem ok_asked {f f1 f2 f3 f4 f5 f6 : Addr} {fd fd1 fd2 fd3 fd4 fd5 fd6 : FuncData} (F : FnP K "_law_asked" "_law_asked" lAsked f fd) (m1 : mg "len" = none)
    (G1 : Cal P w K mg base CX0 2 "_law_draw" ["_law_cell_here", "_law_k"] spDraw f1 fd1) (G2 : Cal P w K mg base CX0 1 "_law_weight" ["_law_number"] spWeight f2 fd2)
    (G3 : Cal P w K mg base CX0 7 "_law_told" ["_law_sorts", "_law_name", "_law_speed"] (spLTold C CS) f3 fd3) (G4 : Cal P w K mg base CX0 4 "_law_stands" ["_law_sorts", "_law_rows_here"] (spStands C CS) f4 fd4)
    (G5 : Cal P w K mg base CX0 7 "_law_first" ["_law_rows_here", "_law_way", "_law_at"] spFirst f5 fd5) (G6 : Cal P w K mg base CX0 4 "_law_no_sort" ["_law_sorts", "_law_name"] (spLNo C CS) f6 fd6) :
    FnOk P w K mg base CX0 8 f fd ["_law_sorts", "_law_rows_here", "_law_cell_here"] (spAsked C CS) := by
  refine F.ok scAsked (fun vs H Q E h => ?_) (fun cdv A outer s H vs Q E hr h => ?_)
  · obtain ⟨p, l, xs, rs, c, rfl, _⟩ := h
    rfl
  · obtain ⟨p, l, xs, rs, c, rfl, S, hl, R, ok, q⟩ := h
    have hr1 : Room 1 _ := hr.mono (by decide)
    have hr2 : Room 2 _ := hr.mono (by decide)
    have hr4 : Room 4 _ := hr.mono (by decide)
    have hu := Nat.lt_of_succ_lt (hu_of hr)
    have nd := scAsked.nd
    refine ⟨_, PSs.nox (pss_cons (ps_set (i := 3) nd rfl (.inl rfl) (pe_op op_mod (pe_call G1.F hr2 (by rfl) G1.g G1.kp G1.b .nil pass0 (pa_cons (pv 2) (pa_cons pe_int pa_nil))) (pe_callB call_len_seq (by rfl) m1 PySem.boot_len (pa_cons (pv 1) pa_nil))))
      (pss_cons (ps_set (i := 4) nd rfl (.inl rfl) (pe_call G2.F hr1 (by rfl) G2.g G2.kp G2.b .nil pass0 (pa_cons (pe_call G1.F hr2 (by rfl) G1.g G1.kp G1.b .nil pass0 (pa_cons (pv 2) (pa_cons pe_int pa_nil))) pa_nil)))
      (pss_cons (ps_asg (pe_call G3.F hr (by rfl) G3.g G3.kp G3.b .nil pass0 (pa_cons (pv 0) (pa_cons (pe_ix ix_tup (pe_ix ix_list (pv 1) (pv 3) (fun _ _ => rfl)) pe_int (fun _ _ => rfl)) (pa_cons (pv 4) pa_nil))))
        (pg_tup (by rfl) (pgs_cons (pg_name (i := 5) nd rfl (.inl rfl)) (pgs_cons (pg_name (i := 6) nd rfl (.inl rfl)) pgs_nil))))
      (pss_cons (ps_if (PW.pt (pw_or (pt_cmpR op_ne (pv 5) pe_str (nomark _)) (pw_or (pt_not (pt_val (pe_call G4.F hr4 (by rfl) G4.g G4.kp G4.b .nil pass0 (pa_cons (pv 0) (pa_cons (pv 1) pa_nil)))))
          (pw_or1 (pt_not (pt_val (pe_call G5.F hr (by rfl) G5.g G5.kp G5.b .nil pass0 (pa_cons (pv 1) (pa_cons (pe_op op_mod (pe_op op_fdiv (pe_call G1.F hr2 (by rfl) G1.g G1.kp G1.b .nil pass0 (pa_cons (pv 2) (pa_cons pe_int pa_nil))) pe_int) pe_int) (pa_cons (pv 3) pa_nil)))))))))) (pss_one (ps_ret pe_bl)) pss_nil)
      (pss_cons (ps_if (pt_not (pt_val (pe_call G4.F hr4 (by rfl) G4.g G4.kp G4.b .nil pass0 (pa_cons (pv 6) (pa_cons (pe_op op_cat (pe_op op_cat (pe_slice sl_list (pv 1) po_none (po_some (pv 3)))
            (pe_lst (pa_cons (pe_op op_catT (pe_op op_catT (pe_slice sl_tup (pe_ix ix_list (pv 1) (pv 3) (fun _ _ => rfl)) po_none (po_some pe_int)) (pe_tup (pa_cons (pv 4) pa_nil)))
              (pe_slice sl_tup (pe_ix ix_list (pv 1) (pv 3) (fun _ _ => rfl)) (po_some pe_int) po_none)) pa_nil)))
            (pe_slice sl_list (pv 1) (po_some (pe_op op_add (pv 3) pe_int)) po_none)) pa_nil))))) (pss_one (ps_ret pe_bl)) pss_nil)
      (pss_cons (ps_set (i := 7) nd rfl (.inl rfl) (pe_lst (pa_cons pe_non (pa_cons pe_int (pa_cons pe_bl (pa_cons pe_str (pa_cons pe_str (pa_cons pe_str (pa_cons (pe_op op_add_str (pe_ix ix_tup (pe_ix ix_list (pv 1) (pv 3) (fun _ _ => rfl)) pe_int (fun _ _ => rfl)) pe_str)
          (pa_cons (pe_tup (pa_cons (pe_ix ix_tup (pe_ix ix_list (pv 1) (pv 3) (fun _ _ => rfl)) pe_int (fun _ _ => rfl)) pa_nil)) (pa_cons (pe_lst pa_nil) (pa_cons pe_dnewK (pa_cons (pe_op op_add_str (pe_ix ix_tup (pe_ix ix_list (pv 1) (pv 3) (fun _ _ => rfl)) pe_int (fun _ _ => rfl)) pe_str) pa_nil)))))))))))))
      (pss_cons (ps_set (i := 8) nd rfl (.inl rfl) (pe_ix ix_list (pv 7) (pe_op op_mod (pe_call G1.F hr2 (by rfl) G1.g G1.kp G1.b .nil pass0 (pa_cons (pv 2) (pa_cons pe_int pa_nil))) pe_int) (fun _ _ => rfl)))
      (pss_cons (ps_set (i := 9) nd rfl (.inl rfl) (pe_lst (pa_cons pe_non (pa_cons pe_int (pa_cons (pe_tup (pa_cons pe_int pa_nil)) (pa_cons (pe_tup (pa_cons (pe_un un_neg pe_int) (pa_cons pe_int pa_nil))) (pa_cons (pe_tup (pa_cons pe_int (pa_cons pe_int pa_nil)))
          (pa_cons (pe_tup (pa_cons pe_int (pa_cons pe_int pa_nil))) (pa_cons (pe_tup (pa_cons pe_int (pa_cons pe_int pa_nil))) (pa_cons (pe_lst (pa_cons pe_int (pa_cons pe_int pa_nil))) (pa_cons (pe_tup (pa_cons pe_bl (pa_cons pe_int pa_nil)))
          (pa_cons (pe_tup (pa_cons pe_int (pa_cons pe_bl pa_nil))) (pa_cons pe_str (pa_cons (pe_tup (pa_cons pe_int (pa_cons pe_int (pa_cons pe_int pa_nil)))) pa_nil))))))))))))))
      (pss_cons (ps_set (i := 4) nd rfl (.inl rfl) (pe_ix ix_list (pv 9) (pe_op op_mod (pe_op op_fdiv (pe_call G1.F hr2 (by rfl) G1.g G1.kp G1.b .nil pass0 (pa_cons (pv 2) (pa_cons pe_int pa_nil))) pe_int) pe_int) (fun _ _ => rfl)))
      (pss_cons (ps_if (PW.pt (pw_or (pt_cmpR (op_neSelf hu) (pe_call G3.F hr (by rfl) G3.g G3.kp G3.b .nil pass0 (pa_cons (pv 0) (pa_cons (pv 8) (pa_cons (pv 4) pa_nil)))) (pe_tup (pa_cons pe_str (pa_cons (pv 8) pa_nil))) (nomark _))
          (pw_or1 (pt_not (pt_val (pe_call G6.F hr4 (by rfl) G6.g G6.kp G6.b .nil pass0 (pa_cons (pv 0) (pa_cons (pv 8) pa_nil)))))))) (pss_one (ps_ret pe_bl)) pss_nil)
      (pss_one (ps_ret (pe_cmpR (op_eqSelf hu) (pe_call G3.F hr (by rfl) G3.g G3.kp G3.b .nil pass0 (pa_cons (pv 0) (pa_cons (pe_ix ix_tup (pe_ix ix_list (pv 1) (pv 3) (fun _ _ => rfl)) pe_int (fun _ _ => rfl)) (pa_cons (pv 4) pa_nil))))
        (pe_tup (pa_cons pe_str (pa_cons pe_non pa_nil))) (nomark _)))))))))))))), ?_⟩
    have l1 := ok.lo
    have l8 := ok.hi
    have xl : xs.length = rs.length := R.len
    refine ⟨_, rfl, c, 0, rfl, by decide, by decide, fun m m0 _ => ?_⟩
    refine ⟨_, rfl, l, xs, rfl, .inl (SqL.of hl), m, (xs.length : Int), rfl, rfl, (by show (0 : Int) < (xs.length : Int); omega), ?_⟩
    obtain ⟨k, hk, hkl⟩ : ∃ k : Nat, m % (xs.length : Int) = (k : Int) ∧ k < rs.length := by
      have a0 := Int.emod_nonneg m (show (xs.length : Int) ≠ 0 by omega)
      have a1 := Int.emod_lt_of_pos m (show (0 : Int) < (xs.length : Int) by omega)
      exact ⟨(m % (xs.length : Int)).toNat, by omega, by omega⟩
    dsimp only
    rw [hk]
    obtain ⟨r, hrk⟩ : ∃ r, rs[k]? = some r := ⟨_, List.getElem?_eq_getElem hkl⟩
    obtain ⟨xr, hxr, row⟩ := R.get2 hrk
    obtain ⟨ra, w1, w2, rfl, hra, _, _⟩ := row
    have rok := ok.ok r (List.mem_of_getElem? hrk)
    have hdk : (rs.map Row.lo)[k]? = some r.lo := by
      rw [List.getElem?_map, hrk]
      rfl
    have nm2 := ok.low.nm
    -- the speed
    refine ⟨_, rfl, c, 1, rfl, by decide, by decide, fun n n0 _ => ⟨n, rfl, n0, fun sp t b hsp wt => ?_⟩⟩
    have c1 : Same H (upd H sp (.tup [.int t, .int b])) := same_upd hsp
    have t1 : (upd H sp (.tup [.int t, .int b])) sp = some (.tup [.int t, .int b]) := upd_same
    generalize upd H sp (.tup [.int t, .int b]) = H1 at c1 t1 ⊢
    -- told
    refine ⟨_, rfl, _, rfl, _, rfl, l, xs, _, .ref ra, rfl, rfl, SqL.of (c1 _ _ hl), atI_nat hxr, ra, _, 0, .str r.name, rfl, rfl, SqT.of (c1 _ _ hra), atI_nat (j := 0) rfl, _, rfl, p, rs.map Row.lo, .str r.name, .ref sp, rfl, S.ex (ExN.of c1), .str _, (fun z e => by cases e; exact name_small rok.name),
      .inl ⟨k, r.lo, t, b, hdk, rfl, ⟨sp, rfl, t1⟩, wt, fun a z H2 e2 ha Sz => ?_⟩⟩
    refine ⟨a, _, rfl, SqT.of ha, rfl, _, _, rfl, _, _, rfl, rfl, ?_⟩
    have c2 := c1.trans e2
    refine ⟨_, rfl, rfl, _, rfl, ?_⟩
    refine iteNS rfl ⟨_, rfl, _, rfl, p, l, xs, rs, rfl, S.ex (ExN.of c2), c2 _ _ hl, R.ex (ExN.of c2), ok, fun H3 e3 => ⟨_, rfl, iteF ?_⟩⟩
    have c3 := c2.trans e3
    refine ⟨_, rfl, _, rfl, c, 2, rfl, by decide, by decide, fun m2 _ _ => ?_⟩
    refine ⟨_, _, rfl, rfl, ⟨by decide, by decide⟩, _, _, rfl, rfl, (by show (0 : Int) < 4; decide), _, rfl, l, xs, rs, _, k, rfl, c3 _ _ hl, R.ex (ExN.of c3), ok, hkl, fun H4 e4 => ⟨_, rfl, iteF ?_⟩⟩
    have c4 := c3.trans e4
    have e24 := e3.trans e4
    have t4 := e24 _ _ (e2 _ _ t1)
    have Sz4 := Sz.ex (ExN.of e24)
    -- the other stands
    refine ⟨_, rfl, swap_ok (K := K) (l := 1) (i := 3) (t := t) (b := b) rfl rfl (c4 _ _ hl) (R.ex (ExN.of c4)) hrk l8 (fun Ha Qa ea h => ⟨_, rfl, h (.ref sp) _ (Same.refl _) ⟨sp, rfl, ea _ _ t4⟩⟩) fun D ws H5 hD e5 hw5 R5 => ?_⟩
    have Sz5 : SortsAt C CS H5 z ((rs.set k (r.sp t b)).map Row.lo) := by
      rw [map_set]
      exact Sz4.ex (ExN.of e5)
    refine ⟨z, D, ws, rs.set k (r.sp t b), rfl, Sz5, hw5, R5, ok.set hrk wt, fun H6 e6 => ⟨_, rfl, iteF ?_⟩⟩
    have c6 := (c4.trans e5).trans e6
    clear Sz5 R5 hw5 hD Sz4 Sz t4 t1 ha
    have h9 : r.name.length + 8 ≤ sizeLine := by
      have := rok.name.hi
      rw [sizeLine_eq]
      omega
    have z8 : ("zzzzzzzz" : Str).length = 8 := by decide
    have s1 : (" " : Str).length = 1 := by decide
    -- wrong
    refine ⟨_, rfl, _, rfl, l, xs, _, .ref ra, rfl, rfl, SqL.of (c6 _ _ hl), atI_nat hxr, ra, _, 0, .str r.name, rfl, rfl, SqT.of (c6 _ _ hra), atI_nat (j := 0) rfl, _, _, rfl, rfl, (by rw [z8]; exact h9), ?_⟩
    refine ⟨_, rfl, _, rfl, l, xs, _, .ref ra, rfl, rfl, SqL.of (c6 _ _ hl), atI_nat hxr, ra, _, 0, .str r.name, rfl, rfl, SqT.of (c6 _ _ hra), atI_nat (j := 0) rfl, by show 1 ≤ sizeLine; decide, fun a1 h1 => ?_⟩
    have b1 : Same H6 (upd H6 a1 (.tup [.str r.name])) := same_upd h1
    have u1 : (upd H6 a1 (.tup [.str r.name])) a1 = some (.tup [.str r.name]) := upd_same
    generalize upd H6 a1 (.tup [.str r.name]) = H7 at b1 u1 ⊢
    refine ⟨Nat.zero_le _, fun a2 h2 => ?_⟩
    have b2 : Same H7 (upd H7 a2 (.lst [])) := same_upd h2
    have u2 : (upd H7 a2 (.lst [])) a2 = some (.lst []) := upd_same
    generalize upd H7 a2 (.lst []) = H8 at b2 u2 ⊢
    intro a3 h3
    have b3 : Same H8 (upd H8 a3 (.dK [])) := same_upd h3
    have u3 : (upd H8 a3 (.dK [])) a3 = some (.dK []) := upd_same
    generalize upd H8 a3 (.dK []) = H9 at b3 u3 ⊢
    have c9 := ((c6.trans b1).trans b2).trans b3
    refine ⟨_, rfl, _, rfl, l, xs, _, .ref ra, rfl, rfl, SqL.of (c9 _ _ hl), atI_nat hxr, ra, _, 0, .str r.name, rfl, rfl, SqT.of (c9 _ _ hra), atI_nat (j := 0) rfl, _, _, rfl, rfl, (by rw [s1]; omega), by show 11 ≤ sizeLine; decide, fun wl hwl => ?_⟩
    have wrongs : ∀ v ∈ ([.non, .int 7, .bl true, .str "", .str "A", .str "abcdefghi", .str (r.name ++ "zzzzzzzz"), .ref a1, .ref a2, .ref a3, .str (r.name ++ " ")] : List V), Wrong H9 v := by
      have hl9 : r.name.length ≤ 8 := rok.name.hi
      refine List.forall_mem_cons.mpr ⟨⟨.non, (fun z e => by cases e), fun z _ e => by cases e⟩, ?_⟩
      refine List.forall_mem_cons.mpr ⟨⟨.int 7, (fun z e => by cases e), fun z _ e => by cases e⟩, ?_⟩
      refine List.forall_mem_cons.mpr ⟨⟨.bl true, (fun z e => by cases e), fun z _ e => by cases e⟩, ?_⟩
      refine List.forall_mem_cons.mpr ⟨.str (by decide) no_empty, ?_⟩
      refine List.forall_mem_cons.mpr ⟨.str (by decide) no_upper, ?_⟩
      refine List.forall_mem_cons.mpr ⟨.str (by decide) no_long, ?_⟩
      refine List.forall_mem_cons.mpr ⟨.str (by rw [app_len]; omega) (no_longer rok.name), ?_⟩
      refine List.forall_mem_cons.mpr ⟨.ref (.tup (b3 _ _ (b2 _ _ u1))), ?_⟩
      refine List.forall_mem_cons.mpr ⟨.ref (.lst (b3 _ _ u2)), ?_⟩
      refine List.forall_mem_cons.mpr ⟨.ref (.dic u3), ?_⟩
      exact List.forall_mem_cons.mpr ⟨.str (by rw [app_len]; omega) no_space, fun v hv => by cases hv⟩
    have b4 := same_upd (o := .lst [.non, .int 7, .bl true, .str "", .str "A", .str "abcdefghi", .str (r.name ++ "zzzzzzzz"), .ref a1, .ref a2, .ref a3, .str (r.name ++ " ")]) hwl
    refine ⟨_, rfl, _, rfl, c, 2, rfl, by decide, by decide, fun m3 m30 _ => ?_⟩
    obtain ⟨bad, hbad, wbad⟩ := get_all wrongs (i := m3 % 11) (n := 11) (by omega) (by omega) rfl
    refine ⟨_, _, rfl, rfl, (by show (0 : Int) < 11; decide), wl, _, _, bad, rfl, rfl, SqL.of upd_same, hbad, ?_⟩
    have wbad2 := wbad.ex b4
    have c10 := c9.trans b4
    generalize upd H9 wl (.lst [.non, .int 7, .bl true, .str "", .str "A", .str "abcdefghi", .str (r.name ++ "zzzzzzzz"), .ref a1, .ref a2, .ref a3, .str (r.name ++ " ")]) = H10 at c10 wbad2 ⊢
    clear b4 wbad wrongs hbad hwl c9 b1 b2 b3 u1 u2 u3 h1 h2 h3
    refine ⟨by show 1 ≤ sizeLine; decide, fun o0 ho0 => ?_⟩
    have d0 : Same H10 (upd H10 o0 (.tup [.int 3])) := same_upd ho0
    have v0 : (upd H10 o0 (.tup [.int 3])) o0 = some (.tup [.int 3]) := upd_same
    generalize upd H10 o0 (.tup [.int 3]) = G0 at d0 v0 ⊢
    refine ⟨_, rfl, by show 2 ≤ sizeLine; decide, fun o1 ho1 => ?_⟩
    have d1 : Same G0 (upd G0 o1 (.tup [.int (-1), .int 2])) := same_upd ho1
    have v1 : (upd G0 o1 (.tup [.int (-1), .int 2])) o1 = some (.tup [.int (-1), .int 2]) := upd_same
    generalize upd G0 o1 (.tup [.int (-1), .int 2]) = G1 at d1 v1 ⊢
    refine ⟨by show 2 ≤ sizeLine; decide, fun o2 ho2 => ?_⟩
    have d2 : Same G1 (upd G1 o2 (.tup [.int 1, .int 0])) := same_upd ho2
    have v2 : (upd G1 o2 (.tup [.int 1, .int 0])) o2 = some (.tup [.int 1, .int 0]) := upd_same
    generalize upd G1 o2 (.tup [.int 1, .int 0]) = G2 at d2 v2 ⊢
    refine ⟨by show 2 ≤ sizeLine; decide, fun o3 ho3 => ?_⟩
    have d3 : Same G2 (upd G2 o3 (.tup [.int 1, .int 13])) := same_upd ho3
    have v3 : (upd G2 o3 (.tup [.int 1, .int 13])) o3 = some (.tup [.int 1, .int 13]) := upd_same
    generalize upd G2 o3 (.tup [.int 1, .int 13]) = G3 at d3 v3 ⊢
    refine ⟨by show 2 ≤ sizeLine; decide, fun o4 ho4 => ?_⟩
    have d4 : Same G3 (upd G3 o4 (.tup [.int 1000001, .int 1])) := same_upd ho4
    have v4 : (upd G3 o4 (.tup [.int 1000001, .int 1])) o4 = some (.tup [.int 1000001, .int 1]) := upd_same
    generalize upd G3 o4 (.tup [.int 1000001, .int 1]) = G4 at d4 v4 ⊢
    refine ⟨by show 2 ≤ sizeLine; decide, fun o5 ho5 => ?_⟩
    have d5 : Same G4 (upd G4 o5 (.lst [.int 1, .int 2])) := same_upd ho5
    have v5 : (upd G4 o5 (.lst [.int 1, .int 2])) o5 = some (.lst [.int 1, .int 2]) := upd_same
    generalize upd G4 o5 (.lst [.int 1, .int 2]) = G5 at d5 v5 ⊢
    refine ⟨by show 2 ≤ sizeLine; decide, fun o6 ho6 => ?_⟩
    have d6 : Same G5 (upd G5 o6 (.tup [.bl true, .int 2])) := same_upd ho6
    have v6 : (upd G5 o6 (.tup [.bl true, .int 2])) o6 = some (.tup [.bl true, .int 2]) := upd_same
    generalize upd G5 o6 (.tup [.bl true, .int 2]) = G6 at d6 v6 ⊢
    refine ⟨by show 2 ≤ sizeLine; decide, fun o7 ho7 => ?_⟩
    have d7 : Same G6 (upd G6 o7 (.tup [.int 1, .bl true])) := same_upd ho7
    have v7 : (upd G6 o7 (.tup [.int 1, .bl true])) o7 = some (.tup [.int 1, .bl true]) := upd_same
    generalize upd G6 o7 (.tup [.int 1, .bl true]) = G7 at d7 v7 ⊢
    refine ⟨by show 3 ≤ sizeLine; decide, fun o8 ho8 => ?_⟩
    have d8 : Same G7 (upd G7 o8 (.tup [.int 1, .int 2, .int 3])) := same_upd ho8
    have v8 : (upd G7 o8 (.tup [.int 1, .int 2, .int 3])) o8 = some (.tup [.int 1, .int 2, .int 3]) := upd_same
    generalize upd G7 o8 (.tup [.int 1, .int 2, .int 3]) = G8 at d8 v8 ⊢
    refine ⟨by show 12 ≤ sizeLine; decide, fun ol hol => ?_⟩
    have odds : ∀ v ∈ ([.non, .int 3, .ref o0, .ref o1, .ref o2, .ref o3, .ref o4, .ref o5, .ref o6, .ref o7, .str "1/2", .ref o8] : List V), IsW G8 v false := by
      refine List.forall_mem_cons.mpr ⟨.other .non (fun a xs e => by cases e), ?_⟩
      refine List.forall_mem_cons.mpr ⟨.other (.int 3) (fun a xs e => by cases e), ?_⟩
      refine List.forall_mem_cons.mpr ⟨.size (d8 _ _ (d7 _ _ (d6 _ _ (d5 _ _ (d4 _ _ (d3 _ _ (d2 _ _ (d1 _ _ v0)))))))) (by decide) (by decide), ?_⟩
      refine List.forall_mem_cons.mpr ⟨IsW.two (d8 _ _ (d7 _ _ (d6 _ _ (d5 _ _ (d4 _ _ (d3 _ _ (d2 _ _ v1))))))) (.int (-1)) (.int 2), ?_⟩
      refine List.forall_mem_cons.mpr ⟨IsW.two (d8 _ _ (d7 _ _ (d6 _ _ (d5 _ _ (d4 _ _ (d3 _ _ v2)))))) (.int 1) (.int 0), ?_⟩
      refine List.forall_mem_cons.mpr ⟨IsW.two (d8 _ _ (d7 _ _ (d6 _ _ (d5 _ _ (d4 _ _ v3))))) (.int 1) (.int 13), ?_⟩
      refine List.forall_mem_cons.mpr ⟨IsW.two (d8 _ _ (d7 _ _ (d6 _ _ (d5 _ _ v4)))) (.int 1000001) (.int 1), ?_⟩
      refine List.forall_mem_cons.mpr ⟨.other (.lst (d8 _ _ (d7 _ _ (d6 _ _ v5)))) (fun a xs e q => by cases e; rw [(d8 _ _ (d7 _ _ (d6 _ _ v5)))] at q; cases q), ?_⟩
      refine List.forall_mem_cons.mpr ⟨IsW.two (d8 _ _ (d7 _ _ v6)) (.bl true) (.int 2), ?_⟩
      refine List.forall_mem_cons.mpr ⟨IsW.two (d8 _ _ v7) (.int 1) (.bl true), ?_⟩
      refine List.forall_mem_cons.mpr ⟨.other (.str "1/2") (fun a xs e => by cases e), ?_⟩
      exact List.forall_mem_cons.mpr ⟨.size v8 (by decide) (by decide), fun v hv => by cases hv⟩
    have d9 := same_upd (o := .lst [.non, .int 3, .ref o0, .ref o1, .ref o2, .ref o3, .ref o4, .ref o5, .ref o6, .ref o7, .str "1/2", .ref o8]) hol
    have dd : Same H10 G8 := d0 |>.trans d1 |>.trans d2 |>.trans d3 |>.trans d4 |>.trans d5 |>.trans d6 |>.trans d7 |>.trans d8
    have c11 := c10.trans dd
    refine ⟨_, rfl, _, rfl, c, 2, rfl, by decide, by decide, fun m4 m40 _ => ?_⟩
    refine ⟨_, _, rfl, rfl, ⟨by decide, by decide⟩, _, _, rfl, rfl, (by show (0 : Int) < 12; decide), ?_⟩
    obtain ⟨odd, hodd, wodd⟩ := get_all odds (i := m4 / 11 % 12) (n := 12) (by omega) (by omega) rfl
    refine ⟨ol, _, _, odd, rfl, rfl, SqL.of upd_same, hodd, ?_⟩
    have wodd2 := wodd.ex d9
    have c12 := c11.trans d9
    have wbad3 := (wbad2.ex dd).ex d9
    generalize upd G8 ol (.lst [.non, .int 3, .ref o0, .ref o1, .ref o2, .ref o3, .ref o4, .ref o5, .ref o6, .ref o7, .str "1/2", .ref o8]) = H11 at c12 wodd2 wbad3 ⊢
    clear d9 wodd odds hodd hol dd c11 d0 v0 ho0 d1 v1 ho1 d2 v2 ho2 d3 v3 ho3 d4 v4 ho4 d5 v5 ho5 d6 v6 ho6 d7 v7 ho7 d8 v8 ho8
    -- refused
    have hno : ∀ q ∈ rs.map Row.lo, bad ≠ .str q.name := fun q hq => wbad3.n _ (nm2 q hq)
    have S12 := S.ex (ExN.of c12)
    refine ⟨_, rfl, _, rfl, _, rfl, p, rs.map Row.lo, bad, odd, rfl, S12, wbad3.k, wbad3.z, .inr (.inl ⟨hno, fun ta H12 e12 hta => ?_⟩)⟩
    refine ⟨_, rfl, by show 2 ≤ sizeLine; decide, fun t2 ht2 => ?_⟩
    have e13 : Same H12 (upd H12 t2 (.tup [.str "sort", bad])) := same_upd ht2
    have t13 : (upd H12 t2 (.tup [.str "sort", bad])) t2 = some (.tup [.str "sort", bad]) := upd_same
    generalize upd H12 t2 (.tup [.str "sort", bad]) = H13 at e13 t13 ⊢
    have e113 := e12.trans e13
    refine ⟨ta, t2, [.str "sort", bad], rfl, rfl, SqT.of (e13 _ _ hta), SqT.of t13, (fun v hv => ?_), _, rfl, iteF ?_⟩
    · rcases List.mem_cons.mp hv with rfl | hv
      · exact .inl rfl
      · rw [List.mem_singleton.mp hv]
        exact wbad3.k.flat
    refine ⟨_, rfl, _, rfl, p, rs.map Row.lo, bad, rfl, S12.ex (ExN.of e113), wbad3.k.ex e113, wbad3.z, hno, fun H14 e14 => ⟨_, rfl, iteF ?_⟩⟩
    have e114 := e113.trans e14
    have c14 := c12.trans e114
    refine ⟨_, rfl, _, rfl, _, rfl, l, xs, _, .ref ra, rfl, rfl, SqL.of (c14 _ _ hl), atI_nat hxr, ra, _, 0, .str r.name, rfl, rfl, SqT.of (c14 _ _ hra), atI_nat (j := 0) rfl, _, rfl, p, rs.map Row.lo, .str r.name, odd, rfl, S12.ex (ExN.of e114), .str _, (fun z e => by cases e; exact name_small rok.name),
      .inr (.inr ⟨⟨r.lo, List.mem_of_getElem? hdk, rfl⟩, wodd2.ex e114, fun tb H15 e15 htb => ?_⟩)⟩
    refine ⟨by show 2 ≤ sizeLine; decide, fun t3 ht3 => ?_⟩
    have e16 : Same H15 (upd H15 t3 (.tup [.str "weight", .non])) := same_upd ht3
    refine ⟨tb, t3, [.str "weight", .non], rfl, rfl, SqT.of (e16 _ _ htb), SqT.of upd_same, (fun v hv => ?_), q _ ((c14.trans e15).trans e16)⟩
    rcases List.mem_cons.mp hv with rfl | hv
    · exact .inl rfl
    · rw [List.mem_singleton.mp hv]
      exact .inl rfl
end
end Gw
namespace Gw
open PySem PySem.Spec PyProof.Rows L2
/-! ## 13. The law -/
theorem sql_ex {K : PySem.W.Frag} {H H' : Hp} {a : Addr} {xs : List V} (h : SqL K H a xs) (e : Same H H') : SqL K H' a xs := by
  rcases h with (h | ⟨od, h⟩) | h
  · exact .inl (.inl (e _ _ h))
  · exact .inl (.inr ⟨od, e _ _ h⟩)
  · exact .inr h
theorem cut_ints {ns : List Int} {lo hi : Option Int} : ∀ v ∈ cutV (ns.map V.int) lo hi, ∃ i : Int, v = .int i := fun v hv => by
  unfold cutV at hv
  obtain ⟨i, _, rfl⟩ := List.mem_map.mp (List.mem_of_mem_drop (List.mem_of_mem_take hv))
  exact ⟨i, rfl⟩
section
variable {P : Program} {w : World} {K : PySem.W.Frag} {mg : Str → Option Value} {base : Heap} {C CS NS NW W : Addr}
def spLaw (K : PySem.W.Frag) : Sp := fun vs H Q _ => ∃ (a : Addr) (ns : List Int), vs = [.ref a] ∧ SqL K H a (ns.map V.int) ∧ ns.length ≤ 63 ∧ ∀ H', Q (.bl true) H'
abbrev nLaw : List Str := ["_law_script", "_law_rows_here", "_law_others", "_law_handed", "_law_sorts", "_law_second", "_law_cell_here"]
theorem scLaw : FnScope nLaw ["_law_script"] (defScope lLaw) := ⟨rfl, rfl, rfl, by decide +kernel, rfl, by decide +kernel, by decide +kernel⟩
theorem ok_law {f f1 f2 f3 fI : Addr} {fd fd1 fd2 fd3 fdI : FuncData} (F : FnP K "law" "law" lLaw f fd) (m2 : mg "list" = none)
    (G1 : Cal P w K mg base CX0 4 "_law_rows" ["_law_script", "_law_at"] (spDRows K) f1 fd1) (G2 : Cal P w K mg base CX0 4 "_law_stands" ["_law_sorts", "_law_rows_here"] (spStands C CS) f2 fd2)
    (G3 : Cal P w K mg base CX0 8 "_law_asked" ["_law_sorts", "_law_rows_here", "_law_cell_here"] (spAsked C CS) f3 fd3)
    (mC : mg "Sorts" = some (.ref CS)) (M : Mk K CS fI) (bI : Binds K fdI ["self", "rows"] []) (GI : FnOk P w K mg base CX0 4 fI fdI ["self", "rows"] (spSorts C CS)) :
    FnOk P w K mg base CX0 9 f fd ["_law_script"] (spLaw K) := by
  refine F.ok scLaw (fun vs H Q E h => ?_) (fun cdv A outer s H vs Q E hr h => ?_)
  · obtain ⟨a, ns, rfl, _⟩ := h
    rfl
  · obtain ⟨a, ns, rfl, hS, hn, q⟩ := h
    have hr4 : Room 4 _ := hr.mono (by decide)
    have hr5 : Room 5 _ := hr.mono (by decide)
    have nd := scLaw.nd
    refine ⟨_, PSs.nox (pss_cons (ps_set (i := 1) nd rfl (.inl rfl) (pe_call G1.F hr4 (by rfl) G1.g G1.kp G1.b .nil pass0 (pa_cons (pv 0) (pa_cons pe_int pa_nil))))
      (pss_cons (ps_set (i := 2) nd rfl (.inl rfl) (pe_call G1.F hr4 (by rfl) G1.g G1.kp G1.b .nil pass0 (pa_cons (pv 0) (pa_cons pe_int pa_nil))))
      (pss_cons (ps_set (i := 3) nd rfl (.inl rfl) (pe_callTy call_list_of (by rfl) m2 (by decide +kernel) (pa_cons (pv 1) pa_nil)))
      (pss_cons (ps_set (i := 4) nd rfl (.inl rfl) (pe_make M GI hr5 rfl mC bI .nil pass0 (pa_cons (pv 3) pa_nil)))
      (pss_cons (ps_set (i := 5) nd rfl (.inl rfl) (pe_make M GI hr5 rfl mC bI .nil pass0 (pa_cons (pe_callTy call_list_of (by rfl) m2 (by decide +kernel) (pa_cons (pv 2) pa_nil)) pa_nil)))
      (pss_cons (ps_expr (pe_bm0 PySem.F.plainAttrs_list PySem.F.slot_list_clear PySem.F.type_list_clear mt_clear (pv 3)))
      (pss_cons (ps_if (PW.pt (pw_or (pt_not (pt_val (pe_call G2.F hr4 (by rfl) G2.g G2.kp G2.b .nil pass0 (pa_cons (pv 4) (pa_cons (pv 1) pa_nil)))))
          (pw_or1 (pt_not (pt_val (pe_call G2.F hr4 (by rfl) G2.g G2.kp G2.b .nil pass0 (pa_cons (pv 5) (pa_cons (pv 2) pa_nil)))))))) (pss_one (ps_ret pe_bl)) pss_nil)
      (pss_cons (ps_for PassesOwn.never rfl (pi_list (pe_op op_cat (pe_slice sl_list (pv 0) (po_some pe_int) (po_some pe_int)) (pe_lst (pa_cons pe_int pa_nil)))) (pg_name (i := 6) nd rfl (Or.inl rfl))
        (pss_one (ps_if (pt_not (pt_val (pe_call G3.F hr (by rfl) G3.g G3.kp G3.b .nil pass0 (pa_cons (pv 4) (pa_cons (pv 1) (pa_cons (pv 6) pa_nil)))))) (pss_one (ps_ret pe_bl)) pss_nil)))
      (pss_one (ps_ret (pe_and (pe_call G2.F hr4 (by rfl) G2.g G2.kp G2.b .nil pass0 (pa_cons (pv 4) (pa_cons (pv 1) pa_nil)))
        (pe_one (pe_call G2.F hr4 (by rfl) G2.g G2.kp G2.b .nil pass0 (pa_cons (pv 5) (pa_cons (pv 2) pa_nil))))))))))))))), ?_⟩
    refine ⟨_, rfl, a, ns, 0, rfl, hS, (fun H' e => sql_ex hS e), by decide, by decide, fun l xs rs H1 hl0 e1 hl R ok => ?_⟩
    refine ⟨_, rfl, a, ns, 9, rfl, sql_ex hS e1, (fun H' e => sql_ex hS (e1.trans e)), by decide, by decide, fun l2 ys qs H2 hl20 e2 hl2 R2 ok2 => ?_⟩
    have e02 := e1.trans e2
    have hl' := e2 _ _ hl
    have R' := R.ex (ExN.of e2)
    refine ⟨_, rfl, l, xs, rfl, .inl (SqL.of hl'), fun lc hlc => ?_⟩
    have c3 : Same H2 (upd H2 lc (.lst xs)) := same_upd hlc
    have t3 : (upd H2 lc (.lst xs)) lc = some (.lst xs) := upd_same
    generalize upd H2 lc (.lst xs) = H3 at c3 t3 ⊢
    refine ⟨_, rfl, fun z dz nz ndz nez => mk_sorts (xs := xs) (rs := rs) t3 (R'.ex (ExN.of c3)) ok nz ndz fun H4 c4 S4 => ⟨rfl, ?_⟩⟩
    have e24 := c3.trans c4
    refine ⟨_, rfl, l2, ys, rfl, .inl (SqL.of (e24 _ _ hl2)), fun ld hld => ?_⟩
    have c5 : Same H4 (upd H4 ld (.lst ys)) := same_upd hld
    have t5 : (upd H4 ld (.lst ys)) ld = some (.lst ys) := upd_same
    generalize upd H4 ld (.lst ys) = H5 at c5 t5 ⊢
    refine fun y dy ny ndy ney => mk_sorts (xs := ys) (rs := qs) t5 (R2.ex (ExN.of (e24.trans c5))) ok2 ny ndy fun H6 c6 S6 => ⟨rfl, ?_⟩
    have e46 := c5.trans c6
    have t6 := e46 _ _ (c4 _ _ t3)
    refine ⟨_, rfl, .inl ⟨rfl, _, SqL.of t6⟩, lc, _, rfl, rfl, t6, ?_⟩
    have x7 : ExN H6 (upd H6 lc (.lst [])) := ExN.lst t6
    have e27 : Same H2 (upd H6 lc (.lst [])) := same_mut (e24.trans e46) hlc
    generalize upd H6 lc (.lst []) = H7 at x7 e27 ⊢
    have S7 := (S4.ex (ExN.of e46)).ex x7
    have S7' := S6.ex x7
    have hl7 := e27 _ _ hl'
    have hl27 := e27 _ _ hl2
    have R7 := R'.ex (ExN.of e27)
    have R27 := R2.ex (ExN.of e27)
    have hS7 := sql_ex hS (e02.trans e27)
    clear S4 S6 x7 e27 t6 c6 c5 t5 c4 c3 t3 hlc hld nz ndz nez ny ndy ney R' R2 hl2 hl' hl hl20 hl0
    refine ⟨_, rfl, _, rfl, z, l, xs, rs, rfl, S7, hl7, R7, ok, fun H8 e8 => ⟨_, rfl, iteF ?_⟩⟩
    refine ⟨_, rfl, _, rfl, y, l2, ys, qs, rfl, S7'.ex (ExN.of e8), e8 _ _ hl27, R27.ex (ExN.of e8), ok2, fun H9 e9 => ⟨_, rfl, iteF ?_⟩⟩
    have e79 := e8.trans e9
    refine ⟨_, rfl, _, rfl, _, rfl, a, _, rfl, sql_ex hS7 e79, fun p1 hp1 => ?_⟩
    have ci := cut_ints (ns := ns) (lo := some 9) (hi := some 39)
    have cl := cutV_length (ns.map V.int) (some 9) (some 39)
    rw [List.length_map] at cl
    generalize cutV (ns.map V.int) (some 9) (some 39) = cs at ci cl ⊢
    have d1 : Same H9 (upd H9 p1 (.lst cs)) := same_upd hp1
    have u1 : (upd H9 p1 (.lst cs)) p1 = some (.lst cs) := upd_same
    generalize upd H9 p1 (.lst cs) = G1 at d1 u1 ⊢
    refine ⟨by show 1 ≤ sizeLine; decide, fun p2 hp2 => ?_⟩
    have d2 : Same G1 (upd G1 p2 (.lst [.int 5])) := same_upd hp2
    have u2 : (upd G1 p2 (.lst [.int 5])) p2 = some (.lst [.int 5]) := upd_same
    generalize upd G1 p2 (.lst [.int 5]) = G2 at d2 u2 ⊢
    refine ⟨p1, p2, _, _, rfl, rfl, d2 _ _ u1, u2, (by show cs.length + 1 ≤ sizeLine; rw [sizeLine_eq]; omega), fun p3 hp3 => ?_⟩
    have d3 : Same G2 (upd G2 p3 (.lst (cs ++ [.int 5]))) := same_upd hp3
    have u3 : (upd G2 p3 (.lst (cs ++ [.int 5]))) p3 = some (.lst (cs ++ [.int 5])) := upd_same
    generalize upd G2 p3 (.lst (cs ++ [.int 5])) = G3 at d3 u3 ⊢
    have e7 := ((e79.trans d1).trans d2).trans d3
    have allI : ∀ v ∈ cs ++ [V.int 5], ∃ i : Int, v = .int i := fun v hv => by
      rcases List.mem_append.mp hv with h | h
      · exact ci v h
      · exact ⟨5, List.mem_singleton.mp h⟩
    refine ⟨p3, rfl, ⟨_, SqL.of u3⟩, for_list (K := K) (a := p3) (xs := cs ++ [.int 5]) (fun i σ H' => ∃ a6 : Option V, σ = [some (.ref a), some (.ref l), some (.ref l2), some (.ref lc), some (.ref z), some (.ref y), a6] ∧ Same G3 H')
      ⟨none, rfl, Same.refl _⟩ (fun i σ H' _ hP => ?_) (fun i x σ H' hi hP => ?_) (fun σ H' hP => ?_)⟩
    · obtain ⟨_, _, e⟩ := hP
      exact SqL.of (e _ _ u3)
    · obtain ⟨a6, rfl, e⟩ := hP
      obtain ⟨c, rfl⟩ := allI x (List.mem_of_getElem? hi)
      have e7' := e7.trans e
      exact ⟨_, rfl, _, rfl, _, rfl, z, l, xs, rs, c, rfl, S7.ex (ExN.of e7'), e7' _ _ hl7, R7.ex (ExN.of e7'), ok, fun H8 e8 => ⟨_, rfl, iteF ⟨_, rfl, e.trans e8⟩⟩⟩
    · obtain ⟨a6, rfl, e⟩ := hP
      have e7' := e7.trans e
      refine ⟨_, rfl, _, rfl, z, l, xs, rs, rfl, S7.ex (ExN.of e7'), e7' _ _ hl7, R7.ex (ExN.of e7'), ok, fun Ha ea => ?_⟩
      have ea' := e7'.trans ea
      exact ⟨_, rfl, iteT ⟨_, rfl, _, rfl, y, l2, ys, qs, rfl, S7'.ex (ExN.of ea'), ea' _ _ hl27, R27.ex (ExN.of ea'), ok2, fun Hb eb => q Hb⟩⟩
end
end Gw
namespace Gw
open PySem PySem.Spec PyProof.Rows L2
/-! ## 14. The head -/
/-- an exception class of the program whose slots are known -/
def oexB (K : PySem.W.Frag) (C : Addr) : Bool := (match K.lookup C with
  | some ⟨.type t, _, .cls c, sl⟩ => t == "type" && (!c.hasDel && (c.hasDict && (match c.mro, sl.toList with
    | .ref C2 :: bm, [_, _, _, _, some (.builtin n), _] => C2 == C && (n == "ValueError.__new__" && PySem.HandSPX.refsVE bm)
    | _, _ => false)))
  | _ => false) && (He.eqO (PySem.W.findIn K (.ref C) "__setattr__") (some (some (.builtin "object.__setattr__"))) && (decide (PySem.W.subIn K (.ref C) (.type "BaseException") = some true) &&
    (decide (PySem.W.typeIn K (.ref C) = some (.type "type")) && PySem.W.keepIn K (.ref C))))
theorem oexB_ok {K : PySem.W.Frag} {C : Addr} (h : oexB K C = true) : OexC K C := by
  obtain ⟨h1, h2⟩ := He.ba h
  obtain ⟨h3, h4⟩ := He.ba h2
  obtain ⟨h5, h6⟩ := He.ba h4
  obtain ⟨h7, h8⟩ := He.ba h6
  refine ⟨?_, He.eqO_ok h3, of_decide_eq_true h5, of_decide_eq_true h7, h8⟩
  cases z : K.lookup C with
  | none =>
    rw [z] at h1
    cases h1
  | some ob =>
    obtain ⟨oc, dd, dt, sl⟩ := ob
    rw [z] at h1
    cases oc with
    | type t =>
      cases dt with
      | cls c =>
        obtain ⟨j1, j2⟩ := He.ba h1
        obtain ⟨j3, j4⟩ := He.ba j2
        obtain ⟨j5, j6⟩ := He.ba j4
        obtain ⟨nm, bs, mr, ns, qn, hd, sn, sub, ab, col, dl⟩ := c
        have e1 : t = "type" := eq_of_beq j1
        have e2 : hd = true := j5
        have e3 : dl = false := by
          cases dl with
          | false => rfl
          | true => cases j3
        subst e1 e2 e3
        dsimp only at j6
        split at j6
        · rename_i C2 bm k0 k1 k2 k3 n k5 hs
          obtain ⟨i1, i2⟩ := He.ba j6
          obtain ⟨i3, i4⟩ := He.ba i2
          have e4 : C2 = C := eq_of_beq i1
          have e5 : n = "ValueError.__new__" := eq_of_beq i3
          have e6 : sl = #[k0, k1, k2, k3, some (.builtin n), k5] := by
            obtain ⟨l⟩ := sl
            exact congrArg Array.mk hs
          subst e4 e5 e6
          exact ⟨nm, qn, ns, bs, bm, sn, sub, ab, col, dd, k0, k1, k2, k3, k5, rfl, i4⟩
        · cases j6
      | _ => cases h1
    | _ => cases h1
def iniB (K : PySem.W.Frag) (W : Addr) : Bool := match PySem.W.findCls K (.ref W) (.type "type") "__init__" with
  | some (.val (.builtin n)) => n == "ValueError.__init__"
  | _ => false
theorem iniB_ok {K : PySem.W.Frag} {W : Addr} (h : iniB K W = true) : PySem.W.findCls K (.ref W) (.type "type") "__init__" = some (.val (.builtin "ValueError.__init__")) := by
  unfold iniB at h
  split at h
  · rename_i n e
    rw [e, eq_of_beq h]
  · cases h
/-- what else the top must say -/
def more (K : PySem.W.Frag) : Bool := He.eqO (PySem.W.specialIn K (.ref (He.ga K "WaitError")) "__getattribute__") (some (some (.builtin "type.__getattribute__"))) && (PySem.W.readsIn K (He.ga K "WaitError") (.type "type") && (iniB K (He.ga K "WaitError") &&
  (oexB K (He.ga K "NoSort") && (xfB K (He.ga K "NoSort") && decide (PySem.W.typeIn K (.ref (He.ma K (He.ga K "NoSort") "__init__")) = some (.type "function"))))))
def fnD (x : Str) (st : Stmt) : He.DefD := ⟨(x, none), x, x, defArgs st, defBody st, defScope st, [], []⟩
def mtD (x m q : Str) (st : Stmt) : He.DefD := ⟨(x, some m), m, q, defArgs st, defBody st, defScope st, [], []⟩
def fn : List He.DefD := [fnD "is_whole" sWhole, fnD "is_name" sName, fnD "lowest" sLowest, fnD "is_weight" sIsW, mtD "Sort" "__init__" "Sort.__init__" sSort, fnD "is_row" sRow, mtD "Sorts" "__init__" "Sorts.__init__" sSorts, mtD "Sorts" "sort_names" "Sorts.sort_names" sNames, mtD "Sorts" "sort_of" "Sorts.sort_of" sSortOf, mtD "Sorts" "rows_told" "Sorts.rows_told" sTold, mtD "Sorts" "with_speed" "Sorts.with_speed" sWith, mtD "NoSort" "__init__" "NoSort.__init__" sNoSort, fnD "_law_cell" lCell, fnD "_law_mix" lMix, fnD "_law_draw" lDraw, fnD "_law_lowest" lLowest, fnD "_law_weight" lWeight, fnD "_law_names" lNames, fnD "_law_row" lRow, fnD "_law_rows" lRows, fnD "_law_due" lDue, fnD "_law_stands" lStands, fnD "_law_first" lFirst, fnD "_law_told" lTold, fnD "_law_no_sort" lNoSort, fnD "_law_asked" lAsked, fnD "law" lLaw]
def fa : List He.Fa := [.glo "is_whole", .glo "is_name", .glo "lowest", .glo "is_weight", .glo "is_row", .glo "_law_cell", .glo "_law_mix", .glo "_law_draw", .glo "_law_lowest", .glo "_law_weight", .glo "_law_names", .glo "_law_row", .glo "_law_rows", .glo "_law_due", .glo "_law_stands", .glo "_law_first", .glo "_law_told", .glo "_law_no_sort", .glo "_law_asked", .glo "law", .glo "Sort", .glo "Sorts", .glo "NoSort", .glo "NoWeight", .glo "WaitError", .free "isinstance", .free "int", .free "bool", .free "str", .free "len", .free "all", .free "abs", .free "tuple", .free "list", .free "range", .free "enumerate", .int "MOST_TOP" 1000000, .int "MOST_BOTTOM" 12, .int "MOST_SORTS" 8, .int "MOST_SPAN" 4, .int "MOST_TRIES" 3, .str "LETTERS" letters, .cls "Sort", .cls "Sorts", .noat "Sort" "name", .noat "Sort" "weight", .noat "Sort" "speed", .noat "Sort" "span", .noat "Sort" "tries", .noat "Sorts" "by_name", .noat "NoSort" "name", .meth "Sorts" "sort_names", .meth "Sorts" "sort_of", .meth "Sorts" "rows_told", .meth "Sorts" "with_speed", .meth "NoSort" "__init__", .mkr "Sort", .mkr "Sorts", .exc "NoWeight", .exm "NoSort" "NoSort" true, .exm "NoWeight" "NoSort" false, .exm "NoWeight" "NoWeight" true]
abbrev R : PySem.W.OpenRow := PySem.W.OpenLaw.row PySem.Challenge.rw_greywait_k31_sorts_told
/-- what the module's names reach in five steps, and the interpreter's own statics -/
def part (g : Addr → Option Obj) : PySem.W.Frag := He.frG g (He.asD g 5 ++ [cStatics])
def obG (g : Addr → Option Obj) : Bool × He.AlD := (more (part g), He.obsD fa fn (part g))
def hk : PySem.W.Hook where
  α := Bool × He.AlD
  obs := fun s => obG s.heap.get?
  val := fun _ => (true, He.valD fn)
  says := fun _ h => ∃ K : PySem.W.Frag, K.In h ∧ more K = true ∧ He.SaysD fa fn K
  of := fun _ _ e => ⟨_, He.frG_in, congrArg Prod.fst e, congrArg Prod.snd e⟩
  keeps := fun _ _ _ ⟨K, hK, c⟩ k => ⟨K, PySem.W.Frag.In.keeps hK k, c⟩
def ob (s : PySem.W.SharedT) : Bool × He.AlD := obG (HandSHeadRun.getT s)
theorem ob_eq (s : PySem.W.SharedT) : ob s = hk.obs s.abs := by
  have e : HandSHeadRun.getT s = s.abs.heap.get? := funext (HandSHeadRun.getT_eq s)
  show obG (HandSHeadRun.getT s) = obG s.abs.heap.get?
  rw [e]
def loose : List PySem.Str := ["WaitError", "NoWeight", "NoSorts", "NoSort", "LETTERS", "is_whole", "is_name", "MOST_TOP", "MOST_BOTTOM", "lowest", "is_weight", "MOST_SORTS", "MOST_SPAN", "MOST_TRIES", "Sort", "is_row", "Sorts", "_law_cell", "_law_mix", "_law_draw", "_law_lowest", "_law_weight", "_law_names", "_law_row", "_law_rows", "_law_due", "_law_stands", "_law_first", "_law_told", "_law_no_sort", "_law_asked"]
theorem run (w : World) : HandSHeadRun.RunEq R (PySem.W.view R.prog [36]) hk ob 2400 loose w := by
  intro os
  kernel_rfl
theorem facts {P : Program} {w : World} {K : PySem.W.Frag} {h : Heap} {mg : Str → Option Value} {f : Addr} (X : K.In h) (G : h.Ns mainGlobals mg) (hfa : mg ("law" : Str) = some (.ref f)) (cm : more K = true) (c : He.SaysD fa fn K) :
    ∃ fd : FuncData, (∀ (s : Shared) (v : Value), BindsTo s fd ⟨[v], []⟩ [("_law_script", v)]) ∧ ∀ base : Heap, K.In base → base.Ns mainGlobals mg → FnOk P w K mg base CX0 9 f fd ["_law_script"] (spLaw K) := by

  obtain ⟨dWhole, FWhole⟩ := c.def_ 0 (d := fnD "is_whole" sWhole) rfl
  obtain ⟨dName, FName⟩ := c.def_ 1 (d := fnD "is_name" sName) rfl
  obtain ⟨dLowest, FLowest⟩ := c.def_ 2 (d := fnD "lowest" sLowest) rfl
  obtain ⟨dIsW, FIsW⟩ := c.def_ 3 (d := fnD "is_weight" sIsW) rfl
  obtain ⟨dSortI, FSortI⟩ := c.def_ 4 (d := mtD "Sort" "__init__" "Sort.__init__" sSort) rfl
  obtain ⟨dRow, FRow⟩ := c.def_ 5 (d := fnD "is_row" sRow) rfl
  obtain ⟨dSortsI, FSortsI⟩ := c.def_ 6 (d := mtD "Sorts" "__init__" "Sorts.__init__" sSorts) rfl
  obtain ⟨dNames, FNames⟩ := c.def_ 7 (d := mtD "Sorts" "sort_names" "Sorts.sort_names" sNames) rfl
  obtain ⟨dSortOf, FSortOf⟩ := c.def_ 8 (d := mtD "Sorts" "sort_of" "Sorts.sort_of" sSortOf) rfl
  obtain ⟨dTold, FTold⟩ := c.def_ 9 (d := mtD "Sorts" "rows_told" "Sorts.rows_told" sTold) rfl
  obtain ⟨dWith, FWith⟩ := c.def_ 10 (d := mtD "Sorts" "with_speed" "Sorts.with_speed" sWith) rfl
  obtain ⟨dNoSortI, FNoSortI⟩ := c.def_ 11 (d := mtD "NoSort" "__init__" "NoSort.__init__" sNoSort) rfl
  obtain ⟨dCell, FCell⟩ := c.def_ 12 (d := fnD "_law_cell" lCell) rfl
  obtain ⟨dMix, FMix⟩ := c.def_ 13 (d := fnD "_law_mix" lMix) rfl
  obtain ⟨dDraw, FDraw⟩ := c.def_ 14 (d := fnD "_law_draw" lDraw) rfl
  obtain ⟨dLow, FLow⟩ := c.def_ 15 (d := fnD "_law_lowest" lLowest) rfl
  obtain ⟨dWeight, FWeight⟩ := c.def_ 16 (d := fnD "_law_weight" lWeight) rfl
  obtain ⟨dDNames, FDNames⟩ := c.def_ 17 (d := fnD "_law_names" lNames) rfl
  obtain ⟨dDRow, FDRow⟩ := c.def_ 18 (d := fnD "_law_row" lRow) rfl
  obtain ⟨dDRows, FDRows⟩ := c.def_ 19 (d := fnD "_law_rows" lRows) rfl
  obtain ⟨dDue, FDue⟩ := c.def_ 20 (d := fnD "_law_due" lDue) rfl
  obtain ⟨dStands, FStands⟩ := c.def_ 21 (d := fnD "_law_stands" lStands) rfl
  obtain ⟨dFirst, FFirst⟩ := c.def_ 22 (d := fnD "_law_first" lFirst) rfl
  obtain ⟨dLTold, FLTold⟩ := c.def_ 23 (d := fnD "_law_told" lTold) rfl
  obtain ⟨dLNo, FLNo⟩ := c.def_ 24 (d := fnD "_law_no_sort" lNoSort) rfl
  obtain ⟨dAsked, FAsked⟩ := c.def_ 25 (d := fnD "_law_asked" lAsked) rfl
  obtain ⟨dLaw, FLaw⟩ := c.def_ 26 (d := fnD "law" lLaw) rfl
  have bWhole : Binds K dWhole ["thing", "low", "high"] [] := FWhole.bindsN fun _ _ _ _ _ _ us hl => match us, hl with | [_, _, _], _ => rfl
  have bName : Binds K dName ["thing"] [] := FName.bindsN fun _ _ _ _ _ _ us hl => match us, hl with | [_], _ => rfl
  have bLowest : Binds K dLowest ["top", "bottom"] [] := FLowest.bindsN fun _ _ _ _ _ _ us hl => match us, hl with | [_, _], _ => rfl
  have bIsW : Binds K dIsW ["thing"] [] := FIsW.bindsN fun _ _ _ _ _ _ us hl => match us, hl with | [_], _ => rfl
  have bSortI : Binds K dSortI ["self", "name", "weight", "speed", "span", "tries"] [] := FSortI.bindsN fun _ _ _ _ _ _ us hl => match us, hl with | [_, _, _, _, _, _], _ => rfl
  have bRow : Binds K dRow ["thing"] [] := FRow.bindsN fun _ _ _ _ _ _ us hl => match us, hl with | [_], _ => rfl
  have bSortsI : Binds K dSortsI ["self", "rows"] [] := FSortsI.bindsN fun _ _ _ _ _ _ us hl => match us, hl with | [_, _], _ => rfl
  have bNames : Binds K dNames ["self"] [] := FNames.bindsN fun _ _ _ _ _ _ us hl => match us, hl with | [_], _ => rfl
  have bSortOf : Binds K dSortOf ["self", "name"] [] := FSortOf.bindsN fun _ _ _ _ _ _ us hl => match us, hl with | [_, _], _ => rfl
  have bTold : Binds K dTold ["self"] [] := FTold.bindsN fun _ _ _ _ _ _ us hl => match us, hl with | [_], _ => rfl
  have bWith : Binds K dWith ["self", "name", "speed"] [] := FWith.bindsN fun _ _ _ _ _ _ us hl => match us, hl with | [_, _, _], _ => rfl
  have bNoSortI : Binds K dNoSortI ["self", "name"] [] := FNoSortI.bindsN fun _ _ _ _ _ _ us hl => match us, hl with | [_, _], _ => rfl
  have bCell : Binds K dCell ["_law_script", "_law_k"] [] := FCell.bindsN fun _ _ _ _ _ _ us hl => match us, hl with | [_, _], _ => rfl
  have bMix : Binds K dMix ["_law_cell_here", "_law_k"] [] := FMix.bindsN fun _ _ _ _ _ _ us hl => match us, hl with | [_, _], _ => rfl
  have bDraw : Binds K dDraw ["_law_cell_here", "_law_k"] [] := FDraw.bindsN fun _ _ _ _ _ _ us hl => match us, hl with | [_, _], _ => rfl
  have bLow : Binds K dLow ["_law_weight_here"] [] := FLow.bindsN fun _ _ _ _ _ _ us hl => match us, hl with | [_], _ => rfl
  have bWeight : Binds K dWeight ["_law_number"] [] := FWeight.bindsN fun _ _ _ _ _ _ us hl => match us, hl with | [_], _ => rfl
  have bDNames : Binds K dDNames ["_law_cell_here", "_law_many"] [] := FDNames.bindsN fun _ _ _ _ _ _ us hl => match us, hl with | [_, _], _ => rfl
  have bDRow : Binds K dDRow ["_law_cell_here", "_law_name"] [] := FDRow.bindsN fun _ _ _ _ _ _ us hl => match us, hl with | [_, _], _ => rfl
  have bDRows : Binds K dDRows ["_law_script", "_law_at"] [] := FDRows.bindsN fun _ _ _ _ _ _ us hl => match us, hl with | [_, _], _ => rfl
  have bDue : Binds K dDue ["_law_rows_here"] [] := FDue.bindsN fun _ _ _ _ _ _ us hl => match us, hl with | [_], _ => rfl
  have bStands : Binds K dStands ["_law_sorts", "_law_rows_here"] [] := FStands.bindsN fun _ _ _ _ _ _ us hl => match us, hl with | [_, _], _ => rfl
  have bFirst : Binds K dFirst ["_law_rows_here", "_law_way", "_law_at"] [] := FFirst.bindsN fun _ _ _ _ _ _ us hl => match us, hl with | [_, _, _], _ => rfl
  have bLTold : Binds K dLTold ["_law_sorts", "_law_name", "_law_speed"] [] := FLTold.bindsN fun _ _ _ _ _ _ us hl => match us, hl with | [_, _, _], _ => rfl
  have bLNo : Binds K dLNo ["_law_sorts", "_law_name"] [] := FLNo.bindsN fun _ _ _ _ _ _ us hl => match us, hl with | [_, _], _ => rfl
  have bAsked : Binds K dAsked ["_law_sorts", "_law_rows_here", "_law_cell_here"] [] := FAsked.bindsN fun _ _ _ _ _ _ us hl => match us, hl with | [_, _, _], _ => rfl
  have g_is_whole := He.glo_ok X G (c.fact 0 (f := .glo "is_whole") rfl)
  have g_is_name := He.glo_ok X G (c.fact 1 (f := .glo "is_name") rfl)
  have g_lowest := He.glo_ok X G (c.fact 2 (f := .glo "lowest") rfl)
  have g_is_weight := He.glo_ok X G (c.fact 3 (f := .glo "is_weight") rfl)
  have g_is_row := He.glo_ok X G (c.fact 4 (f := .glo "is_row") rfl)
  have g__law_cell := He.glo_ok X G (c.fact 5 (f := .glo "_law_cell") rfl)
  have g__law_mix := He.glo_ok X G (c.fact 6 (f := .glo "_law_mix") rfl)
  have g__law_draw := He.glo_ok X G (c.fact 7 (f := .glo "_law_draw") rfl)
  have g__law_lowest := He.glo_ok X G (c.fact 8 (f := .glo "_law_lowest") rfl)
  have g__law_weight := He.glo_ok X G (c.fact 9 (f := .glo "_law_weight") rfl)
  have g__law_names := He.glo_ok X G (c.fact 10 (f := .glo "_law_names") rfl)
  have g__law_row := He.glo_ok X G (c.fact 11 (f := .glo "_law_row") rfl)
  have g__law_rows := He.glo_ok X G (c.fact 12 (f := .glo "_law_rows") rfl)
  have g__law_due := He.glo_ok X G (c.fact 13 (f := .glo "_law_due") rfl)
  have g__law_stands := He.glo_ok X G (c.fact 14 (f := .glo "_law_stands") rfl)
  have g__law_first := He.glo_ok X G (c.fact 15 (f := .glo "_law_first") rfl)
  have g__law_told := He.glo_ok X G (c.fact 16 (f := .glo "_law_told") rfl)
  have g__law_no_sort := He.glo_ok X G (c.fact 17 (f := .glo "_law_no_sort") rfl)
  have g__law_asked := He.glo_ok X G (c.fact 18 (f := .glo "_law_asked") rfl)
  have g_law := He.glo_ok X G (c.fact 19 (f := .glo "law") rfl)
  have g_Sort := He.glo_ok X G (c.fact 20 (f := .glo "Sort") rfl)
  have g_Sorts := He.glo_ok X G (c.fact 21 (f := .glo "Sorts") rfl)
  have g_NoSort := He.glo_ok X G (c.fact 22 (f := .glo "NoSort") rfl)
  have g_NoWeight := He.glo_ok X G (c.fact 23 (f := .glo "NoWeight") rfl)
  have g_WaitError := He.glo_ok X G (c.fact 24 (f := .glo "WaitError") rfl)
  have m_isinstance := He.free_ok X G (c.fact 25 (f := .free "isinstance") rfl)
  have m_int := He.free_ok X G (c.fact 26 (f := .free "int") rfl)
  have m_bool := He.free_ok X G (c.fact 27 (f := .free "bool") rfl)
  have m_str := He.free_ok X G (c.fact 28 (f := .free "str") rfl)
  have m_len := He.free_ok X G (c.fact 29 (f := .free "len") rfl)
  have m_all := He.free_ok X G (c.fact 30 (f := .free "all") rfl)
  have m_abs := He.free_ok X G (c.fact 31 (f := .free "abs") rfl)
  have m_tuple := He.free_ok X G (c.fact 32 (f := .free "tuple") rfl)
  have m_list := He.free_ok X G (c.fact 33 (f := .free "list") rfl)
  have m_range := He.free_ok X G (c.fact 34 (f := .free "range") rfl)
  have m_enumerate := He.free_ok X G (c.fact 35 (f := .free "enumerate") rfl)
  have i_MOST_TOP := He.int_ok X G (c.fact 36 (f := .int "MOST_TOP" 1000000) rfl)
  have i_MOST_BOTTOM := He.int_ok X G (c.fact 37 (f := .int "MOST_BOTTOM" 12) rfl)
  have i_MOST_SORTS := He.int_ok X G (c.fact 38 (f := .int "MOST_SORTS" 8) rfl)
  have i_MOST_SPAN := He.int_ok X G (c.fact 39 (f := .int "MOST_SPAN" 4) rfl)
  have i_MOST_TRIES := He.int_ok X G (c.fact 40 (f := .int "MOST_TRIES" 3) rfl)
  have s_LETTERS := He.str_ok X G (c.fact 41 (f := .str "LETTERS" letters) rfl)
  have e := hfa.symm.trans g_law
  cases e
  obtain ⟨q1, q⟩ := He.ba cm
  obtain ⟨q2, q⟩ := He.ba q
  obtain ⟨q3, q⟩ := He.ba q
  obtain ⟨q4, q⟩ := He.ba q
  obtain ⟨q5, q6⟩ := He.ba q
  have T : SortTx K (He.ga K "Sort") := ⟨He.cls_ok (c.fact 42 (f := .cls "Sort") rfl), He.noat_ok (c.fact 44 (f := .noat "Sort" "name") rfl), He.noat_ok (c.fact 45 (f := .noat "Sort" "weight") rfl), He.noat_ok (c.fact 46 (f := .noat "Sort" "speed") rfl), He.noat_ok (c.fact 47 (f := .noat "Sort" "span") rfl), He.noat_ok (c.fact 48 (f := .noat "Sort" "tries") rfl)⟩
  have TS : SortsTx K (He.ga K "Sorts") := ⟨He.cls_ok (c.fact 43 (f := .cls "Sorts") rfl), He.noat_ok (c.fact 49 (f := .noat "Sorts" "by_name") rfl)⟩
  have M := He.mkr_ok (c.fact 56 (f := .mkr "Sort") rfl)
  have MS := He.mkr_ok (c.fact 57 (f := .mkr "Sorts") rfl)
  have MN := He.meth_ok (c.fact 55 (f := .meth "NoSort" "__init__") rfl)
  obtain ⟨w1, w2, w3, w4⟩ := He.exc_ok (c.fact 58 (f := .exc "NoWeight") rfl)
  have TW : NoWeightTx K mg (He.ga K "NoWeight") := ⟨g_NoWeight, w1, w2, w3, w4⟩
  have TN : NoSortTx K mg (He.ga K "NoSort") (He.ga K "WaitError") (He.ma K (He.ga K "NoSort") "__init__") := ⟨oexB_ok q4, g_NoSort, He.noat_ok (c.fact 50 (f := .noat "NoSort" "name") rfl), He.eqO_ok (He.ba (c.fact 55 (f := .meth "NoSort" "__init__") rfl)).1, of_decide_eq_true q6, ⟨g_WaitError, He.eqO_ok q1, q2, iniB_ok q3⟩⟩
  have TC : CatchTx K (He.ga K "NoSort") (He.ga K "NoWeight") := ⟨He.exm_ok (c.fact 59 (f := .exm "NoSort" "NoSort" true) rfl), He.exm_ok (c.fact 60 (f := .exm "NoWeight" "NoSort" false) rfl), He.exm_ok (c.fact 61 (f := .exm "NoWeight" "NoWeight" true) rfl), xfB_ok q5⟩
  have bL := FunD.bindsA (ps := ["_law_script"]) FLaw fun _ _ _ _ _ _ us hl => match us, hl with | [_], _ => rfl
  refine ⟨dLaw, fun s v => bL s [v] rfl, fun base _ _ => ?_⟩
  have AWhole : Cal P w K mg base CX0 1 "is_whole" ["thing", "low", "high"] spWhole (He.ga K "is_whole") dWhole := ⟨g_is_whole, FWhole.kp, bWhole, ok_whole FWhole m_isinstance m_int m_bool⟩
  have AName : Cal P w K mg base CX0 1 "is_name" ["thing"] spName (He.ga K "is_name") dName := ⟨g_is_name, FName.kp, bName, ok_name FName m_isinstance m_str m_len m_all s_LETTERS⟩
  have ALowest : Cal P w K mg base CX0 1 "lowest" ["top", "bottom"] spLowest (He.ga K "lowest") dLowest := ⟨g_lowest, FLowest.kp, bLowest, ok_lowest FLowest m_abs⟩
  have AIsW : Cal P w K mg base CX0 2 "is_weight" ["thing"] spIsW (He.ga K "is_weight") dIsW := ⟨g_is_weight, FIsW.kp, bIsW, ok_isw FIsW m_isinstance m_tuple m_len i_MOST_TOP i_MOST_BOTTOM AWhole⟩
  have ARow : Cal P w K mg base CX0 3 "is_row" ["thing"] spRow (He.ga K "is_row") dRow := ⟨g_is_row, FRow.kp, bRow, ok_row FRow m_isinstance m_tuple m_len i_MOST_SPAN i_MOST_TRIES AWhole AName AIsW⟩
  have OSortI : FnOk P w K mg base CX0 1 (He.ma K (He.ga K "Sort") "__init__") dSortI ["self", "name", "weight", "speed", "span", "tries"] (spSort (He.ga K "Sort")) := ok_sortI FSortI T
  have OSortsI : FnOk P w K mg base CX0 4 (He.ma K (He.ga K "Sorts") "__init__") dSortsI ["self", "rows"] (spSorts (He.ga K "Sort") (He.ga K "Sorts")) := ok_sortsI FSortsI T TS m_isinstance m_list m_len i_MOST_SORTS g_Sort ARow ALowest M bSortI OSortI
  have ANames : CalM P w K mg base CX0 1 (He.ga K "Sorts") "sort_names" ["self"] (spNames (He.ga K "Sort") (He.ga K "Sorts")) (He.ma K (He.ga K "Sorts") "sort_names") dNames := ⟨He.meth_ok (c.fact 51 (f := .meth "Sorts" "sort_names") rfl), bNames, ok_names FNames TS m_list⟩
  have ONoSortI : FnOk P w K mg base CX0 1 (He.ma K (He.ga K "NoSort") "__init__") dNoSortI ["self", "name"] (spNoSort (He.ga K "NoSort")) := ok_noSort FNoSortI TN
  have ASortOf : CalM P w K mg base (L2.CX P w) 3 (He.ga K "Sorts") "sort_of" ["self", "name"] (spSortOf (He.ga K "Sort") (He.ga K "Sorts") (He.ga K "NoSort")) (He.ma K (He.ga K "Sorts") "sort_of") dSortOf := ⟨He.meth_ok (c.fact 52 (f := .meth "Sorts" "sort_of") rfl), bSortOf, ok_sortOf FSortOf TS TN AName bNoSortI ONoSortI⟩
  have ATold : CalM P w K mg base CX0 1 (He.ga K "Sorts") "rows_told" ["self"] (spTold (He.ga K "Sort") (He.ga K "Sorts")) (He.ma K (He.ga K "Sorts") "rows_told") dTold := ⟨He.meth_ok (c.fact 53 (f := .meth "Sorts" "rows_told") rfl), bTold, ok_told FTold T TS⟩
  have AWith : CalM P w K mg base (L2.CX P w) 6 (He.ga K "Sorts") "with_speed" ["self", "name", "speed"] (spWith (He.ga K "Sort") (He.ga K "Sorts") (He.ga K "NoSort") (He.ga K "NoWeight")) (He.ma K (He.ga K "Sorts") "with_speed") dWith := ⟨He.meth_ok (c.fact 54 (f := .meth "Sorts" "with_speed") rfl), bWith, ok_with FWith TS TW AIsW ASortOf ATold g_Sorts MS bSortsI OSortsI⟩
  have ACell : Cal P w K mg base CX0 1 "_law_cell" ["_law_script", "_law_k"] (spCell K) (He.ga K "_law_cell") dCell := ⟨g__law_cell, FCell.kp, bCell, ok_cell FCell m_len⟩
  have AMix : Cal P w K mg base CX0 1 "_law_mix" ["_law_cell_here", "_law_k"] spMix (He.ga K "_law_mix") dMix := ⟨g__law_mix, FMix.kp, bMix, ok_mix FMix⟩
  have ADraw : Cal P w K mg base CX0 2 "_law_draw" ["_law_cell_here", "_law_k"] spDraw (He.ga K "_law_draw") dDraw := ⟨g__law_draw, FDraw.kp, bDraw, ok_draw FDraw AMix⟩
  have ALow : Cal P w K mg base CX0 1 "_law_lowest" ["_law_weight_here"] spLow (He.ga K "_law_lowest") dLow := ⟨g__law_lowest, FLow.kp, bLow, ok_low FLow m_range⟩
  have AWeight : Cal P w K mg base CX0 1 "_law_weight" ["_law_number"] spWeight (He.ga K "_law_weight") dWeight := ⟨g__law_weight, FWeight.kp, bWeight, ok_weight FWeight⟩
  have ADNames : Cal P w K mg base CX0 3 "_law_names" ["_law_cell_here", "_law_many"] spDNames (He.ga K "_law_names") dDNames := ⟨g__law_names, FDNames.kp, bDNames, ok_dnames FDNames m_range AMix ADraw⟩
  have ADRow : Cal P w K mg base CX0 3 "_law_row" ["_law_cell_here", "_law_name"] spDRow (He.ga K "_law_row") dDRow := ⟨g__law_row, FDRow.kp, bDRow, ok_drow FDRow ADraw AWeight⟩
  have ADue : Cal P w K mg base CX0 2 "_law_due" ["_law_rows_here"] spDue (He.ga K "_law_due") dDue := ⟨g__law_due, FDue.kp, bDue, ok_due FDue ALow⟩
  have ADRows : Cal P w K mg base CX0 4 "_law_rows" ["_law_script", "_law_at"] (spDRows K) (He.ga K "_law_rows") dDRows := ⟨g__law_rows, FDRows.kp, bDRows, ok_drows FDRows m_enumerate ACell ADNames AMix ADRow⟩
  have AStands : Cal P w K mg base CX0 4 "_law_stands" ["_law_sorts", "_law_rows_here"] (spStands (He.ga K "Sort") (He.ga K "Sorts")) (He.ga K "_law_stands") dStands := ⟨g__law_stands, FStands.kp, bStands, ok_stands FStands m_isinstance m_list T TS ADue ANames ATold ASortOf⟩
  have AFirst : Cal P w K mg base CX0 7 "_law_first" ["_law_rows_here", "_law_way", "_law_at"] spFirst (He.ga K "_law_first") dFirst := ⟨g__law_first, FFirst.kp, bFirst, ok_first FFirst m_list T TS ADue ANames ATold ASortOf AWith g_Sorts MS bSortsI OSortsI⟩
  have ALTold : Cal P w K mg base CX0 7 "_law_told" ["_law_sorts", "_law_name", "_law_speed"] (spLTold (He.ga K "Sort") (He.ga K "Sorts")) (He.ga K "_law_told") dLTold := ⟨g__law_told, FLTold.kp, bLTold, ok_ltold FLTold TS TN TW TC AWith⟩
  have ALNo : Cal P w K mg base CX0 4 "_law_no_sort" ["_law_sorts", "_law_name"] (spLNo (He.ga K "Sort") (He.ga K "Sorts")) (He.ga K "_law_no_sort") dLNo := ⟨g__law_no_sort, FLNo.kp, bLNo, ok_lno FLNo TS TN TC ASortOf⟩
  have AAsked : Cal P w K mg base CX0 8 "_law_asked" ["_law_sorts", "_law_rows_here", "_law_cell_here"] (spAsked (He.ga K "Sort") (He.ga K "Sorts")) (He.ga K "_law_asked") dAsked := ⟨g__law_asked, FAsked.kp, bAsked, ok_asked FAsked m_len ADraw AWeight ALTold AStands AFirst ALNo⟩
  exact ok_law FLaw m_list ADRows AStands AAsked g_Sorts MS bSortsI OSortsI
end Gw
open PySem PySem.W PySem.Calls PyProof.Rows
theorem PySem.Challenge.cw_greywait_k31_sorts_told_holds : PySem.Challenge.rw_greywait_k31_sorts_told.Holds := by
  w_on; o_law
  refine HandSHeadRun.head_any (r := OpenLaw.row PySem.Challenge.rw_greywait_k31_sorts_told) (q := view (OpenLaw.row PySem.Challenge.rw_greywait_k31_sorts_told).prog [36]) (H := Gw.hk) (ob := Gw.ob) (M := 2400) (loose := Gw.loose) (d := HandSHeadRun.topDef (OpenLaw.row PySem.Challenge.rw_greywait_k31_sorts_told).prog 36) (kwd := []) Gw.ob_eq
    (by kernel_rfl) (fun s => by kernel_rfl) Gw.run (by kernel_rfl) (by kernel_rfl) (by kernel_rfl) (by rfl) (by first | assumption | decide +kernel) (by decide +kernel) ⟨rfl, rfl, rfl, rfl, rfl, by decide +kernel⟩ ?hw ?hc
  case hw => w_witness2
  case hc =>
    refine L2.walk_ofE (l := PySem.Challenge.rw_greywait_k31_sorts_told) (n := 63) (k := 9) (x := "_law_script") (CX := L2.CX0) rfl (by decide) (by kernel_rfl) ⟨rfl, by decide, by decide⟩ ?F (fun _ _ _ _ z => z)
    intro w mg fa h Y G hmg0
    obtain ⟨K, KX, cm, c⟩ := Y
    have hmg : mg ("law" : PySem.Str) = some (.ref fa) := by
      have e : (HandSHeadRun.topDef (OpenLaw.row PySem.Challenge.rw_greywait_k31_sorts_told).prog 36).name = ("law" : PySem.Str) := by kernel_rfl
      rw [← e]
      exact hmg0
    obtain ⟨fd, hb, hF⟩ := Gw.facts (P := (PySem.Challenge.rw_greywait_k31_sorts_told).prog) (w := w) KX G hmg cm c
    exact ⟨K, fd, Gw.spLaw K, KX, hb, fun H a ns hl _ hS => ⟨a, ns, rfl, hS, hl, fun _ => rfl⟩, hF⟩
