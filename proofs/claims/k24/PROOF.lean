import PyProof.Rows.All
import HandS.ForMost
import HandS.Exc
import HandS.ExcInit
import HandS.ExcField
import HandS.Lambda
import HandS.IsInst
import HandS.Zip
import HandS.Codes
import HandS.Style
import HandS.Walk
import HandS.Flow
import HandS.StrMore
import HandS.Replace
import HandS.ListItems
import HandS.Evl
import HandS.HeadWalk
import HandS.HeadHook4
import HandS.Deep
import HandS.Conv
import HandS.CallSlots
import KE.GoesMore
import HandS.Head2
import HandS.NestedK
import HandS.EndTab
import PySem.Challenge.RW_whobrings_k24_whole_tokens_of_texts
set_option Elab.async false
set_option linter.all false
set_option maxRecDepth 100000
section
set_option maxHeartbeats 2000000
/-! Lw0: further rules over the layer. -/
namespace Lw
open PySem PySem.Spec PyProof.Rows L2
/-! ### enumerate(text) -/
/-- each sign of x in a new pair -/
def Itse (x : Str) : It :=
  ⟨fun i _ => i < x.cps.size, fun i H v H' => ∃ T c, v = .ref T ∧ H T = none ∧ H' = upd H T (.tup [.int (i : Nat), .str ⟨#[c]⟩]) ∧ x.cps[i]? = some c, fun i _ => i = x.cps.size⟩
theorem turn_enumS {P : Program} {w : World} {K : PySem.W.Frag} {elts : List Expr} {kk : Nat} {tpos : Pos} (e it : Addr) (x : Str) (t : Tok) :
    Turn P w K (.Tuple elts kk tpos) (Itse x) [e, it] e (fun i h => (∃ old, IsEnum h e it ((i : Nat) : Int) old) ∧ h.IsStrIter it (strIterType x) x t i ∧ e ≠ it) where
  mem := by simp
  obj := fun i h st b hb => by
    obtain ⟨⟨old, he⟩, ⟨o, ho, hc, hd⟩, _⟩ := st
    have e' : b = e ∨ b = it := by simpa using hb
    rcases e' with z | z
    · rw [z]; exact ⟨_, he, fun v q => nomatch q⟩
    · rw [z]; exact ⟨o, ho, fun v q => by rw [hd] at q; cases q⟩
  keep := fun i h h' st k => by
    obtain ⟨⟨old, he⟩, ⟨o, ho, r⟩, hne⟩ := st
    exact ⟨⟨old, k e (by simp) _ he⟩, ⟨o, k it (by simp) o ho, r⟩, hne⟩
  item := by
    intro X hP hw hK hc i pins s σ H E I hf st hg
    subst hP hw hK
    obtain ⟨⟨old, he⟩, hit, hne⟩ := st
    have hel : e < s.heap.objs.size := Heap.lt_size he
    have hil : it < s.heap.objs.size := by obtain ⟨_, q, _⟩ := hit; exact Heap.lt_size q
    have D : Draws X.prog X.w X.A.in1 it [it] x.cps.size (fun i v => ∃ c u, x.cps[i]? = some c ∧ v = .str ⟨#[c]⟩ u) (fun i h => h.IsStrIter it (strIterType x) x t i) := Draws.text (show X.A.in1.handled = none from I.ok.hd hc) it x t
    refine wpAny_pyNext_enum_itemD D he hit hg hne (by simpa using hne) fun v h' tk hv ho hit' hT hsz hk => ?_
    obtain ⟨c, u, hcx, rfl⟩ := hv
    refine ⟨_, rfl, wpAny_letOwnedTupleGo_enum (s := { s with heap := h', toks := tk + 1 }) ho fun h'' he' sb => ?_⟩
    have hT2 : h''.get? s.heap.objs.size = some { cls := .type "tuple", data := .seq #[.int i tk, .str ⟨#[c]⟩ u] } := (sb.2 _ (Nat.ne_of_gt hel)).trans hT
    have new : ObjOk X.prog X.w (upd H s.heap.objs.size (.tup [.int (i : Nat), .str ⟨#[c]⟩])) h'' s.heap.objs.size (.tup [.int (i : Nat), .str ⟨#[c]⟩]) :=
      ⟨by show 2 ≤ sizeLine; decide, [.int i tk, .str ⟨#[c]⟩ u], .cons ⟨_, rfl⟩ (.cons ⟨_, rfl⟩ .nil), ⟨_, hT2, rfl, _, rfl⟩⟩
    have I1 : Inv X pins σ (upd H s.heap.objs.size (.tup [.int (i : Nat), .str ⟨#[c]⟩])) { s with heap := h'', toks := tk + 1 } :=
      I.turnedNew (ch := [e, it]) (fun b ob hb q => (sb.2 b (fun z => hb (by simp [z]))).trans (hk b ob (fun z => hb (by simp [z])) (fun z => hb (by simp [z])) q)) hf (Nat.le_refl _) new
    refine ⟨.ref s.heap.objs.size, _, I1, rfl, ⟨_, c, rfl, I.hok.fresh (Nat.le_refl _), rfl, hcx⟩, ⟨⟨.str ⟨#[c]⟩ u, ?_⟩, ?_, hne⟩, fun b hb => ?_⟩
    · have e1 : ((i + 1 : Nat) : Int) = (i : Int) + 1 := by omega
      rw [e1]; exact he'
    · obtain ⟨o, ho', r⟩ := hit'
      exact ⟨o, (sb.2 it (Ne.symm hne)).trans ho', r⟩
    · have hb' : b < s.heap.objs.size := by
        have e' : b = e ∨ b = it := by simpa using hb
        rcases e' with z | z
        · rw [z]; exact hel
        · rw [z]; exact hil
      rw [upd_ne (Nat.ne_of_lt hb')]
      exact (hf b hb).1
  done := by
    intro X hP hw hK hc i pins s σ H E I hf st hg
    subst hP hw hK
    obtain ⟨⟨old, he⟩, hit, hne⟩ := st
    obtain ⟨f0, f1, f2, f3, f4, f5⟩ := hf it (by simp)
    have hg' : i = x.cps.size := hg
    subst hg'
    have D : Draws X.prog X.w X.A.in1 it [it] x.cps.size (fun i v => ∃ c u, x.cps[i]? = some c ∧ v = .str ⟨#[c]⟩ u) (fun i h => h.IsStrIter it (strIterType x) x t i) := Draws.text (show X.A.in1.handled = none from I.ok.hd hc) it x t
    exact wpAny_pyNext_enum_endD D he hit fun h' eb => ⟨rfl, I.turned (t' := s.toks) (fun b o hb q => eb b o hb q) f0 f1 f3 f4 f5⟩
  self := fun A i s Q E st h => let ⟨⟨_, he⟩, _⟩ := st; wpAny_pyIter_enum he h
def iEnumS (ta : TA) : TI := fun σ H R => ta σ H fun vs H1 => ∃ x, vs = [.str x] ∧ R (Itse x) H1
theorem pi_enumS {X : Cx} {e : Expr} {ta : TA} {p pos tpos : Pos} {elts : List Expr} {kk : Nat} (hg : Gl X "enumerate") (hm : X.mg "enumerate" = none) (ha : PA X [e] ta) (hs : starEach [e] X.env = [(false, eval e X.env)] := by rfl) :
    PI X (.Tuple elts kk tpos) (.Call (.Name "enumerate" p) [e] [] pos) (iEnumS ta) := by
  refine ⟨fun pins s σ H R I h => ?_⟩
  refine Call_ (ld_blt I hg hm boot_enumerate (PyProof.Rows.callWith_type1 (thn (ha.run pos pins s σ H _ I h) fun us s1 ⟨vs, H1, I1, r1, q1⟩ => ?_) hs rfl))
  obtain ⟨x, ex, q⟩ := q1
  subst ex
  cases r1 with
  | cons r rr =>
    cases rr
    obtain ⟨t, rfl⟩ := r
    refine call_enumerate_str fun h' he hit hsz hk => wpAny_pyIter_enum he ?_
    have I2 : Inv X pins σ H1 { s1 with heap := h' } := I1.kept (t' := s1.toks) hk
    refine ⟨s1.heap.objs.size + 1, [s1.heap.objs.size + 1, s1.heap.objs.size], _, _, H1, rfl, I2, turn_enumS (s1.heap.objs.size + 1) s1.heap.objs.size x t, ⟨⟨.none, he⟩, hit, Nat.succ_ne_self _⟩, fun b hb => ?_, q⟩
    have e' : b = s1.heap.objs.size + 1 ∨ b = s1.heap.objs.size := by simpa using hb
    have hle : s1.heap.objs.size ≤ b := by
      rcases e' with z | z
      · rw [z]; exact Nat.le_add_right _ _
      · rw [z]; exact Nat.le_refl _
    exact I1.fpOk hle (I1.hok.fresh hle)
theorem walk_enumS {x : Str} : Walk (Itse x) x.cps.size (fun _ => True) (YPair (fun i => some (.int (i : Nat))) (fun i => (x.cps[i]?).map fun c => V.str ⟨#[c]⟩)) :=
  ⟨fun i _ hi _ => hi, fun _ _ => rfl, fun i H v H' _ _ y => by
    obtain ⟨T, c, e1, e2, e3, e4⟩ := y
    exact ⟨T, _, _, e1, e2, e3, rfl, by show (x.cps[i]?).map _ = _; rw [e4]; rfl⟩⟩
/-! ### text * n -/
def rMulS : R2 := fun x y H Q => ∃ (z : Str) (n : Int), x = .str z ∧ y = .int n ∧ MulOk z n ∧ Q (.str (Txt.mul z n)) H
theorem op_mulS {X : Cx} : OpR X (binaryOp .Mult) rMulS := by
  intro pins s σ H x y v u Q I rx ry h
  obtain ⟨z, n, rfl, rfl, ok, q⟩ := h
  obtain ⟨t, rfl⟩ := rx
  obtain ⟨t2, rfl⟩ := ry
  exact SB.mul ok fun t' k => ⟨.str _, H, I.tok k, ⟨t', rfl⟩, q⟩
/-! ### a call by keywords alone -/
section
variable {X : Cx} {CX : CXT} {k : Nat} {f : Addr} {fd : FuncData} {ps ks : List Str} {sp : Sp} {x : Str} {p pos : Pos} {kws : List Keyword} {tk : TA} {g : List Value → List Value → List Value} {gV : List V → List V → List V}
def tCallK0 (sp : Sp) (gV : List V → List V → List V) (E : L2.St → XK) (tk : TA) : TE := fun σ H Q => tk σ H fun zs H2 => sp (gV [] zs) H2 Q (E σ)
theorem run_fnkS {E : L2.St → XK} {pins : List (Addr × Obj)} {σ : L2.St} {H : Hp} {s : Shared} {Q : VK} {us ws : List Value} {vs zs : List V} (F : FnOk X.prog X.w X.K X.mg X.base CX k f fd ps sp) (hr : Room k X.A) (hb : KBinds X.K fd ps ks g gV) (hx : PassesAt CX X σ (E σ))
    (I : Inv X pins σ H s) (r : Vals vs us) (rz : Vals zs ws) (h : sp (gV vs zs) H Q (E σ)) : wpAny (model X.prog X.w) X.A (call (.ref f) us (ks.zip ws)) (EP X pins σ Q) X.xe s := by
  have r2 := hb.rel r rz
  have hl : (g us ws).length = ps.length := by rw [← r2.length]; exact F.len _ _ _ _ h
  refine wpAny_call (codeAny_mono (F.run X.A X.stack s H ⟨us, ks.zip ws⟩ (g us ws) (gV vs zs) Q (E σ) hr I.env0 (hb.to s us ws I.kIn hl) r2 h) fun r s' hq => ?_)
  cases r with
  | error e => exact hx pins H s e s' I hq
  | ok fl =>
    cases fl with
    | ret u => exact I.after hq
    | next => exact False.elim hq
    | brk => exact False.elim hq
    | cont => exact False.elim hq
theorem pe_callK0 {E : L2.St → XK} (F : FnOk X.prog X.w X.K X.mg X.base CX k f fd ps sp) (hr : Room k X.A) (hg : Gl X x) (hm : X.mg x = some (.ref f)) (hk : PySem.W.keepIn X.K (.ref f) = true) (hb : KBinds X.K fd ps ks g gV) (hx : ∀ σ, PassesAt CX X σ (E σ))
    (hkw : PK X kws tk) (hall : (backToKw pos (keywordEach kws X.env)).all (·.1.isSome) = true := by rfl) (hks : (backToKw pos (keywordEach kws X.env)).filterMap (·.1) = ks := by rfl)
    (hdb : (x == ("__debug__" : Str)) = false := by decide)
    (hpl : ((backTo pos (starEach [] X.env)).any (·.1) || (backToKw pos (keywordEach kws X.env)).any (·.1.isNone)) = false := by rfl) :
    PE X (.Call (.Name x p) [] kws pos) (tCallK0 sp gV E tk) := by
  refine ⟨fun pins s σ H Q I h => ?_⟩
  refine wpAny_Call_Name_kw (ld_glob I hg hm ?_ hdb)
  refine PySem.W.callWith_KW0 (h₀ := X.base) I.ok.mod.kin hk hall (thn (hkw.run pos pins s σ H _ I h) fun ws s2 ⟨zs, H2, I2, rz, q2⟩ => ⟨I2.kIn, ?_⟩) hpl
  rw [hks]
  exact run_fnkS F hr hb (hx σ) I2 .nil rz q2
end
/-! ### several clauses 'except C as n' -/
/-- what the clauses wish of an exception of the body, one after the other; i: the slot of n -/
def wManyA (K : PySem.W.Frag) (Wout : WX) (D : Ends) : List (Value × Nat × (Addr → Value → Option Addr → TS)) → WX
  | [] => Wout
  | (c, i, ts) :: r => fun cls d σ H => ∃ b, PySem.W.exmOne K cls c = some b ∧
      (b = true → ∀ a, H a = none → ts a cls d { nx := fun σ' H' => D.nx (σ'.set i none) H', rt := D.rt, bk := fun σ' H' => D.bk (σ'.set i none) H', ct := fun σ' H' => D.ct (σ'.set i none) H' } (σ.set i (some (.ref a))) H) ∧
      (b = false → wManyA K Wout D r cls d σ H)
inductive HdsOkA (X : Cx) : List ExceptHandler → List (Value × Nat × (Addr → Value → Option Addr → TS)) → Prop
  | nil : HdsOkA X [] []
  | cons {x n : Str} {i : Nat} {c : Value} {ts : Addr → Value → Option Addr → TS} {b₀ : Stmt} {suite : List Stmt} {np pos' : Pos} {hds : List ExceptHandler} {l : List (Value × Nat × (Addr → Value → Option Addr → TS))} (hc : Names X x c)
      (hi : X.N[i]? = some n) (hln : X.env.kindOf n = some .local)
      (hsu : ∀ (a : Addr) (oe : Obj) (cls : Value) (d : Option Addr) (pn : List (Addr × Obj)), Zc cls d oe → (∃ vs, oe.data = .fields vs) → PSs (X.suite a ((a, oe) :: pn)) (b₀ :: suite) (ts a cls d)) (r : HdsOkA X hds l) :
      HdsOkA X (.ExceptHandler (some (.Name x np)) (some n) (b₀ :: suite) pos' :: hds) ((c, i, ts) :: l)
section
variable {X : Cx} {body : List Stmt} {h₀ : ExceptHandler} {hds : List ExceptHandler} {l : List (Value × Nat × (Addr → Value → Option Addr → TS))} {pos : Pos} {tb : WX → TS} {Wout : WX}
theorem ps_try_manyA (hs : X.stack = X.env :: X.outer) (hf : X.env.frame = some X.env.locals) (hN : X.N.Nodup) (tk : Takes X Wout)
    (hb : ∀ (W : WX) (pn : List (Addr × Obj)) (xe : Value → Shared → Prop), Takes (X.tr pn xe) W → PassesOwn (model X.prog X.w) X.A X.env xe → PSs (X.tr pn xe) body (tb W))
    (hh : HdsOkA X (h₀ :: hds) l) : PS X (.Try body (h₀ :: hds) [] [] pos) (fun D σ H => tb (wManyA X.K Wout D l) D σ H) := by
  refine ⟨fun pins s σ H D I h => ?_⟩
  have ok := I.ok
  have hfr : X.A.frames = some (X.env :: X.outer) := by rw [ok.frames, hs]
  refine wpAny_Try_except ?_
  refine wpAny_mono ((hb (wManyA X.K Wout D l) (X.pn ++ pins) (fun e s₁ => wpAny (model X.prog X.w) X.A (noteFrame e X.env) (fun _ s₂ => wpAny (model X.prog X.w) X.A (setFlight e none) (fun _ s₃ =>
    wpAny (model X.prog X.w) X.A (handleBy e X.env (h₀ :: hds)) (SP X pins D) X.xe s₃) X.xe s₂) X.xe s₁) (fun u s' xx => ?_) PassesOwn.looking).run [] s σ H D (I.toTry _) h) (fun f s1 hsp => ?_) (fun e s1 he => he)
  · obtain ⟨a, B, sI, pins', σ', H', cls, d, rfl, J', nb, up, sky, na, os, ag, w⟩ := xx
    have J : Inv X pins σ' H' sI := J'.ofTry ok
    have sky' : Sky B (X.env :: X.outer) a (Zc cls d) X.env.locals s'.heap := by rw [← hs]; exact sky
    show wpAny (model X.prog X.w) X.A (noteFrame (.ref a) X.env) _ _ _
    refine Sky.land Zc.steady hfr hf sky' fun h3 fl3 up3 => ?_
    have J3 : Inv X pins σ' H' { s' with heap := h3 } := J.landed nb fl3.1 (up.trans up3) os ag
    obtain ⟨oe3, vs3, he3, hz3, hd3⟩ := fl3.there
    have notFr : ∀ {h : Heap} {o : Obj} {vs : Array Value}, h.FunFrames B (X.env :: X.outer) → h.get? a = some o → o.data = .fields vs → a ∉ frs (X.env :: X.outer) := fun {h o vs} ff e dd hm => by
      obtain ⟨_, o', e', hnf⟩ := ff.mem hm
      rw [e] at e'; cases e'
      exact hnf _ dd
    have nfr := notFr fl3.2.2.1 he3 hd3
    have nL : a ≠ X.env.locals := fun z => nfr (List.mem_filterMap.mpr ⟨X.env, List.mem_cons_self, by rw [hf, z]⟩)
    have nF : a ∉ X.fs := fun hm => by
      obtain ⟨e, he, q⟩ := List.mem_filterMap.mp hm
      exact nfr (List.mem_filterMap.mpr ⟨e, List.mem_cons_of_mem _ he, q⟩)
    have S3 := J3.suite he3 hd3 na nL nF
    have go : ∀ {hds' : List ExceptHandler} {l' : List (Value × Nat × (Addr → Value → Option Addr → TS))}, HdsOkA X hds' l' → wManyA X.K Wout D l' cls d σ' H' →
        wpAny (model X.prog X.w) X.A (handleBy (.ref a) X.env hds') (SP X pins D) X.xe { s' with heap := h3 } := by
      intro hds' l' hk
      induction hk with
      | nil =>
        intro w
        refine wpAny_handleBy_nil ?_
        obtain ⟨k1, k2, k3, oe, vs, T, oT, ts', he, hz, hd, h1, hr⟩ := id fl3
        unfold PySem.passOn
        refine wpAny_bind (wpAny_field he hd h1 ?_)
        rw [if_neg (show ¬ ((Value.ref T == Value.none) = true) from by simp)]
        have fin : wpAny (model X.prog X.w) X.A (setFlight (.ref a) X.env.frame) (fun _ s4 => wpAny (model X.prog X.w) X.A (throw (.ref a) : Sem Flow) (SP X pins D) X.xe s4) X.xe { s' with heap := h3 } := by
          rw [hf]
          refine HandSPX.setFlight_upZ fl3 fun h4 hh4 up4 => wpAny_throw (tk _ _ ?_)
          exact ⟨a, B, sI, pins, σ', H', cls, d, rfl, J, nb, (up.trans up3).trans up4, .inr (.inr (by rw [hs]; exact hh4)), na, os, ag, w⟩
        first
          | exact wpAny_bind (wpAny_pure (wpAny_bind fin))
          | exact wpAny_bind fin
      | @cons x n i c ts b₀ suite np pos' hds2 l2 hc hi hln hsu r ih =>
        intro w
        obtain ⟨b, hb1, hyes, hno⟩ := w
        have hloc : Loc X.env.scope n := .inl hln
        refine wpAny_handleBy_cons (codeAny_handlers_test ?_) (by intro q; cases q)
        have LT : PySem.W.Looks (model X.prog X.w) h3 (typeOf (.ref a)) cls := fun A Q E s k q => wpAny_typeOf_ref (k _ _ he3) (by rw [hz3.1]; exact q)
        have LM := PySem.W.exm_one (M := model X.prog X.w) (J3.kIn) LT hb1
        have test : ∀ {Q : Value → Shared → Prop} {E : Value → Shared → Prop}, Q c { s' with heap := h3 } → wpAny (model X.prog X.w) (X.A.mark (some (.ref a))) (eval (.Name x np) X.env) Q E { s' with heap := h3 } := fun {Q E} q => by
          obtain ⟨hg, hdbg, hm | ⟨hm, hv, hnn⟩⟩ := hc
          · exact ld_glob (X := X.suite a ((a, oe3) :: (X.pn ++ pins))) S3 hg hm q hdbg
          · exact ld_blt (X := X.suite a ((a, oe3) :: (X.pn ++ pins))) S3 hg hm hv q hnn hdbg
        refine test (LM.here ?_)
        cases b with
        | true =>
          refine codeAny_handlers_suite_as ?_
          refine HandSPX.lands_againZ fl3 fun h4 fl4 up4 => ?_
          have J4 : Inv X pins σ' H' { s' with heap := h4 } := J.landed nb fl4.1 ((up.trans up3).trans up4) os ag
          obtain ⟨oe4, vs4, he4, hz4, hd4⟩ := fl4.there
          have S4 := J4.suite he4 hd4 na nL nF
          refine store_ok (X := X.suite a ((a, oe4) :: (X.pn ++ pins))) (v := .ref a) S4 hN hi hloc rfl (fun s5 S5 => ?_) (.inr hln)
          refine wpAny_mono ((hsu a oe4 cls d (X.pn ++ pins) hz4 ⟨_, hd4⟩).run [] s5 _ H' _ S5 (hyes rfl a na)) (fun f s6 hsp => ?_) (fun _ _ z => False.elim z)
          have end_ : ∀ {σ6 : L2.St} {H6 : Hp} {Q : Shared → Prop}, Inv (X.suite a ((a, oe4) :: (X.pn ++ pins))) [] σ6 H6 s6 → (∀ s7, Inv X pins (σ6.set i none) H6 s7 → Q s7) →
              wpAny (model X.prog X.w) X.A (do bindName X.env n .none; unbindBehindTheSuite X.env n pos') (fun _ s7 => Q s7) X.xe s6 := fun {σ6 H6 Q} S6 hq => gone_ok (S6.unsuite ok) hN hi hln hq
          cases f with
          | next =>
            obtain ⟨σ6, H6, S6, q6⟩ := hsp
            exact end_ S6 fun s7 J7 => ⟨_, _, J7, q6⟩
          | brk =>
            obtain ⟨σ6, H6, S6, q6⟩ := hsp
            exact end_ S6 fun s7 J7 => ⟨_, _, J7, q6⟩
          | cont =>
            obtain ⟨σ6, H6, S6, q6⟩ := hsp
            exact end_ S6 fun s7 J7 => ⟨_, _, J7, q6⟩
          | ret u =>
            obtain ⟨v6, σ6, H6, S6, r6, q6⟩ := hsp
            exact end_ S6 fun s7 J7 => ⟨_, _, _, J7, r6, q6⟩
        | false =>
          show wpAny _ X.A (handleBy (.ref a) X.env hds2) _ _ _
          exact ih (hno rfl)
    exact go hh w
  · cases f with
    | next =>
      obtain ⟨σ', H', J', q⟩ := hsp
      exact wpAny_execs_nil ⟨σ', H', J'.ofTry ok, q⟩
    | brk =>
      obtain ⟨σ', H', J', q⟩ := hsp
      exact ⟨σ', H', J'.ofTry ok, q⟩
    | cont =>
      obtain ⟨σ', H', J', q⟩ := hsp
      exact ⟨σ', H', J'.ofTry ok, q⟩
    | ret u =>
      obtain ⟨v, σ', H', J', r, q⟩ := hsp
      exact ⟨v, σ', H', J'.ofTry ok, r, q⟩
end
/-! ### either of two readings -/
theorem pi_or {X : Cx} {tg e : Expr} {w1 w2 : TI} (h1 : PI X tg e w1) (h2 : PI X tg e w2) : PI X tg e (fun σ H R => w1 σ H R ∨ w2 σ H R) :=
  ⟨fun pins s σ H R I h => h.elim (h1.run pins s σ H R I) (h2.run pins s σ H R I)⟩
theorem pe_or {X : Cx} {e : Expr} {t1 t2 : TE} (h1 : PE X e t1) (h2 : PE X e t2) : PE X e (fun σ H Q => t1 σ H Q ∨ t2 σ H Q) :=
  ⟨fun pins s σ H Q I h => h.elim (h1.run pins s σ H Q I) (h2.run pins s σ H Q I)⟩
end Lw
namespace L2
open PySem PySem.Spec PyProof.Rows
/-- as Fun.ok, where nothing raises, C8's word for it -/
theorem Fun.okC {P : Program} {w : World} {K : PySem.W.Frag} {mg : Str → Option Value} {base : Heap} {x qual : Str} {st : Stmt} {f : Addr} {fd : FuncData} {N ps : List Str} {k : Nat} {sp : Sp} (F : L2.Fun K x qual st f fd) (S : FnScope N ps (defScope st)) (len : ∀ vs H Q E, sp vs H Q E → vs.length = ps.length)
    (hbody : ∀ (cdv : Value) (A : Around) (outer : List Env) (s : Shared) (H : Hp) (vs : List V) (Q : VK) (E : XK), Room k (A.deeper (envOfC qual (defScope st) s.heap.objs.size f cdv)) → sp vs H Q E →
      ∃ t, PSs (cxOf C8.CX0 P w K mg base N qual (defScope st) f cdv A outer s H E).nox (defBody st) t ∧ t { nx := fun _ H' => Q .non H', rt := Q } (start N vs) H) : FnOk P w K mg base C8.CX0 (k + 1) f fd ps sp := by
  obtain ⟨oc, od, kV, doc, pm, an, cdv, ct, osl, rfl, lk, hcd⟩ := F.ex
  refine fn_of lk hcd S len fun A outer s H vs Q E hr hsp => ?_
  obtain ⟨t, h, q⟩ := hbody cdv A outer s H vs Q E hr hsp
  exact ⟨t, h.nox, q⟩
end L2
namespace Lw
open PySem PySem.Spec PyProof.Rows L2
/-! ### list(text), a name of the module that holds a text -/
def signsV (z : Str) : List V := z.cps.toList.map fun c => V.str ⟨#[c]⟩
def rListC : List V → Hp → VK → Prop := fun xs H Q => ∃ z, xs = [.str z] ∧ z.cps.size ≤ sizeLine ∧ ∀ q, H q = none → Q (.ref q) (upd H q (.lst (signsV z)))
theorem call_list_signs {X : Cx} (hc : X.calm = true) : CallR X (.type "list") rListC := by
  intro pins s σ H xs us Q I r h
  obtain ⟨z, e, hz, q⟩ := h
  subst e
  obtain ⟨u, eu, rx⟩ := vals1 r
  subst eu
  obtain ⟨t, rfl⟩ := rx
  refine call_list_str (I.ok.hd hc) z t (fun h' tk acc' c' hkeep hS hacc => ?_) hz
  refine ⟨.ref s.heap.objs.size, upd H s.heap.objs.size (.lst (signsV z)), I.laid hkeep (Nat.le_refl _) (show ObjOk X.prog X.w _ _ _ (.lst (signsV z)) from ⟨?_, acc'.toList, c', ?_, ?_⟩), rfl, q _ (I.hok.fresh (Nat.le_refl _))⟩
  · show (List.map _ _).length ≤ _
    rw [List.length_map, Array.length_toList]; exact hz
  · have el : acc'.toList.length = acc'.size := by simp
    refine vals_of_at (by show (List.map _ _).length = _; rw [List.length_map, Array.length_toList, el, hacc.1]) fun j x w h1 h2 => ?_
    obtain ⟨c, u, hcx, rfl⟩ := hacc.2 j w (by rw [← Array.getElem?_toList]; exact h2)
    have e2 : (signsV z)[j]? = some (V.str ⟨#[c]⟩) := by
      show (List.map _ _)[j]? = _
      rw [List.getElem?_map, Array.getElem?_toList, hcx] <;> rfl
    rw [e2] at h1
    cases h1
    exact ⟨u, rfl⟩
  · rw [Array.toArray_toList]; exact hS
theorem pe_gstr {X : Cx} {x z : Str} {t : Tok} {pos : Pos} (hg : Gl X x) (hm : X.mg x = some (.str z t)) (hd : (x == ("__debug__" : Str)) = false := by decide) : PE X (.Name x pos) (tC (.str z)) := pe_glob hg hm ⟨t, rfl⟩ hd
end Lw
end
section
set_option maxHeartbeats 2000000
/-! Lw1: readings step by step: the heap as a letter with facts. -/
namespace Lw
open PySem L2
/-! ### heaps -/
/-- o is laid at p -/
structure New (H : Hp) (p : Addr) (o : HO) (H' : Hp) : Prop where
  was : H p = none
  now : H' p = some o
  off : ∀ b, b ≠ p → H' b = H b
/-- o is written at p -/
structure Wr (H : Hp) (p : Addr) (o : HO) (H' : Hp) : Prop where
  now : H' p = some o
  off : ∀ b, b ≠ p → H' b = H b
theorem new_upd {H : Hp} {p : Addr} {o : HO} (h : H p = none) : New H p o (upd H p o) := ⟨h, upd_same, fun _ e => upd_ne e⟩
theorem wr_upd {H : Hp} {p : Addr} {o : HO} : Wr H p o (upd H p o) := ⟨upd_same, fun _ e => upd_ne e⟩
theorem New.same {H H' : Hp} {p : Addr} {o : HO} (n : New H p o H') : Same H H' := fun b u e => by
  rw [n.off b (ne_of_none e n.was)]
  exact e
theorem New.ne {H H' : Hp} {p b : Addr} {o u : HO} (n : New H p o H') (h : H b = some u) : b ≠ p := ne_of_none h n.was
/-- all but what lies in S stays -/
def Kp (S : Addr → Prop) (H H' : Hp) : Prop := ∀ b o, ¬ S b → H b = some o → H' b = some o
theorem Kp.refl {S : Addr → Prop} {H : Hp} : Kp S H H := fun _ _ _ h => h
theorem Kp.trans {S : Addr → Prop} {H H1 H2 : Hp} (a : Kp S H H1) (b : Kp S H1 H2) : Kp S H H2 := fun c o n h => b c o n (a c o n h)
theorem Same.kp {S : Addr → Prop} {H H' : Hp} (h : Same H H') : Kp S H H' := fun b o _ e => h b o e
theorem Wr.kp {S : Addr → Prop} {H H' : Hp} {p : Addr} {o : HO} (w : Wr H p o H') (hp : S p) : Kp S H H' := fun b u n e => by
  rw [w.off b (fun z => n (by rw [z]; exact hp))]
  exact e
theorem New.kp {S : Addr → Prop} {H H' : Hp} {p : Addr} {o : HO} (n : New H p o H') : Kp S H H' := fun b u _ e => n.same b u e
theorem Kp.mono {S S' : Addr → Prop} {H H' : Hp} (k : Kp S H H') (h : ∀ a, S a → S' a) : Kp S' H H' := fun b o n e => k b o (fun z => n (h b z)) e
section
variable {K : PySem.W.Frag} {σ : L2.St} {H : Hp} {D : Ends} {t u : TS} {c d : TT} {te ta tb : TE} {ts : TA} {g : TG} {gs : TGs} {i j : Nat} {v x y : V} {vs xs : List V} {p : Addr} {Q : VK} {r : R2}
/-! ### statements, targets -/
theorem r_seq (h : t { D with nx := u D } σ H) : tSeq t u D σ H := h
theorem r_next (h : D.nx σ H) : tNext D σ H := h
theorem r_asg (h : te σ H fun x H1 => g x σ H1 D.nx) : tAsg te g D σ H := h
theorem r_name {Q : L2.St → Hp → Prop} (h : Q (σ.set i (some v)) H) : gName i v σ H Q := h
theorem r_gtup {Q : L2.St → Hp → Prop} {n : Nat} (h : SqT K H p xs) (hl : xs.length = n) (q : gs xs σ H Q) : gTup K n gs (.ref p) σ H Q := ⟨p, xs, rfl, h, hl, q⟩
theorem r_gcons {Q : L2.St → Hp → Prop} (q : g v σ H fun σ' H' => gs vs σ' H' Q) : gCons g gs (v :: vs) σ H Q := ⟨v, vs, rfl, q⟩
theorem r_gnil {Q : L2.St → Hp → Prop} (q : Q σ H) : gNil [] σ H Q := ⟨rfl, q⟩
theorem r_gsub {Q : L2.St → Hp → Prop} {s : TSet} (h : ta σ H fun o H1 => tb σ H1 fun i H2 => s o i v H2 fun H3 => Q σ H3) : gSub ta tb s v σ H Q := h
theorem r_setL {Q : Hp → Prop} {k : Int} {n : Nat} (hp : H p = some (.lst xs)) (hj : ixN xs.length k = some n) (h : ∀ H', Wr H p (.lst (xs.set n v)) H' → Q H') : rSetL (.ref p) (.int k) v H Q := ⟨p, xs, k, n, rfl, rfl, hp, hj, h _ wr_upd⟩
theorem r_ret (h : te σ H D.rt) : tRet te D σ H := h
theorem r_retN (h : D.rt .non H) : tRetN D σ H := h
theorem r_drop (h : te σ H fun _ H1 => D.nx σ H1) : tDrop te D σ H := h
theorem r_cont (h : D.ct σ H) : tCont D σ H := h
theorem r_brk (h : D.bk σ H) : tBreak D σ H := h
theorem r_ifS (h : c σ H fun b H1 => if b = true then t D σ H1 else u D σ H1) : tIfS c t u D σ H := h
theorem r_par (h : ts σ H fun vs H1 => ∃ v w, vs = [v, w] ∧ D.nx ((σ.set i (some v)).set j (some w)) H1) : tPar i j ts D σ H := h
theorem r_two {P : V → V → Prop} (h : P x y) : ∃ v w, [x, y] = [v, w] ∧ P v w := ⟨x, y, rfl, h⟩
theorem r_par3 {l : Nat} (h : ts σ H fun vs H1 => ∃ u v w, vs = [u, v, w] ∧ D.nx (((σ.set i (some u)).set j (some v)).set l (some w)) H1) : tPar3 i j l ts D σ H := h
theorem r_three {z : V} {P : V → V → V → Prop} (h : P x y z) : ∃ u v w, [x, y, z] = [u, v, w] ∧ P u v w := ⟨x, y, z, rfl, h⟩
theorem r_while (W : Nat → L2.St → Hp → Prop) (m0 : Nat) (h0 : W m0 σ H) (hs : ∀ m σ' H', W m σ' H' → c σ' H' fun b H1 => if b = true then ∃ N : L2.St → Hp → Prop, (∀ σ' H', N σ' H' → ∃ m', m' < m ∧ W m' σ' H') ∧ t { D with nx := N, ct := N, bk := D.nx } σ' H1 else D.nx σ' H1) : tWhile c t D σ H :=
  ⟨W, ⟨m0, h0⟩, hs⟩
/-- .. what lies behind it is shown once, from X -/
theorem r_whileX (W : Nat → L2.St → Hp → Prop) (X : L2.St → Hp → Prop) (m0 : Nat) (h0 : W m0 σ H) (hx : ∀ σ' H', X σ' H' → D.nx σ' H') (hs : (∀ σ' H', X σ' H' → D.nx σ' H') → ∀ m σ' H', W m σ' H' → c σ' H' fun b H1 => if b = true then ∃ N : L2.St → Hp → Prop, (∀ σ' H', N σ' H' → ∃ m', m' < m ∧ W m' σ' H') ∧ t { D with nx := N, ct := N, bk := D.nx } σ' H1 else D.nx σ' H1) : tWhile c t D σ H :=
  ⟨W, ⟨m0, h0⟩, hs hx⟩
theorem r_turn {W : Nat → L2.St → Hp → Prop} {m : Nat} (h : t { D with nx := fun σ2 H2 => ∃ m', m' < m ∧ W m' σ2 H2, ct := fun σ2 H2 => ∃ m', m' < m ∧ W m' σ2 H2, bk := D.nx } σ H) :
    ∃ N : L2.St → Hp → Prop, (∀ σ' H', N σ' H' → ∃ m', m' < m ∧ W m' σ' H') ∧ t { D with nx := N, ct := N, bk := D.nx } σ H := ⟨_, fun _ _ h => h, h⟩
/-! ### expressions -/
theorem r_var (h : σ[i]? = some (some v)) (q : Q v H) : tVar i σ H Q := ⟨v, h, q⟩
theorem r_c (q : Q v H) : tC v σ H Q := q
theorem r_op (h : ta σ H fun x H1 => tb σ H1 fun y H2 => r x y H2 Q) : tOp r ta tb σ H Q := h
theorem r_un {f : V → Hp → VK → Prop} (h : ta σ H fun x H1 => f x H1 Q) : tUn f ta σ H Q := h
theorem r_I0 {f : Int → Int → V} {a b : Int} (q : Q (f a b) H) : rI0 f (.int a) (.int b) H Q := ⟨a, b, rfl, rfl, q⟩
theorem r_I {C : Int → Int → Prop} {f : Int → Int → V} {a b : Int} (hc : C a b) (q : Q (f a b) H) : rI C f (.int a) (.int b) H Q := ⟨a, b, rfl, rfl, hc, q⟩
theorem r_eq (hs : scal x y = true) (q : Q (.bl (decide (x = y))) H) : rEq x y H Q := ⟨hs, q⟩
theorem r_ne (hs : scal x y = true) (q : Q (.bl (!decide (x = y))) H) : rNe x y H Q := ⟨hs, q⟩
theorem r_eqI {a b : Int} (q : Q (.bl (decide (a = b))) H) : rEq (.int a) (.int b) H Q := ⟨rfl, by
  have e : decide (V.int a = V.int b) = decide (a = b) := by simp
  rw [e]; exact q⟩
theorem r_neI {a b : Int} (q : Q (.bl (!decide (a = b))) H) : rNe (.int a) (.int b) H Q := ⟨rfl, by
  have e : decide (V.int a = V.int b) = decide (a = b) := by simp
  rw [e]; exact q⟩
theorem r_eqS {a b : Str} (q : Q (.bl (decide (a = b))) H) : rEq (.str a) (.str b) H Q := ⟨rfl, by
  have e : decide (V.str a = V.str b) = decide (a = b) := by simp
  rw [e]; exact q⟩
theorem r_neS {a b : Str} (q : Q (.bl (!decide (a = b))) H) : rNe (.str a) (.str b) H Q := ⟨rfl, by
  have e : decide (V.str a = V.str b) = decide (a = b) := by simp
  rw [e]; exact q⟩
theorem r_eqB {a b : Bool} (q : Q (.bl (decide (a = b))) H) : rEq (.bl a) (.bl b) H Q := ⟨rfl, by
  have e : decide (V.bl a = V.bl b) = decide (a = b) := by simp
  rw [e]; exact q⟩
theorem r_neB {a b : Bool} (q : Q (.bl (!decide (a = b))) H) : rNe (.bl a) (.bl b) H Q := ⟨rfl, by
  have e : decide (V.bl a = V.bl b) = decide (a = b) := by simp
  rw [e]; exact q⟩
theorem r_ite {c : Prop} [Decidable c] {A B : Prop} (h1 : c → A) (h2 : ¬ c → B) : if decide c = true then A else B := by
  by_cases h : c
  · rw [if_pos (decide_eq_true h)]; exact h1 h
  · rw [if_neg (by rw [decide_eq_false h]; exact Bool.false_ne_true)]; exact h2 h
theorem r_iten {c : Prop} [Decidable c] {A B : Prop} (h1 : ¬ c → A) (h2 : c → B) : if (!decide c) = true then A else B := by
  by_cases h : c
  · rw [if_neg (by rw [decide_eq_true h]; decide)]; exact h2 h
  · rw [if_pos (by rw [decide_eq_false h]; rfl)]; exact h1 h
theorem r_iteb {b : Bool} {A B : Prop} (h1 : b = true → A) (h2 : b = false → B) : if b = true then A else B := by
  cases b with
  | true => rw [if_pos rfl]; exact h1 rfl
  | false => rw [if_neg Bool.false_ne_true]; exact h2 rfl
theorem r_ixL {k : Int} (h : SqL K H p xs) (ha : atI xs k = some v) (q : Q v H) : rIxL K (.ref p) (.int k) H Q := ⟨p, xs, k, v, rfl, rfl, h, ha, q⟩
theorem r_ixT {k : Int} (h : SqT K H p xs) (ha : atI xs k = some v) (q : Q v H) : rIxT K (.ref p) (.int k) H Q := ⟨p, xs, k, v, rfl, rfl, h, ha, q⟩
theorem r_ixS {k : Int} {z : Str} {n : Nat} (hl : z.length ≤ sizeLine) (ha : atI z.cps.toList k = some n) (q : Q (.str ⟨#[n]⟩) H) : rIxS (.str z) (.int k) H Q := ⟨z, k, n, rfl, rfl, hl, ha, q⟩
theorem r_test {Q : Bool → Hp → Prop} (h : te σ H fun x H1 => ∃ k, x = .bl k ∧ Q k H1) : tTest te σ H Q := h
theorem r_tB {Q : Bool → Hp → Prop} (h : te σ H fun x H1 => ∃ k, x = .bl k ∧ Q k H1) : tB te σ H Q := h
theorem r_bl {b : Bool} {P : Bool → Prop} (q : P b) : ∃ k, V.bl b = .bl k ∧ P k := ⟨b, rfl, q⟩
theorem r_tand {Q : Bool → Hp → Prop} (h : c σ H fun b H1 => if b = true then d σ H1 Q else Q false H1) : tAnd c d σ H Q := h
theorem r_tor {Q : Bool → Hp → Prop} (h : c σ H fun b H1 => if b = true then Q true H1 else d σ H1 Q) : tOr c d σ H Q := h
theorem r_tnot {Q : Bool → Hp → Prop} (h : c σ H fun b H1 => Q (!b) H1) : tNot c σ H Q := h
theorem r_andV (h : ta σ H fun x H1 => ∃ c, x = .bl c ∧ if c = true then tb σ H1 Q else Q (.bl false) H1) : tAndV ta tb σ H Q := h
theorem r_orV (h : ta σ H fun x H1 => ∃ c, x = .bl c ∧ if c = true then Q (.bl true) H1 else tb σ H1 Q) : tOrV ta tb σ H Q := h
theorem r_notV (h : ta σ H fun x H1 => ∃ c, x = .bl c ∧ Q (.bl (!c)) H1) : tNotV ta σ H Q := h
theorem r_tif (h : c σ H fun b H1 => if b = true then ta σ H1 Q else tb σ H1 Q) : tIf c ta tb σ H Q := h
theorem r_cb {f : List V → Hp → VK → Prop} (h : ts σ H fun vs H1 => f vs H1 Q) : tCB f ts σ H Q := h
theorem r_cons {tr : TA} {Q : List V → Hp → Prop} (h : ta σ H fun x H1 => tr σ H1 fun xs H2 => Q (x :: xs) H2) : tCons ta tr σ H Q := h
theorem r_nil {Q : List V → Hp → Prop} (q : Q [] H) : tNil σ H Q := q
theorem r_call {sp : Sp} {dvs : List V} {E : XK} (h : ts σ H fun vs H1 => sp (vs ++ dvs) H1 Q E) : tCall sp dvs E ts σ H Q := h
theorem r_lst (h : ts σ H fun xs H1 => xs.length ≤ sizeLine ∧ ∀ p H2, New H1 p (.lst xs) H2 → Q (.ref p) H2) : tLst ts σ H Q := by
  have go : ∀ {A B : List V → Hp → Prop}, (∀ xs H1, A xs H1 → B xs H1) → A = A := fun _ => rfl
  exact (show tLst ts σ H Q from (show ts σ H (fun xs H1 => xs.length ≤ sizeLine ∧ ∀ p, H1 p = none → Q (.ref p) (upd H1 p (.lst xs))) from by
    have e : (fun (xs : List V) (H1 : Hp) => xs.length ≤ sizeLine ∧ ∀ p H2, New H1 p (.lst xs) H2 → Q (.ref p) H2) = (fun xs H1 => xs.length ≤ sizeLine ∧ ∀ p, H1 p = none → Q (.ref p) (upd H1 p (.lst xs))) := by
      funext xs H1
      refine propext ⟨fun ⟨a, b⟩ => ⟨a, fun p hp => b p _ (new_upd hp)⟩, fun ⟨a, b⟩ => ⟨a, fun p H2 n => ?_⟩⟩
      have e2 : H2 = upd H1 p (.lst xs) := by
        funext b
        by_cases hb : b = p
        · rw [hb, n.now, upd_same]
        · rw [n.off b hb, upd_ne hb]
      rw [e2]
      exact b p n.was
    rw [← e]
    exact h))
theorem r_tup (h : ts σ H fun xs H1 => xs.length ≤ sizeLine ∧ ∀ p H2, New H1 p (.tup xs) H2 → Q (.ref p) H2) : tTup ts σ H Q := by
  show ts σ H (fun xs H1 => xs.length ≤ sizeLine ∧ ∀ p, H1 p = none → Q (.ref p) (upd H1 p (.tup xs)))
  have e : (fun (xs : List V) (H1 : Hp) => xs.length ≤ sizeLine ∧ ∀ p H2, New H1 p (.tup xs) H2 → Q (.ref p) H2) = (fun xs H1 => xs.length ≤ sizeLine ∧ ∀ p, H1 p = none → Q (.ref p) (upd H1 p (.tup xs))) := by
    funext xs H1
    refine propext ⟨fun ⟨a, b⟩ => ⟨a, fun p hp => b p _ (new_upd hp)⟩, fun ⟨a, b⟩ => ⟨a, fun p H2 n => ?_⟩⟩
    have e2 : H2 = upd H1 p (.tup xs) := by
      funext b
      by_cases hb : b = p
      · rw [hb, n.now, upd_same]
      · rw [n.off b hb, upd_ne hb]
    rw [e2]
    exact b p n.was
  rw [← e]
  exact h
theorem r_len {P : Hp → Prop} {o : List V → HO} (hl : xs.length ≤ sizeLine) (h : ∀ p H2, New H p (o xs) H2 → Q (.ref p) H2) : xs.length ≤ sizeLine ∧ ∀ p H2, New H p (o xs) H2 → Q (.ref p) H2 := ⟨hl, h⟩
/-! ### built-ins -/
theorem r_bm {T : String} {f : V → List V → Hp → VK → Prop} (h : te σ H fun x H1 => tyV K T x H1 ∧ ts σ H1 fun xs H2 => f x xs H2 Q) : tBM K T f te ts σ H Q := h
theorem r_bm0 {T : String} {f : V → List V → Hp → VK → Prop} (h : te σ H fun x H1 => tyV K T x H1 ∧ f x [] H1 Q) : tBM0 K T f te σ H Q := h
theorem r_tyS {z : Str} {P : Prop} (h : P) : tyV K "str" (.str z) H ∧ P := ⟨rfl, h⟩
theorem r_tyL {P : Prop} (hp : SqL K H p xs) (h : P) : tyV K "list" (.ref p) H ∧ P := ⟨.inl ⟨rfl, xs, hp⟩, h⟩
theorem r_app (hp : H p = some (.lst xs)) (hz : xs.length < sizeLine) (h : ∀ H', Wr H p (.lst (xs ++ [y])) H' → Q .non H') : rAppend (.ref p) [y] H Q := ⟨p, xs, y, rfl, rfl, hp, hz, h _ wr_upd⟩
theorem r_popAt {k : Int} {n : Nat} (hp : H p = some (.lst xs)) (h0 : -(2 ^ 63) ≤ k) (h1 : k < 2 ^ 63) (hk : seqIndex? k xs.length = some n) (hy : xs[n]? = some y) (h : ∀ H', Wr H p (.lst (xs.eraseIdx n)) H' → Q y H') : rPopAt (.ref p) [.int k] H Q :=
  ⟨p, xs, k, n, y, rfl, rfl, hp, h0, h1, hk, hy, h _ wr_upd⟩
theorem r_nd {d1 d2 : PyData} (h1 : Dp K H x d1) (h2 : Dp K H y d2) (s1 : SeqAt.shaped d1 = true) (s2 : SeqAt.shaped d2 = true) (q : Q (.bl (!PyData.eqv d1 d2)) H) : rNeD K x y H Q := ⟨d1, d2, h1, h2, s1, s2, q⟩
theorem r_ed {d1 d2 : PyData} (h1 : Dp K H x d1) (h2 : Dp K H y d2) (s1 : SeqAt.shaped d1 = true) (s2 : SeqAt.shaped d2 = true) (q : Q (.bl (PyData.eqv d1 d2)) H) : rEqD K x y H Q := ⟨d1, d2, h1, h2, s1, s2, q⟩
end
/-! ### texts by their codes -/
section
open SX
variable {K : PySem.W.Frag} {σ : L2.St} {H : Hp} {Q : VK} {l m : List Nat} {c : Nat}
theorem r_sl {r : V → Option Int → Option Int → Hp → VK → Prop} {te : TE} {tl th : TO} (h : te σ H fun x H1 => tl σ H1 fun l H2 => th σ H2 fun u H3 => r x l u H3 Q) : tSl r te tl th σ H Q := h
theorem r_part {t : TE} {P : Option Int → Hp → Prop} (h : t σ H fun x H1 => ∃ i, x = .int i ∧ P (some i) H1) : tPart t σ H P := h
theorem r_nopart {P : Option Int → Hp → Prop} (h : P none H) : tNoPart σ H P := h
theorem r_slSS {lo hi : Int} (p q : Nat) (e1 : lo = p) (e2 : hi = q) (hl : l.length ≤ sizeLine) (hq : q ≤ l.length) (h : Q (.str (S ((l.drop p).take (q - p)))) H) : rSlS (.str (S l)) (some lo) (some hi) H Q := by
  subst e1 e2
  refine ⟨S l, rfl, by rw [S_len]; exact hl, ?_⟩
  have e : cutS (S l) (some (p : Int)) (some (q : Int)) = S ((l.drop p).take (q - p)) := by
    unfold cutS
    rw [HT.sIx_nat, HT.sIx_nat, S_len, Nat.min_eq_left hq]
    by_cases hp : p ≤ l.length
    · rw [Nat.min_eq_left hp]
    · rw [Nat.min_eq_right (by omega), List.drop_eq_nil_of_le (Nat.le_refl _), List.drop_eq_nil_of_le (by omega)]
      simp
  rw [e]
  exact h
theorem r_slFrom {lo : Int} (p : Nat) (e1 : lo = p) (hl : l.length ≤ sizeLine) (h : Q (.str (S (l.drop p))) H) : rSlS (.str (S l)) (some lo) none H Q := by
  subst e1
  refine ⟨S l, rfl, by rw [S_len]; exact hl, ?_⟩
  rw [C8.cutS_slice, slice_from (by omega)]
  exact h
theorem r_slTo {hi : Int} (q : Nat) (e2 : hi = q) (hl : l.length ≤ sizeLine) (h : Q (.str (S (l.take q))) H) : rSlS (.str (S l)) none (some hi) H Q := by
  subst e2
  refine ⟨S l, rfl, by rw [S_len]; exact hl, ?_⟩
  rw [C8.cutS_slice, slice_to (by omega)]
  exact h
theorem r_inS {P : Nat → Str → Prop} (q : P c (S l)) : ∃ c' z, V.str ⟨#[c]⟩ = V.str ⟨#[c']⟩ ∧ V.str (S l) = V.str z ∧ P c' z := ⟨c, S l, rfl, rfl, q⟩
theorem r_lenS {P : Str → Prop} (hl : l.length ≤ sizeLine) (q : P (S l)) : ∃ z, [V.str (S l)] = [V.str z] ∧ z.length ≤ sizeLine ∧ P z := ⟨S l, rfl, by rw [S_len]; exact hl, q⟩
theorem r_ixSS {k : Int} (n : Nat) (e : k = n) (hl : l.length ≤ sizeLine) (h : l[n]? = some c) (q : Q (.str (S [c])) H) : rIxS (.str (S l)) (.int k) H Q := by
  subst e
  refine r_ixS (by rw [S_len]; exact hl) ?_ q
  show atI l (n : Int) = some c
  have hn : n < l.length := by
    rcases Nat.lt_or_ge n l.length with h1 | h1
    · exact h1
    · rw [List.getElem?_eq_none h1] at h
      cases h
  have e : ixN l.length (n : Int) = some n := by
    unfold ixN
    rw [if_pos (by omega), if_pos (by omega), Int.toNat_natCast]
  unfold atI
  rw [e]
  exact h
theorem S_eq_iff {a b : List Nat} : (V.str (S a) = V.str (S b)) ↔ a = b := ⟨fun h => S_inj (by cases h; rfl), fun h => by rw [h]⟩
theorem r_eqSS (q : Q (.bl (decide (l = m))) H) : rEq (.str (S l)) (.str (S m)) H Q := ⟨rfl, by
  have e : decide (V.str (S l) = V.str (S m)) = decide (l = m) := by
    by_cases h : l = m
    · rw [decide_eq_true h, decide_eq_true (S_eq_iff.mpr h)]
    · rw [decide_eq_false h, decide_eq_false (fun h2 => h (S_eq_iff.mp h2))]
  rw [e]; exact q⟩
theorem r_neSS (q : Q (.bl (!decide (l = m))) H) : rNe (.str (S l)) (.str (S m)) H Q := ⟨rfl, by
  have e : decide (V.str (S l) = V.str (S m)) = decide (l = m) := by
    by_cases h : l = m
    · rw [decide_eq_true h, decide_eq_true (S_eq_iff.mpr h)]
    · rw [decide_eq_false h, decide_eq_false (fun h2 => h (S_eq_iff.mp h2))]
  rw [e]; exact q⟩
theorem r_catS {a b : List Nat} {P : Str → Str → Prop} (hl : a.length + b.length ≤ sizeLine) (q : P (S a) (S b)) : ∃ i j, V.str (S a) = V.str i ∧ V.str (S b) = V.str j ∧ i.length + j.length ≤ sizeLine ∧ P i j := ⟨S a, S b, rfl, rfl, by rw [S_len, S_len]; exact hl, q⟩
end
/-- what an expression tells, told once -/
theorem cutE {te : TE} {σ : L2.St} {H : Hp} {Q : VK} (C : V → Prop) (h : ∀ Q' : VK, (∀ x, C x → Q' x H) → te σ H Q') (k : ∀ x, C x → Q x H) : te σ H Q := h Q k
/-! ### comprehensions -/
section
variable {J : It} {n : Nat} {G : Hp → Prop} {Y : Nat → Hp → V → Hp → Prop} {g : TG} {tt : TT} {te : TE} {vs : List Nat} {σ : L2.St} {H1 : Hp} {Q : VK}
/-- what a comprehension wishes of what it goes over -/
def LcG (J : It) (g : TG) (tt : TT) (te : TE) (vs : List Nat) (σ : L2.St) (Q : VK) (H1 : Hp) : Prop := ∀ D, H1 D = none → ∃ W : Nat → Nat → Hp → Prop, (∃ m, W 0 m (upd H1 D (.lst []))) ∧ ∀ i m H, W i m H →
  (J.stop i H ∧ Q (.ref D) H) ∨ (J.go i H ∧ ∃ Nx : Hp → Prop, (∀ H', Nx H' → ∃ m', m' < m ∧ W (i + 1) m' H') ∧ ∀ x H', J.yld i H x H' → g x (wipe σ vs) H' fun σ2 H2 => wipe σ2 vs = wipe σ vs ∧ tt σ2 H2 fun b H3 =>
    if b = true then te σ2 H3 fun y H4 => ∃ acc, H4 D = some (.lst acc) ∧ acc.length < sizeLine ∧ Nx (upd H4 D (.lst (acc ++ [y]))) else Nx H3)
/-- the new list at D as it stands before turn i -/
def LcAt (Pv : Addr → Nat → List V → Hp → Prop) (D : Addr) (i : Nat) (H : Hp) : Prop := ∃ acc, acc.length ≤ i ∧ H D = some (.lst acc) ∧ Pv D i acc H
theorem lc_in (w : Walk J n G Y) (Pv : Addr → Nat → List V → Hp → Prop) (h0 : ∀ D H, New H1 D (.lst []) H → Pv D 0 [] H)
    (hG : ∀ D i acc H, H1 D = none → H D = some (.lst acc) → Pv D i acc H → G H)
    (hs : ∀ D i acc x H H', H1 D = none → i < n → acc.length ≤ i → H D = some (.lst acc) → Pv D i acc H → Y i H x H' → g x (wipe σ vs) H' fun σ2 H2 => wipe σ2 vs = wipe σ vs ∧ tt σ2 H2 fun b H3 =>
      if b = true then te σ2 H3 fun y H4 => ∃ acc, H4 D = some (.lst acc) ∧ acc.length < sizeLine ∧ LcAt Pv D (i + 1) (upd H4 D (.lst (acc ++ [y]))) else LcAt Pv D (i + 1) H3)
    (hd : ∀ D acc H, H1 D = none → acc.length ≤ n → H D = some (.lst acc) → Pv D n acc H → Q (.ref D) H) : LcG J g tt te vs σ Q H1 := by
  intro D hD
  exact lc_it w (fun i H => LcAt Pv D i H) ⟨[], Nat.le_refl _, upd_same, h0 D _ (new_upd hD)⟩ (fun i H _ ⟨acc, _, h, p⟩ => hG D i acc H hD h p) (fun i x H H' hi ⟨acc, hl, h, p⟩ y => hs D i acc x H H' hD hi hl h p y) (fun H ⟨acc, hl, h, p⟩ => hd D acc H hD hl h p)
theorem lc_add {Pv : Addr → Nat → List V → Hp → Prop} {D : Addr} {i : Nat} {acc : List V} {y : V} {H : Hp} (h : H D = some (.lst acc)) (hl : acc.length ≤ i) (hi : i < sizeLine) (p : ∀ H', Wr H D (.lst (acc ++ [y])) H' → Pv D (i + 1) (acc ++ [y]) H') :
    ∃ acc, H D = some (.lst acc) ∧ acc.length < sizeLine ∧ LcAt Pv D (i + 1) (upd H D (.lst (acc ++ [y]))) := ⟨acc, h, Nat.lt_of_le_of_lt hl hi, acc ++ [y], by simp; omega, upd_same, p _ wr_upd⟩
theorem lc_skip {Pv : Addr → Nat → List V → Hp → Prop} {D : Addr} {i : Nat} {acc : List V} {H : Hp} (h : H D = some (.lst acc)) (hl : acc.length ≤ i) (p : Pv D (i + 1) acc H) : LcAt Pv D (i + 1) H := ⟨acc, Nat.le_succ_of_le hl, h, p⟩
theorem r_lc {wi : TI} {H : Hp} (h : wi σ H fun J H1 => LcG J g tt te vs σ Q H1) : tLc wi g tt te vs σ H Q := h
theorem r_zipA {K : PySem.W.Frag} {ta : TA} {H : Hp} {R : It → Hp → Prop} (h : ta σ H fun vs H1 => ∃ a b xs ys, vs = [.ref a, .ref b] ∧ ((SqL K H1 a xs ∧ SqL K H1 b ys ∧ R (Itz K a b) H1) ∨ (SqT K H1 a xs ∧ SqT K H1 b ys ∧ R (RZ.ItzT K a b) H1))) : RZ.iZipA K ta σ H R := h
theorem r_liIt {H : Hp} (h : te σ H fun x H1 => LiI.rItemsL x H1 Q) : LiI.tListItems te σ H Q := h
theorem r_ifnf {A B : Prop} (h : A) : if (!false) = true then A else B := h
theorem r_ifnt {A B : Prop} (h : B) : if (!true) = true then A else B := by
  rw [if_neg (by decide)]
  exact h
/-- what a for wishes of what it goes over -/
def ForG (J : It) (g : TG) (tb : TS) (D : Ends) (σ : L2.St) (H1 : Hp) : Prop := ∃ W : Nat → Nat → L2.St → Hp → Prop, (∃ m, W 0 m σ H1) ∧ ∀ i m σ H, W i m σ H →
  (J.stop i H ∧ D.nx σ H) ∨ (J.go i H ∧ ∃ N : L2.St → Hp → Prop, (∀ σ' H', N σ' H' → ∃ m', m' < m ∧ W (i + 1) m' σ' H') ∧ ∀ x H', J.yld i H x H' → g x σ H' fun σ2 H2 => tb { D with nx := N, ct := N, bk := D.nx } σ2 H2)
theorem r_for {wi : TI} {tb : TS} {D : Ends} {H : Hp} (h : wi σ H fun J H1 => ForG J g tb D σ H1) : tFor wi g tb D σ H := h
theorem for_in {tb : TS} {D : Ends} {H : Hp} (w : Walk J n G Y) (Pv : Nat → L2.St → Hp → Prop) (h0 : Pv 0 σ H) (hG : ∀ i σ H, i ≤ n → Pv i σ H → G H)
    (hs : ∀ i x σ H H', i < n → Pv i σ H → Y i H x H' → g x σ H' fun σ2 H2 => tb { D with nx := Pv (i + 1), ct := Pv (i + 1), bk := D.nx } σ2 H2) (hd : ∀ σ H, Pv n σ H → D.nx σ H) : ForG J g tb D σ H := for_it w Pv h0 hG hs hd
theorem r_iList {K : PySem.W.Frag} {H : Hp} {R : It → Hp → Prop} (h : te σ H fun x H1 => ∃ a, x = .ref a ∧ (∃ xs, SqL K H1 a xs) ∧ R (Itl K a) H1) : iList K te σ H R := h
theorem r_iTup {K : PySem.W.Frag} {H : Hp} {R : It → Hp → Prop} (h : te σ H fun x H1 => ∃ a, x = .ref a ∧ (∃ xs, SqT K H1 a xs) ∧ R (Itt K a) H1) : iTup K te σ H R := h
theorem r_iStr {H : Hp} {R : It → Hp → Prop} (h : te σ H fun v H1 => ∃ x, v = .str x ∧ R (Its x) H1) : iStr te σ H R := h
theorem r_iEnumS {ta : TA} {H : Hp} {R : It → Hp → Prop} (h : ta σ H fun vs H1 => ∃ x, vs = [.str x] ∧ R (Itse x) H1) : iEnumS ta σ H R := h
theorem r_iRng1 {ta : TA} {H : Hp} {R : It → Hp → Prop} (h : ta σ H fun vs H1 => ∃ j : Int, vs = [.int j] ∧ -(2 ^ 62) ≤ j ∧ j < 2 ^ 62 ∧ R (Itr 0 j.toNat) H1) : iRng1 ta σ H R := h
theorem r_iRng2 {ta : TA} {H : Hp} {R : It → Hp → Prop} (h : ta σ H fun vs H1 => ∃ i j : Int, vs = [.int i, .int j] ∧ (-(2 ^ 62) ≤ i ∧ i < 2 ^ 62 ∧ -(2 ^ 62) ≤ j ∧ j < 2 ^ 62) ∧ R (Itr i (j - i).toNat) H1) : iRng2 ta σ H R := h
theorem r_callS {ta : TA} {sp : Sp} {E : L2.St → XK} {H : Hp} (h : ta σ H fun vs H1 => sp vs H1 Q (E σ)) : tCallS sp E ta σ H Q := h
theorem r_iKeys {H : Hp} {R : It → Hp → Prop} (h : te σ H fun x H1 => ∃ d o, x = .ref d ∧ ((∃ kvs, H1 d = some (.frz o (.dK kvs)) ∧ R (Itk d o kvs) H1) ∨ ∃ kvs, H1 d = some (.frz o (.dT kvs)) ∧ R (Itkt d o kvs) H1)) : iKeys te σ H R := h
theorem r_tyes {P : Bool → Hp → Prop} {H : Hp} (h : P true H) : tYes σ H P := h
theorem r_wipe {A : Prop} {s2 s : L2.St} (e : s2 = s) (h : A) : s2 = s ∧ A := ⟨e, h⟩
end
theorem upd_of_wr {H H' : Hp} {p : Addr} {o : HO} (w : Wr H p o H') : H' = upd H p o := by
  funext b
  by_cases hb : b = p
  · rw [hb, w.now, upd_same]
  · rw [w.off b hb, upd_ne hb]
theorem upd_of_new {H H' : Hp} {p : Addr} {o : HO} (w : New H p o H') : H' = upd H p o := upd_of_wr ⟨w.now, w.off⟩
/-- a cell laid since H may be written: what H holds stays -/
theorem same_wr {H H' H'' : Hp} {p : Addr} {o : HO} (s : Same H H') (w : Wr H' p o H'') (hp : H p = none) : Same H H'' := fun b u e => by
  rw [w.off b (ne_of_none e hp)]
  exact s b u e
theorem same_upd_new {H H' : Hp} {T : Addr} {o : HO} (hT : H T = none) (e : H' = upd H T o) : Same H H' ∧ H' T = some o := by
  subst e
  exact ⟨(new_upd hT).same, upd_same⟩
end Lw
end
section
set_option maxHeartbeats 2000000
/-! Lw2: the laws' stream of draws: what a draw leaves and gives. -/
/-- one step of a reading that needs no choice; all of them -/
local macro_rules | `(tactic| walk_at "r") => `(tactic| (first
  | (with_reducible refine Lw.r_seq ?_) | (with_reducible refine Lw.r_asg ?_) | (with_reducible refine Lw.r_ret ?_) | (with_reducible refine Lw.r_retN ?_) | (with_reducible refine Lw.r_drop ?_)
  | (with_reducible refine Lw.r_name ?_) | (with_reducible refine Lw.r_gsub ?_) | (with_reducible refine Lw.r_gcons ?_) | (with_reducible refine Lw.r_gnil ?_)
  | (with_reducible refine Lw.r_next ?_) | (with_reducible refine Lw.r_cont ?_) | (with_reducible refine Lw.r_brk ?_) | (with_reducible refine Lw.r_ifS ?_) | (with_reducible refine Lw.r_par ?_) | (with_reducible refine Lw.r_two ?_) | (with_reducible refine Lw.r_par3 ?_) | (with_reducible refine Lw.r_three ?_)
  | (with_reducible refine Lw.r_var (by with_unfolding_all rfl) ?_) | (with_reducible refine Lw.r_c ?_) | (with_reducible refine Lw.r_op ?_) | (with_reducible refine Lw.r_un ?_)
  | (with_reducible refine Lw.r_I0 ?_) | (with_reducible refine Lw.r_test ?_) | (with_reducible refine Lw.r_tB ?_) | (with_reducible refine Lw.r_bl ?_)
  | (with_reducible refine Lw.r_tand ?_) | (with_reducible refine Lw.r_tor ?_) | (with_reducible refine Lw.r_tnot ?_) | (with_reducible refine Lw.r_andV ?_) | (with_reducible refine Lw.r_orV ?_) | (with_reducible refine Lw.r_notV ?_) | (with_reducible refine Lw.r_tif ?_)
  | (with_reducible refine Lw.r_cb ?_) | (with_reducible refine Lw.r_cons ?_) | (with_reducible refine Lw.r_nil ?_) | (with_reducible refine Lw.r_call ?_) | (with_reducible refine Lw.r_lst ?_) | (with_reducible refine Lw.r_tup ?_)
  | (with_reducible refine Lw.r_bm ?_) | (with_reducible refine Lw.r_bm0 ?_) | (with_reducible refine Lw.r_tyS ?_)
  | (with_reducible refine Lw.r_ixL (L2.SqL.of (by assumption)) (by with_unfolding_all rfl) ?_) | (with_reducible refine Lw.r_ixT (L2.SqT.of (by assumption)) (by with_unfolding_all rfl) ?_)
  | (with_reducible refine Lw.r_eqI ?_) | (with_reducible refine Lw.r_neI ?_) | (with_reducible refine Lw.r_eqS ?_) | (with_reducible refine Lw.r_neS ?_) | (with_reducible refine Lw.r_eqB ?_) | (with_reducible refine Lw.r_neB ?_)
  | (with_reducible refine ⟨_, fun _ _ h => h, ?_⟩) | (with_reducible refine ⟨_, rfl, ?_⟩) | (with_reducible refine Or.inl ⟨_, rfl, ?_⟩)
  | (with_reducible refine L2.iteT ?_) | (with_reducible refine L2.iteF ?_)))
local macro_rules | `(tactic| walk_at "rr") => `(tactic| ((try dsimp only []); (repeat (walk_at "r"; (try dsimp only [])))))

namespace Lw
open PySem L2
/-- the stream at a, its cells at b; at least n draws may come -/
def StreamAt (H : Hp) (a b : Addr) (n : Nat) : Prop := ∃ (cs : List Int) (c t s : Int), a ≠ b ∧ H a = some (.lst [.ref b, .int c, .int t, .int s]) ∧ H b = some (.lst (cs.map V.int)) ∧ 0 ≤ c ∧ 0 ≤ t ∧ t + (n : Int) ≤ 1000000000000 ∧ 0 ≤ s ∧ s < 2147483629
theorem StreamAt.le {H : Hp} {a b : Addr} {n m : Nat} (h : StreamAt H a b n) (hm : m ≤ n) : StreamAt H a b m := by
  obtain ⟨cs, c, t, s, h1, h2, h3, h4, h5, h6, h7, h8⟩ := h
  exact ⟨cs, c, t, s, h1, h2, h3, h4, h5, by omega, h7, h8⟩
theorem StreamAt.at {H H' : Hp} {a b : Addr} {n : Nat} (h : StreamAt H a b n) (k : Same H H') : StreamAt H' a b n := by
  obtain ⟨cs, c, t, s, h1, h2, h3, h4⟩ := h
  exact ⟨cs, c, t, s, h1, k _ _ h2, k _ _ h3, h4⟩
/-- the two objects of the stream -/
def Two (a b : Addr) : Addr → Prop := fun p => p = a ∨ p = b
def spDraw : Sp := fun vs H Q _ => ∃ (a b : Addr) (m : Int) (n : Nat), vs = [.ref a, .int m] ∧ StreamAt H a b (n + 1) ∧ 0 < m ∧ m < 1000000 ∧ ∀ (d : Int) (H' : Hp), 0 ≤ d → d < m → Kp (Two a b) H H' → StreamAt H' a b n → Q (.int d) H'
theorem ints_dp {K : PySem.W.Frag} {H : Hp} : ∀ ns : List Int, DpAll K H (ns.map V.int) (ns.map PyData.int)
  | [] => .nil
  | n :: r => .cons (.int n) (ints_dp r)
theorem ints_shaped (ns : List Int) : SeqAt.shaped (.list (ns.map PyData.int)) = true := by
  have h1 : ∀ ns : List Int, PyData.canLayAll0 (ns.map PyData.int) = true := by
    intro ns
    induction ns with
    | nil => rfl
    | cons n r ih => show (true && PyData.canLayAll0 (r.map PyData.int)) = true; rw [ih]; rfl
  have h2 : ∀ ns : List Int, PyData.depthAll (ns.map PyData.int) ≤ 1 := by
    intro ns
    induction ns with
    | nil => exact Nat.zero_le _
    | cons n r ih => simp only [List.map_cons, PyData.depthAll, PyData.depth]; omega
  unfold SeqAt.shaped
  have h3 := h2 ns
  have h4 : PyData.canLay0 (.list (ns.map PyData.int)) = true := h1 ns
  have h5 : PyData.depth (.list (ns.map PyData.int)) ≤ 64 := by
    show PyData.depthAll (ns.map PyData.int) + 1 ≤ 64
    omega
  rw [h4, decide_eq_true h5]
  rfl
def t_draw (K : PySem.W.Frag) : TS := tSeq (tAsg (tOp (rI0 fun i j => V.int (i + j)) (tOp (rIxL K) (tVar 0) (tC (V.int 2))) (tC (V.int 1))) (gSub (tVar 0) (tC (V.int 2)) rSetL)) (tSeq (tWhile (tAnd (tTest (tOp rEq (tOp (rIxL K) (tVar 0) (tC (V.int 1))) (tC (V.int 0)))) (tTest (tOp (rNeD K) (tOp (rIxL K) (tVar 0) (tC (V.int 0))) (tLst tNil)))) (tSeq (tAsg (tCB (fun xs H Q => ∃ i, xs = [V.int i] ∧ Q (V.int (if i < 0 then -i else i)) H) (tCons (tBM K "list" rPopAt (tOp (rIxL K) (tVar 0) (tC (V.int 0))) (tCons (tC (V.int 0)) tNil)) tNil)) (gName 2)) (tSeq (tAsg (tOp (rI (fun x j => 0 < j) fun i j => V.int (i % j)) (tCB (fun xs H Q => (∃ i, xs = [V.int i] ∧ Q (V.int i) H) ∨ ∃ k, xs = [V.bl k] ∧ Q (V.int (if k = true then 1 else 0)) H) (tCons (tOp (rI0 fun i j => V.int (i + j)) (tOp (rI0 fun i j => V.int (i + j)) (tOp (rI CMul fun i j => V.int (i * j)) (tOp (rIxL K) (tVar 0) (tC (V.int 3))) (tC (V.int 6151))) (tVar 2)) (tC (V.int 7))) tNil)) (tC (V.int 2147483629))) (gSub (tVar 0) (tC (V.int 3)) rSetL)) (tAsg (tIf (tTest (tOp (rI0 fun i j => V.bl (decide (j ≤ i))) (tVar 2) (tOp (rI CPow fun i j => V.int (i ^ j.toNat)) (tC (V.int 10)) (tC (V.int 18))))) (tVar 2) (tC (V.int 0))) (gSub (tVar 0) (tC (V.int 1)) rSetL))))) (tSeq (tIfS (tTest (tOp (rI0 fun i j => V.bl (decide (j < i))) (tOp (rIxL K) (tVar 0) (tC (V.int 1))) (tC (V.int 0)))) (tSeq (tAsg (tOp (rI (fun x j => 0 < j) fun i j => V.int (i % j)) (tCB (fun xs H Q => (∃ i, xs = [V.int i] ∧ Q (V.int i) H) ∨ ∃ k, xs = [V.bl k] ∧ Q (V.int (if k = true then 1 else 0)) H) (tCons (tOp (rIxL K) (tVar 0) (tC (V.int 1))) tNil)) (tVar 1)) (gName 3)) (tSeq (tAsg (tOp (rI CDiv fun i j => V.int (i / j)) (tOp (rIxL K) (tVar 0) (tC (V.int 1))) (tVar 1)) (gSub (tVar 0) (tC (V.int 1)) rSetL)) (tRet (tVar 3)))) tNext) (tSeq (tAsg (tOp (rI (fun x j => 0 < j) fun i j => V.int (i % j)) (tCB (fun xs H Q => (∃ i, xs = [V.int i] ∧ Q (V.int i) H) ∨ ∃ k, xs = [V.bl k] ∧ Q (V.int (if k = true then 1 else 0)) H) (tCons (tOp (rI CPow fun i j => V.int (i ^ j.toNat)) (tOp (rI0 fun i j => V.int (i + j)) (tOp (rI0 fun i j => V.int (i + j)) (tOp (rIxL K) (tVar 0) (tC (V.int 3))) (tOp (rI CMul fun i j => V.int (i * j)) (tC (V.int 8191)) (tOp (rIxL K) (tVar 0) (tC (V.int 2))))) (tC (V.int 50021))) (tC (V.int 5))) tNil)) (tC (V.int 2147483587))) (gName 4)) (tRet (tOp (rI (fun x j => 0 < j) fun i j => V.int (i % j)) (tOp (rI (fun x j => 0 < j) fun i j => V.int (i % j)) (tCB (fun xs H Q => (∃ i, xs = [V.int i] ∧ Q (V.int i) H) ∨ ∃ k, xs = [V.bl k] ∧ Q (V.int (if k = true then 1 else 0)) H) (tCons (tOp (rI CPow fun i j => V.int (i ^ j.toNat)) (tOp (rI0 fun i j => V.int (i + j)) (tOp (rI0 fun i j => V.int (i + j)) (tOp (rI CMul fun i j => V.int (i * j)) (tVar 4) (tC (V.int 40009))) (tOp (rI CMul fun i j => V.int (i * j)) (tC (V.int 20011)) (tOp (rIxL K) (tVar 0) (tC (V.int 2))))) (tC (V.int 31))) (tC (V.int 3))) tNil)) (tC (V.int 1000000009))) (tVar 1))))))

theorem rd_draw (K : PySem.W.Frag) (vs : List V) (H : Hp) (Q : VK) (E : XK) (h : spDraw vs H Q E) : t_draw K { nx := fun _ H' => Q .non H', rt := Q } (start ["stream", "many", "cell", "digit", "mixed"] vs) H := by
  obtain ⟨a, b, m, n, rfl, ⟨cs, c, t, s, hab, hA, hB, c0, t0, tn, s0, s1⟩, m0, m1, k⟩ := h
  unfold t_draw
  walk_at "rr"
  refine r_setL hA (by rfl) fun H1 w1 => ?_
  have hA1 := w1.now
  have hB1 : H1 b = some (.lst (cs.map V.int)) := (w1.off b (Ne.symm hab)).trans hB
  walk_at "rr"
  refine r_whileX (fun l σ' H' => ∃ (cs : List Int) (c s : Int) (v2 : Option V), l = cs.length ∧ σ' = [some (.ref a), some (.int m), v2, none, none] ∧ H' a = some (.lst [.ref b, .int c, .int (t + 1), .int s]) ∧ H' b = some (.lst (cs.map V.int)) ∧
    0 ≤ c ∧ 0 ≤ s ∧ s < 2147483629 ∧ Kp (Two a b) H H')
    (fun σ' H' => ∃ (cs : List Int) (c s : Int) (v2 : Option V), σ' = [some (.ref a), some (.int m), v2, none, none] ∧ H' a = some (.lst [.ref b, .int c, .int (t + 1), .int s]) ∧ H' b = some (.lst (cs.map V.int)) ∧
    0 ≤ c ∧ 0 ≤ s ∧ s < 2147483629 ∧ Kp (Two a b) H H') cs.length ⟨cs, c, s, none, rfl, rfl, hA1, hB1, c0, s0, s1, w1.kp (Or.inl rfl)⟩ ?_ ?_
  · clear hA hB hA1 hB1
    rintro σ' H2 ⟨cs, c, s, v2, rfl, hA2, hB2, c0, s0, s1, kp⟩
    walk_at "rr"
    refine r_ite (fun hc => ?_) (fun hc => ?_)
    · walk_at "rr"
      refine r_I m0 ?_
      walk_at "rr"
      refine r_I ⟨m0, by omega⟩ ?_
      walk_at "rr"
      refine r_setL hA2 (by rfl) fun H3 w3 => ?_
      walk_at "rr"
      have hB3 : H3 b = some (.lst (cs.map V.int)) := (w3.off b (Ne.symm hab)).trans hB2
      refine k _ H3 (Int.emod_nonneg _ (by omega)) (Int.emod_lt_of_pos _ m0) (kp.trans (w3.kp (Or.inl rfl))) ⟨cs, c / m, t + 1, s, hab, w3.now, hB3, Int.ediv_nonneg c0 (by omega), by omega, by omega, s0, s1⟩
    · walk_at "rr"
      refine r_I (Or.inl (by omega)) ?_
      walk_at "rr"
      refine r_I ⟨by omega, by omega, by omega⟩ ?_
      walk_at "rr"
      refine r_I (by omega) ?_
      generalize hx : (s + 8191 * (t + 1) + 50021) ^ (Int.toNat 5) % 2147483587 = x
      have x0 : 0 ≤ x := by rw [← hx]; exact Int.emod_nonneg _ (by omega)
      have x1 : x < 2147483587 := by rw [← hx]; exact Int.emod_lt_of_pos _ (by omega)
      walk_at "rr"
      refine r_I (Or.inl (by omega)) ?_
      walk_at "rr"
      refine r_I (Or.inl (by omega)) ?_
      walk_at "rr"
      refine r_I ⟨by omega, by omega, by omega⟩ ?_
      walk_at "rr"
      refine r_I (by omega) ?_
      walk_at "rr"
      refine r_I m0 ?_
      exact k _ H2 (Int.emod_nonneg _ (by omega)) (Int.emod_lt_of_pos _ m0) kp ⟨cs, c, t + 1, s, hab, hA2, hB2, c0, by omega, by omega, s0, s1⟩
  · clear hA hB hA1 hB1
    intro hx
    rintro l σ' H2 ⟨cs, c, s, v2, rfl, rfl, hA2, hB2, c0, s0, s1, kp⟩
    walk_at "rr"
    refine r_ite (fun hc => ?_) (fun hc => ?_)
    · walk_at "rr"
      refine ⟨by decide, fun p H3 n3 => ?_⟩
      have hA3 := n3.same _ _ hA2
      have hB3 := n3.same _ _ hB2
      refine r_nd (.lst (SqL.of hB3) (ints_dp cs)) (.lst (SqL.of n3.now) .nil) (ints_shaped cs) (by decide +kernel) ?_
      walk_at "rr"
      cases cs with
      | nil =>
        refine iteF ?_
        exact hx _ _ ⟨[], c, s, v2, rfl, hA3, hB3, c0, s0, s1, kp.trans n3.kp⟩
      | cons z r =>
        refine iteT ?_
        walk_at "rr"
        refine r_tyL (SqL.of hB3) ?_
        walk_at "rr"
        refine r_popAt hB3 (by decide) (by decide) (n := 0) ((ixN_seq (n := (List.map V.int (z :: r)).length) (i := 0) (j := 0) (by unfold ixN; rw [if_pos (by decide), if_pos (by rw [List.length_map, List.length_cons]; omega)]; rfl)).1) (by rfl) fun H4 w4 => ?_
        walk_at "rr"
        have hA4 : H4 a = _ := (w4.off a hab).trans hA3
        have hB4 : H4 b = some (.lst (r.map V.int)) := w4.now
        generalize hy : (if z < 0 then -z else z) = y
        have y0 : 0 ≤ y := by rw [← hy]; split <;> omega
        walk_at "rr"
        refine r_I (Or.inr (by omega)) ?_
        walk_at "rr"
        refine r_I (by omega) ?_
        generalize hs2 : (s * 6151 + y + 7) % 2147483629 = s2
        have s20 : 0 ≤ s2 := by rw [← hs2]; exact Int.emod_nonneg _ (by omega)
        have s21 : s2 < 2147483629 := by rw [← hs2]; exact Int.emod_lt_of_pos _ (by omega)
        walk_at "rr"
        refine r_setL hA4 (by rfl) fun H5 w5 => ?_
        have hA5 := w5.now
        have hB5 : H5 b = some (.lst (r.map V.int)) := (w5.off b (Ne.symm hab)).trans hB4
        have k5 : Kp (Two a b) H H5 := ((kp.trans n3.kp).trans (w4.kp (Or.inr rfl))).trans (w5.kp (Or.inl rfl))
        walk_at "rr"
        refine r_I ⟨by omega, by omega, by omega⟩ ?_
        walk_at "rr"
        refine r_ite (fun hc => ?_) (fun hc => ?_)
        · walk_at "rr"
          refine r_setL hA5 (by rfl) fun H6 w6 => ?_
          walk_at "rr"
          exact ⟨r.length, Nat.lt_succ_self _, r, y, s2, _, rfl, rfl, w6.now, (w6.off b (Ne.symm hab)).trans hB5, y0, s20, s21, k5.trans (w6.kp (Or.inl rfl))⟩
        · walk_at "rr"
          refine r_setL hA5 (by rfl) fun H6 w6 => ?_
          walk_at "rr"
          exact ⟨r.length, Nat.lt_succ_self _, r, 0, s2, _, rfl, rfl, w6.now, (w6.off b (Ne.symm hab)).trans hB5, by omega, s20, s21, k5.trans (w6.kp (Or.inl rfl))⟩
    · refine iteF ?_
      exact hx _ _ ⟨cs, c, s, v2, rfl, hA2, hB2, c0, s0, s1, kp⟩
end Lw
end
section
set_option maxHeartbeats 4000000
/-! Lw3: data in the abstract heap: what is told of it by the laws' own copies, comparisons. -/
/-- one step of a reading that needs no choice; all of them -/
local macro_rules | `(tactic| walk_at "r") => `(tactic| (first
  | (with_reducible refine Lw.r_seq ?_) | (with_reducible refine Lw.r_asg ?_) | (with_reducible refine Lw.r_ret ?_) | (with_reducible refine Lw.r_retN ?_) | (with_reducible refine Lw.r_drop ?_)
  | (with_reducible refine Lw.r_name ?_) | (with_reducible refine Lw.r_gsub ?_) | (with_reducible refine Lw.r_gcons ?_) | (with_reducible refine Lw.r_gnil ?_)
  | (with_reducible refine Lw.r_next ?_) | (with_reducible refine Lw.r_cont ?_) | (with_reducible refine Lw.r_brk ?_) | (with_reducible refine Lw.r_ifS ?_) | (with_reducible refine Lw.r_par ?_) | (with_reducible refine Lw.r_two ?_) | (with_reducible refine Lw.r_par3 ?_) | (with_reducible refine Lw.r_three ?_)
  | (with_reducible refine Lw.r_var (by with_unfolding_all rfl) ?_) | (with_reducible refine Lw.r_c ?_) | (with_reducible refine Lw.r_op ?_) | (with_reducible refine Lw.r_un ?_)
  | (with_reducible refine Lw.r_I0 ?_) | (with_reducible refine Lw.r_test ?_) | (with_reducible refine Lw.r_tB ?_) | (with_reducible refine Lw.r_bl ?_)
  | (with_reducible refine Lw.r_tand ?_) | (with_reducible refine Lw.r_tor ?_) | (with_reducible refine Lw.r_tnot ?_) | (with_reducible refine Lw.r_andV ?_) | (with_reducible refine Lw.r_orV ?_) | (with_reducible refine Lw.r_notV ?_) | (with_reducible refine Lw.r_tif ?_)
  | (with_reducible refine Lw.r_cb ?_) | (with_reducible refine Lw.r_cons ?_) | (with_reducible refine Lw.r_nil ?_) | (with_reducible refine Lw.r_call ?_) | (with_reducible refine Lw.r_lc ?_) | (with_reducible refine Lw.r_tyes ?_) | (with_reducible refine Lw.r_zipA ?_) | (with_reducible refine Lw.r_liIt ?_) | (with_reducible refine Lw.r_lst ?_) | (with_reducible refine Lw.r_tup ?_)
  | (with_reducible refine Lw.r_bm ?_) | (with_reducible refine Lw.r_bm0 ?_) | (with_reducible refine Lw.r_tyS ?_)
  | (with_reducible refine Lw.r_ixL (L2.SqL.of (by assumption)) (by with_unfolding_all rfl) ?_) | (with_reducible refine Lw.r_ixT (L2.SqT.of (by assumption)) (by with_unfolding_all rfl) ?_)
  | (with_reducible refine Lw.r_eqI ?_) | (with_reducible refine Lw.r_neI ?_) | (with_reducible refine Lw.r_eqS ?_) | (with_reducible refine Lw.r_neS ?_) | (with_reducible refine Lw.r_eqB ?_) | (with_reducible refine Lw.r_neB ?_)
  | (with_reducible refine ⟨_, fun _ _ h => h, ?_⟩) | (with_reducible refine ⟨_, rfl, ?_⟩) | (with_reducible refine Or.inl ⟨_, rfl, ?_⟩)
  | (with_reducible refine Lw.r_ifnf ?_) | (with_reducible refine Lw.r_ifnt ?_) | (with_reducible refine L2.iteT ?_) | (with_reducible refine L2.iteF ?_)))
local macro_rules | `(tactic| walk_at "rr") => `(tactic| ((try dsimp only []); (repeat (walk_at "r"; (try dsimp only [])))))
namespace Lw
open PySem L2
/-! ### data -/
def keyD : Key → PyData
  | .inl i => .int i
  | .inr x => .str x
mutual
/-- v is the datum d; its lists and dicts lie in P -/
inductive Rp (P : Addr → Prop) (H : Hp) : V → PyData → Prop
  | non : Rp P H .non .none
  | bl (b : Bool) : Rp P H (.bl b) (.bool b)
  | int (i : Int) : Rp P H (.int i) (.int i)
  | str (x : Str) : Rp P H (.str x) (.str x)
  | lst {a : Addr} {xs : List V} {ds : List PyData} : H a = some (.lst xs) → P a → xs.length ≤ sizeLine → RpAll P H xs ds → Rp P H (.ref a) (.list ds)
  | tup {a : Addr} {xs : List V} {ds : List PyData} : H a = some (.tup xs) → xs.length ≤ sizeLine → RpAll P H xs ds → Rp P H (.ref a) (.tuple ds)
  | dct {a : Addr} {kvs : List (Key × V)} {ds : List (PyData × PyData)} : H a = some (.dK kvs) → P a → kvs.length ≤ sizeLine → (kvs.map (·.1)).Nodup → RpKv P H kvs ds → Rp P H (.ref a) (.dict ds)
inductive RpAll (P : Addr → Prop) (H : Hp) : List V → List PyData → Prop
  | nil : RpAll P H [] []
  | cons {v : V} {vs : List V} {d : PyData} {ds : List PyData} : Rp P H v d → RpAll P H vs ds → RpAll P H (v :: vs) (d :: ds)
inductive RpKv (P : Addr → Prop) (H : Hp) : List (Key × V) → List (PyData × PyData) → Prop
  | nil : RpKv P H [] []
  | cons {k : Key} {v : V} {kvs : List (Key × V)} {d : PyData} {ds : List (PyData × PyData)} : Rp P H v d → RpKv P H kvs ds → RpKv P H ((k, v) :: kvs) ((keyD k, d) :: ds)
end
/-- what Rp leans on stays -/
def Fix (P : Addr → Prop) (H H' : Hp) : Prop := ∀ a o, H a = some o → (P a ∨ ∃ xs, o = .tup xs) → H' a = some o
section
variable {P P' : Addr → Prop} {H H' : Hp}
mutual
theorem Rp.mono (f : Fix P H H') (hP : ∀ a, P a → P' a) : ∀ {v : V} {d : PyData}, Rp P H v d → Rp P' H' v d
  | _, _, .non => .non
  | _, _, .bl b => .bl b
  | _, _, .int i => .int i
  | _, _, .str x => .str x
  | _, _, .lst h p l r => .lst (f _ _ h (.inl p)) (hP _ p) l (RpAll.mono f hP r)
  | _, _, .tup h l r => .tup (f _ _ h (.inr ⟨_, rfl⟩)) l (RpAll.mono f hP r)
  | _, _, .dct h p l n r => .dct (f _ _ h (.inl p)) (hP _ p) l n (RpKv.mono f hP r)
theorem RpAll.mono (f : Fix P H H') (hP : ∀ a, P a → P' a) : ∀ {vs : List V} {ds : List PyData}, RpAll P H vs ds → RpAll P' H' vs ds
  | _, _, .nil => .nil
  | _, _, .cons h r => .cons (Rp.mono f hP h) (RpAll.mono f hP r)
theorem RpKv.mono (f : Fix P H H') (hP : ∀ a, P a → P' a) : ∀ {kvs : List (Key × V)} {ds : List (PyData × PyData)}, RpKv P H kvs ds → RpKv P' H' kvs ds
  | _, _, .nil => .nil
  | _, _, .cons h r => .cons (Rp.mono f hP h) (RpKv.mono f hP r)
end
theorem Same.fix (s : Same H H') : Fix P H H' := fun a o h _ => s a o h
theorem Rp.same {v : V} {d : PyData} (r : Rp P H v d) (s : Same H H') : Rp P H' v d := r.mono (Same.fix s) fun _ h => h
theorem RpAll.same {vs : List V} {ds : List PyData} (r : RpAll P H vs ds) (s : Same H H') : RpAll P H' vs ds := r.mono (Same.fix s) fun _ h => h
theorem RpKv.same {vs : List (Key × V)} {ds : List (PyData × PyData)} (r : RpKv P H vs ds) (s : Same H H') : RpKv P H' vs ds := r.mono (Same.fix s) fun _ h => h
theorem RpAll.length : ∀ {vs : List V} {ds : List PyData}, RpAll P H vs ds → vs.length = ds.length
  | _, _, .nil => rfl
  | _, _, .cons _ r => congrArg Nat.succ (RpAll.length r)
theorem RpKv.length : ∀ {vs : List (Key × V)} {ds : List (PyData × PyData)}, RpKv P H vs ds → vs.length = ds.length
  | _, _, .nil => rfl
  | _, _, .cons _ r => congrArg Nat.succ (RpKv.length r)
theorem RpAll.get : ∀ {vs : List V} {ds : List PyData} {i : Nat} {v : V}, RpAll P H vs ds → vs[i]? = some v → ∃ d, ds[i]? = some d ∧ Rp P H v d
  | _, _, _, _, .nil, e => by cases e
  | _, _, 0, _, .cons h _, e => ⟨_, rfl, by cases e; exact h⟩
  | _, _, i + 1, _, .cons _ r, e => RpAll.get (i := i) r e
theorem RpAll.snoc : ∀ {vs : List V} {ds : List PyData} {v : V} {d : PyData}, RpAll P H vs ds → Rp P H v d → RpAll P H (vs ++ [v]) (ds ++ [d])
  | _, _, _, _, .nil, h => .cons h .nil
  | _, _, _, _, .cons a r, h => .cons a (RpAll.snoc r h)
theorem RpAll.app : ∀ {vs ws : List V} {ds es : List PyData}, RpAll P H vs ds → RpAll P H ws es → RpAll P H (vs ++ ws) (ds ++ es)
  | _, _, _, _, .nil, h => h
  | _, _, _, _, .cons a r, h => .cons a (RpAll.app r h)
end
/-! ### its kind -/
def tyN : PyData → String
  | .none => "NoneType"
  | .bool _ => "bool"
  | .int _ => "int"
  | .str _ => "str"
  | .list _ => "list"
  | .tuple _ => "tuple"
  | .dict _ => "dict"
theorem Rp.ty {K : PySem.W.Frag} {P : Addr → Prop} {H : Hp} {v : V} {d : PyData} (r : Rp P H v d) : TyX K H v (.type (tyN d)) := by
  cases r with
  | non => exact .base .non
  | bl b => exact .base (.bl b)
  | int i => exact .base (.int i)
  | str x => exact .base (.str x)
  | lst h _ _ _ => exact .base (.lst h)
  | tup h _ _ => exact .base (.tup h)
  | dct h _ _ _ _ => exact .base (.dK h)
section
variable {K : PySem.W.Frag} {P : Addr → Prop} {H : Hp} {x : V} {d : PyData} {Q : VK} {T T1 T2 T3 : String} {b b1 b2 b3 : Bool} {p : Addr}
theorem r_isi (h : Rp P H x d) (e : kitB (tyN d) T = some b) (q : Q (.bl b) H) : rIsi K [x, .ty T] H Q := ⟨x, .ty T, .type (tyN d), .type T, b, rfl, .ty T, h.ty, kit_ty e, q⟩
theorem kit_any2 {a : String} (e1 : kitB a T1 = some b1) (e2 : kitB a T2 = some b2) : PySem.W.kitAny K (.type a) [.type T1, .type T2] = some (b1 || b2) := by
  refine kitAny_cons (b := b1) (kit_ty e1) (fun h => ?_) (fun h => by rw [h]; rfl)
  refine kitAny_cons (b := b2) (kit_ty e2) (fun h2 => ?_) (fun h2 => by rw [h, h2]; rfl)
  rw [h, h2]
  exact kitAny_nil
theorem kit_any3 {a : String} (e1 : kitB a T1 = some b1) (e2 : kitB a T2 = some b2) (e3 : kitB a T3 = some b3) : PySem.W.kitAny K (.type a) [.type T1, .type T2, .type T3] = some (b1 || (b2 || b3)) := by
  refine kitAny_cons (b := b1) (kit_ty e1) (fun h => ?_) (fun h => by rw [h]; rfl)
  rw [h, Bool.false_or]
  exact kit_any2 e2 e3
theorem r_isi2 (h : Rp P H x d) (hp : H p = some (.tup [.ty T1, .ty T2])) (e1 : kitB (tyN d) T1 = some b1) (e2 : kitB (tyN d) T2 = some b2) (q : Q (.bl (b1 || b2)) H) : rIsiT K [x, .ref p] H Q :=
  ⟨x, p, [.ty T1, .ty T2], .type (tyN d), [.type T1, .type T2], b1 || b2, rfl, hp, .cons (.ty _) (.cons (.ty _) .nil), h.ty, kit_any2 e1 e2, q⟩
theorem r_isi3 (h : Rp P H x d) (hp : H p = some (.tup [.ty T1, .ty T2, .ty T3])) (e1 : kitB (tyN d) T1 = some b1) (e2 : kitB (tyN d) T2 = some b2) (e3 : kitB (tyN d) T3 = some b3) (q : Q (.bl (b1 || (b2 || b3))) H) : rIsiT K [x, .ref p] H Q :=
  ⟨x, p, [.ty T1, .ty T2, .ty T3], .type (tyN d), [.type T1, .type T2, .type T3], b1 || (b2 || b3), rfl, hp, .cons (.ty _) (.cons (.ty _) (.cons (.ty _) .nil)), h.ty, kit_any3 e1 e2 e3, q⟩
theorem isi_no (h : Rp P H x d) (e : kitB (tyN d) T = some false) (q : Q (.bl false) H) : rIsi K [x, .ty T] H Q := r_isi h e q
theorem isi_yes (h : Rp P H x d) (e : kitB (tyN d) T = some true) (q : Q (.bl true) H) : rIsi K [x, .ty T] H Q := r_isi h e q
theorem isi_lno {xs : List V} (hp : H p = some (.lst xs)) (e : kitB "list" T = some false) (q : Q (.bl false) H) : rIsi K [.ref p, .ty T] H Q := ⟨.ref p, .ty T, .type "list", .type T, false, rfl, .ty T, .base (.lst hp), kit_ty e, q⟩
theorem isi_lyes {xs : List V} (hp : H p = some (.lst xs)) (q : Q (.bl true) H) : rIsi K [.ref p, .ty "list"] H Q := ⟨.ref p, .ty "list", .type "list", .type "list", true, rfl, .ty _, .base (.lst hp), kit_ty (by decide +kernel), q⟩
theorem isi_tno {xs : List V} (hp : H p = some (.tup xs)) (e : kitB "tuple" T = some false) (q : Q (.bl false) H) : rIsi K [.ref p, .ty T] H Q := ⟨.ref p, .ty T, .type "tuple", .type T, false, rfl, .ty T, .base (.tup hp), kit_ty e, q⟩
theorem isi_tyes {xs : List V} (hp : H p = some (.tup xs)) (q : Q (.bl true) H) : rIsi K [.ref p, .ty "tuple"] H Q := ⟨.ref p, .ty "tuple", .type "tuple", .type "tuple", true, rfl, .ty _, .base (.tup hp), kit_ty (by decide +kernel), q⟩
theorem isi2_no (h : Rp P H x d) (hp : H p = some (.tup [.ty T1, .ty T2])) (e1 : kitB (tyN d) T1 = some false) (e2 : kitB (tyN d) T2 = some false) (q : Q (.bl false) H) : rIsiT K [x, .ref p] H Q := r_isi2 h hp e1 e2 q
theorem isi2_l (h : Rp P H x d) (hp : H p = some (.tup [.ty T1, .ty T2])) (e1 : kitB (tyN d) T1 = some true) (e2 : kitB (tyN d) T2 = some false) (q : Q (.bl true) H) : rIsiT K [x, .ref p] H Q := r_isi2 h hp e1 e2 q
theorem isi2_t (h : Rp P H x d) (hp : H p = some (.tup [.ty T1, .ty T2])) (e1 : kitB (tyN d) T1 = some false) (e2 : kitB (tyN d) T2 = some true) (q : Q (.bl true) H) : rIsiT K [x, .ref p] H Q := r_isi2 h hp e1 e2 q
theorem isi3_no (h : Rp P H x d) (hp : H p = some (.tup [.ty T1, .ty T2, .ty T3])) (e1 : kitB (tyN d) T1 = some false) (e2 : kitB (tyN d) T2 = some false) (e3 : kitB (tyN d) T3 = some false) (q : Q (.bl false) H) : rIsiT K [x, .ref p] H Q := r_isi3 h hp e1 e2 e3 q
end
/-! ### how deep the laws' own defs go -/
mutual
def hgt : PyData → Nat
  | .list ds => hgtAll ds + 1
  | .tuple ds => hgtAll ds + 1
  | .dict ds => hgtKv ds + 3
  | _ => 0
def hgtAll : List PyData → Nat
  | [] => 0
  | d :: ds => max (hgt d) (hgtAll ds)
def hgtKv : List (PyData × PyData) → Nat
  | [] => 0
  | (_, d) :: ds => max (hgt d) (hgtKv ds)
end
theorem hgt_get : ∀ {ds : List PyData} {i : Nat} {d : PyData}, ds[i]? = some d → hgt d ≤ hgtAll ds
  | _ :: _, 0, _, e => by cases e; exact Nat.le_max_left _ _
  | _ :: r, i + 1, _, e => Nat.le_trans (hgt_get (i := i) e) (Nat.le_max_right _ _)
/-! ### the laws' own comparison -/
def spSame (n : Nat) : Sp := fun vs H Q _ => ∃ (P1 P2 : Addr → Prop) (x y : V) (d : PyData), vs = [x, y] ∧ Rp P1 H x d ∧ Rp P2 H y d ∧ hgt d < n ∧ ∀ H', Same H H' → Q (.bl true) H'
def t_same (K : PySem.W.Frag) (sp__law_same : Sp) : TS := tSeq (tIfS (tB (tCB (rIsiT K) (tCons (tVar 1) (tCons (tTup (tCons (tC (V.ty "list")) (tCons (tC (V.ty "tuple")) tNil))) tNil)))) (tSeq (tIfS (tOr (tTest (tOp rNe (tCB (rIsi K) (tCons (tVar 0) (tCons (tC (V.ty "list")) tNil))) (tCB (rIsi K) (tCons (tVar 1) (tCons (tC (V.ty "list")) tNil))))) (tTest (tOp rNe (tCB (rIsi K) (tCons (tVar 0) (tCons (tC (V.ty "tuple")) tNil))) (tCB (rIsi K) (tCons (tVar 1) (tCons (tC (V.ty "tuple")) tNil)))))) (tRet (tC (V.bl false))) tNext) (tRet (tAndV (tOp rEq (tCB (fun xs H_1 Q => ∃ p ys, xs = [V.ref p] ∧ (SqL K H_1 p ys ∨ SqT K H_1 p ys) ∧ Q (V.int ↑ys.length) H_1) (tCons (tVar 0) tNil)) (tCB (fun xs H_1 Q => ∃ p ys, xs = [V.ref p] ∧ (SqL K H_1 p ys ∨ SqT K H_1 p ys) ∧ Q (V.int ↑ys.length) H_1) (tCons (tVar 1) tNil))) (tCB (rAll K) (tCons (tLc (RZ.iZipA K (tCons (tVar 0) (tCons (tVar 1) tNil))) (gTup K 2 (gCons (gName 2) (gCons (gName 3) gNil))) tYes (tCall sp__law_same [] C8.E0 (tCons (tVar 2) (tCons (tVar 3) tNil))) (List.map (fun x => x.snd) [(Str.ofString "mine", 2), (Str.ofString "theirs", 3)])) tNil))))) tNext) (tSeq (tIfS (tB (tCB (rIsi K) (tCons (tVar 1) (tCons (tC (V.ty "dict")) tNil)))) (tRet (tAndV (tCB (rIsi K) (tCons (tVar 0) (tCons (tC (V.ty "dict")) tNil))) (tCall sp__law_same [] C8.E0 (tCons (LiI.tListItems (tVar 0)) (tCons (LiI.tListItems (tVar 1)) tNil))))) tNext) (tSeq (tIfS (tOr (tB (tCB (rIsi K) (tCons (tVar 1) (tCons (tC (V.ty "bool")) tNil)))) (tB (tCB (rIsi K) (tCons (tVar 0) (tCons (tC (V.ty "bool")) tNil))))) (tRet (tAndV (tCB (rIsi K) (tCons (tVar 1) (tCons (tC (V.ty "bool")) tNil))) (tAndV (tCB (rIsi K) (tCons (tVar 0) (tCons (tC (V.ty "bool")) tNil))) (tOp rEq (tVar 0) (tVar 1))))) tNext) (tSeq (tIfS (tOr (tTest (tOp (fun x y H Q => y = V.non ∧ Q (V.bl (decide (x = V.non))) H) (tVar 1) (tC V.non))) (tTest (tOp (fun x y H Q => y = V.non ∧ Q (V.bl (decide (x = V.non))) H) (tVar 0) (tC V.non)))) (tRet (tAndV (tOp (fun x y H Q => y = V.non ∧ Q (V.bl (decide (x = V.non))) H) (tVar 1) (tC V.non)) (tOp (fun x y H Q => y = V.non ∧ Q (V.bl (decide (x = V.non))) H) (tVar 0) (tC V.non)))) tNext) (tSeq (tIfS (tOr (tTest (tOp rNe (tCB (rIsi K) (tCons (tVar 1) (tCons (tC (V.ty "int")) tNil))) (tCB (rIsi K) (tCons (tVar 0) (tCons (tC (V.ty "int")) tNil))))) (tTest (tOp rNe (tCB (rIsi K) (tCons (tVar 1) (tCons (tC (V.ty "str")) tNil))) (tCB (rIsi K) (tCons (tVar 0) (tCons (tC (V.ty "str")) tNil)))))) (tRet (tC (V.bl false))) tNext) (tRet (tAndV (tNotV (tCB (rIsiT K) (tCons (tVar 0) (tCons (tTup (tCons (tC (V.ty "list")) (tCons (tC (V.ty "tuple")) (tCons (tC (V.ty "dict")) tNil)))) tNil)))) (tOp rEq (tVar 0) (tVar 1))))))))
/-- dict items as pairs -/
def pairsD (ds : List (PyData × PyData)) : List PyData := ds.map fun p => .tuple [p.1, p.2]
theorem pairs_rp {P : Addr → Prop} {H : Hp} : ∀ {ts : List Addr} {kvs : List (Key × V)} {ds : List (PyData × PyData)}, Paired (fun (t : Addr) (q : Key × V) => H t = some (.tup [kV q.1, q.2])) ts kvs → RpKv P H kvs ds → RpAll P H (ts.map V.ref) (pairsD ds)
  | _, _, _, .nil, .nil => .nil
  | _, (k, v) :: _, _, .cons h t, .cons r rr => .cons (.tup h (by show 2 ≤ sizeLine; decide) (.cons (by cases k with | inl i => exact .int i | inr x => exact .str x) (.cons r .nil))) (pairs_rp t rr)
theorem hgt_key (k : Key) : hgt (keyD k) = 0 := by cases k <;> rfl
theorem hgt_pairs {P : Addr → Prop} {H : Hp} : ∀ {kvs : List (Key × V)} {ds : List (PyData × PyData)}, RpKv P H kvs ds → hgtAll (pairsD ds) ≤ hgtKv ds + 1
  | _, _, .nil => Nat.zero_le _
  | _, _, .cons (k := k) (d := d) (ds := ds) r rr => by
    have ih := hgt_pairs rr
    show max (hgtAll [keyD k, d] + 1) (hgtAll (pairsD ds)) ≤ max (hgt d) (hgtKv ds) + 1
    have e : hgtAll [keyD k, d] = max (hgt (keyD k)) (max (hgt d) 0) := rfl
    rw [e, hgt_key]
    omega
theorem r_nonand {A : Prop} (h : A) : V.non = V.non ∧ A := ⟨rfl, h⟩
theorem if_non_no {x : V} {A B : Prop} (n : x ≠ V.non) (h : B) : if decide (x = V.non) = true then A else B := by
  rw [if_neg (by rw [decide_eq_false n]; exact Bool.false_ne_true)]; exact h
theorem if_non_yes {A B : Prop} (h : A) : if decide (V.non = V.non) = true then A else B := by
  rw [if_pos (by decide)]; exact h
theorem if_nb_no {b : Bool} {A B : Prop} (h : B) : if (!decide (b = b)) = true then A else B := by
  rw [if_neg (by simp)]; exact h
theorem if_nn_no {b : Bool} {A B : Prop} (h : B) : if (!true) = true then A else B := by
  rw [if_neg (by simp)]; exact h
theorem if_same {A : Type} {x : A} [DecidableEq A] {P Q : Prop} (h : P) : if decide (x = x) = true then P else Q := by
  rw [if_pos (by simp)]; exact h
/-- one step where the kind of the datum is asked -/
local macro_rules | `(tactic| walk_at "k") => `(tactic| (first
  | (with_reducible refine Lw.isi_no (by assumption) (by dsimp only [tyN]; decide +kernel) ?_) | (with_reducible refine Lw.isi_yes (by assumption) (by dsimp only [tyN]; decide +kernel) ?_)
  | (with_reducible refine Lw.isi_lyes (by assumption) ?_) | (with_reducible refine Lw.isi_lno (by assumption) (by decide +kernel) ?_) | (with_reducible refine Lw.isi_tyes (by assumption) ?_) | (with_reducible refine Lw.isi_tno (by assumption) (by decide +kernel) ?_)
  | (with_reducible refine Lw.isi2_no (by assumption) (by assumption) (by dsimp only [tyN]; decide +kernel) (by dsimp only [tyN]; decide +kernel) ?_) | (with_reducible refine Lw.isi2_l (by assumption) (by assumption) (by dsimp only [tyN]; decide +kernel) (by dsimp only [tyN]; decide +kernel) ?_) | (with_reducible refine Lw.isi2_t (by assumption) (by assumption) (by dsimp only [tyN]; decide +kernel) (by dsimp only [tyN]; decide +kernel) ?_)
  | (with_reducible refine Lw.isi3_no (by assumption) (by assumption) (by dsimp only [tyN]; decide +kernel) (by dsimp only [tyN]; decide +kernel) (by dsimp only [tyN]; decide +kernel) ?_)
  | (with_reducible refine Lw.r_nonand ?_) | (with_reducible refine Lw.if_non_no (by assumption) ?_) | (with_reducible refine Lw.if_non_yes ?_) | (with_reducible refine Lw.if_nb_no ?_)))
local macro_rules | `(tactic| walk_at "kk") => `(tactic| (repeat (first | (walk_at "r"; (try dsimp only [])) | (walk_at "k"; (try dsimp only [])))))
theorem Rp.flat_ne {P : Addr → Prop} {H : Hp} {x : V} {d : PyData} (h : Rp P H x d) (n : d ≠ .none) : x ≠ V.non := by
  intro e
  cases h <;> first | exact n rfl | cases e
theorem walk_zipT {K : PySem.W.Frag} {a b : Addr} {xs ys : List V} {n : Nat} (hn : n = min xs.length ys.length) : Walk (RZ.ItzT K a b) n (fun H => SqT K H a xs ∧ SqT K H b ys) (YPair (fun i => xs[i]?) (fun i => ys[i]?)) := by
  subst hn
  refine ⟨fun i _ hi q => ?_, fun _ q => ⟨xs, ys, q.1, q.2, by omega⟩, fun i H v H' _ q y => ?_⟩
  · have h1 : i < xs.length := by omega
    have h2 : i < ys.length := by omega
    exact ⟨xs, ys, xs[i], ys[i], q.1, q.2, by simp [h1], by simp [h2]⟩
  · obtain ⟨T, x, z, h1, h2, h3, h4, h5⟩ := y
    exact ⟨T, x, z, h1, h2, h3, h4 xs q.1, h5 ys q.2⟩
theorem same_zip {K : PySem.W.Frag} {n : Nat} {J : It} {G : Hp → Prop} {xs ys : List V} {ds : List PyData} {x y : V} {P1 P2 : Addr → Prop} {H1 : Hp} {Q : VK} (w : Walk J ds.length G (YPair (fun i => xs[i]?) (fun i => ys[i]?)))
    (hx : RpAll P1 H1 xs ds) (hy : RpAll P2 H1 ys ds) (hn : hgtAll ds < n) (hG : ∀ H', Same H1 H' → G H') (hl : ds.length ≤ sizeLine) (hq : ∀ D H', Same H1 H' → H' D = some (.lst ((List.replicate ds.length true).map V.bl)) → Q (.ref D) H') :
    LcG J (gTup K 2 (gCons (gName 2) (gCons (gName 3) gNil))) tYes (tCall (spSame n) [] C8.E0 (tCons (tVar 2) (tCons (tVar 3) tNil))) (List.map (fun x => x.snd) [(Str.ofString "mine", 2), (Str.ofString "theirs", 3)]) (start ["found", "due", "mine", "theirs"] [x, y]) Q H1 := by
  refine lc_in w (fun D i acc H => acc = (List.replicate i true).map V.bl ∧ Same H1 H) (fun D H nw => ⟨rfl, nw.same⟩) (fun D i acc H _ _ p => hG H p.2) (fun D i acc v H H' hD hi hal h p yy => ?_) (fun D acc H _ _ h p => hq D H p.2 (by rw [h, p.1]))
  obtain ⟨T, a, b, rfl, hT, e, h1, h2⟩ := yy
  obtain ⟨s2, hT'⟩ := same_upd_new hT e
  obtain ⟨d1, g1, r1⟩ := hx.get h1
  obtain ⟨d2, g2, r2⟩ := hy.get h2
  have ed : d1 = d2 := Option.some.inj (g1.symm.trans g2)
  subst ed
  have s1 := p.2.trans s2
  refine r_gtup (L2.SqT.of hT') (by rfl) ?_
  walk_at "rr"
  refine r_wipe (by with_unfolding_all rfl) ?_
  walk_at "rr"
  refine ⟨P1, P2, a, b, d1, rfl, r1.same s1, r2.same s1, Nat.lt_of_le_of_lt (hgt_get g1) hn, fun H4 s4 => ?_⟩
  refine lc_add (s4 _ _ (s2 _ _ h)) hal (Nat.lt_of_lt_of_le hi hl) fun H5 w5 => ⟨?_, same_wr (s1.trans s4) w5 hD⟩
  rw [p.1, List.replicate_succ', List.map_append]
  rfl
theorem all_true (n : Nat) : (List.replicate n true).all id = true := by induction n with
  | zero => rfl
  | succ n ih => rw [List.replicate_succ, List.all_cons, ih]; rfl
theorem rd_same (K : PySem.W.Frag) (n : Nat) (vs : List V) (H : Hp) (Q : VK) (E : XK) (h : spSame (n + 1) vs H Q E) : t_same K (spSame n) { nx := fun _ H' => Q .non H', rt := Q } (start ["found", "due", "mine", "theirs"] vs) H := by
  obtain ⟨P1, P2, x, y, d, rfl, hx, hy, hn, k⟩ := h
  unfold t_same
  walk_at "rr"
  refine ⟨by decide, fun p1 H1 n1 => ?_⟩
  have hx1 := hx.same n1.same
  have hy1 := hy.same n1.same
  have s1 := n1.same
  have t1 := n1.now
  clear hx hy
  cases d with
  | none =>
    have e1 : x = V.non := by cases hx1; rfl
    have e2 : y = V.non := by cases hy1; rfl
    subst e1
    subst e2
    walk_at "kk"
    exact k _ s1
  | bool b =>
    have e1 : x = V.bl b := by cases hx1; rfl
    have e2 : y = V.bl b := by cases hy1; rfl
    subst e1
    subst e2
    walk_at "kk"
    have e : decide (b = b) = true := by simp
    rw [e]
    exact k _ s1
  | int b =>
    have e1 : x = V.int b := by cases hx1; rfl
    have e2 : y = V.int b := by cases hy1; rfl
    have q1 := hx1.flat_ne (by simp)
    subst e1
    subst e2
    walk_at "kk"
    refine ⟨by decide, fun p2 H2 n2 => ?_⟩
    have hx2 := hx1.same n2.same
    have t2 := n2.now
    walk_at "kk"
    rw [decide_eq_true (Eq.refl b)]
    exact k _ (s1.trans n2.same)
  | str b =>
    have e1 : x = V.str b := by cases hx1; rfl
    have e2 : y = V.str b := by cases hy1; rfl
    have q1 := hx1.flat_ne (by simp)
    subst e1
    subst e2
    walk_at "kk"
    refine ⟨by decide, fun p2 H2 n2 => ?_⟩
    have hx2 := hx1.same n2.same
    have t2 := n2.now
    walk_at "kk"
    rw [decide_eq_true (Eq.refl b)]
    exact k _ (s1.trans n2.same)
  | list ds =>
    cases hx1 with
    | @lst a xs _ ha pa la ra =>
    cases hy1 with
    | @lst b ys _ hb pb lb rb =>
    have q1 := Rp.lst ha pa la ra
    have q2 := Rp.lst hb pb lb rb
    have l1 := ra.length
    have l2 := rb.length
    walk_at "kk"
    refine ⟨a, xs, rfl, Or.inl (SqL.of ha), ?_⟩
    walk_at "kk"
    refine ⟨b, ys, rfl, Or.inl (SqL.of hb), ?_⟩
    walk_at "kk"
    rw [if_pos (by rw [l1, l2]; simp)]
    walk_at "kk"
    refine ⟨a, b, xs, ys, rfl, .inl ⟨SqL.of ha, SqL.of hb, same_zip (walk_zip (by rw [l1, l2]; simp)) ra rb (Nat.lt_of_succ_lt_succ hn) (fun H' s => ⟨SqL.of (s _ _ ha), SqL.of (s _ _ hb)⟩) (by rw [← l1]; exact la) fun D H' s h => ?_⟩⟩
    walk_at "kk"
    refine ⟨D, _, rfl, SqL.of h, ?_⟩
    rw [all_true]
    exact k _ (s1.trans s)
  | tuple ds =>
    cases hx1 with
    | @tup a xs _ ha la ra =>
    cases hy1 with
    | @tup b ys _ hb lb rb =>
    have q1 := Rp.tup ha la ra
    have q2 := Rp.tup hb lb rb
    have l1 := ra.length
    have l2 := rb.length
    walk_at "kk"
    refine ⟨a, xs, rfl, Or.inr (SqT.of ha), ?_⟩
    walk_at "kk"
    refine ⟨b, ys, rfl, Or.inr (SqT.of hb), ?_⟩
    walk_at "kk"
    rw [if_pos (by rw [l1, l2]; simp)]
    walk_at "kk"
    refine ⟨a, b, xs, ys, rfl, .inr ⟨SqT.of ha, SqT.of hb, same_zip (walk_zipT (by rw [l1, l2]; simp)) ra rb (Nat.lt_of_succ_lt_succ hn) (fun H' s => ⟨SqT.of (s _ _ ha), SqT.of (s _ _ hb)⟩) (by rw [← l1]; exact la) fun D H' s h => ?_⟩⟩
    walk_at "kk"
    refine ⟨D, _, rfl, SqL.of h, ?_⟩
    rw [all_true]
    exact k _ (s1.trans s)
  | dict ds =>
    have q0 := hx1.flat_ne (by simp)
    cases hx1 with
    | @dct a xs _ ha pa la na ra =>
    cases hy1 with
    | @dct b ys _ hb pb lb nb rb =>
    have q1 := Rp.dct ha pa la na ra
    have q2 := Rp.dct hb pb lb nb rb
    walk_at "kk"
    refine ⟨a, xs, rfl, ha, fun H2 p ts s2 _ _ _ hp pp => ?_⟩
    walk_at "kk"
    refine ⟨b, ys, rfl, s2 _ _ hb, fun H3 q us s3 _ _ _ hq qq => ?_⟩
    walk_at "kk"
    have A1 := pairs_rp pp (ra.same (P := P1) s2)
    have A2 := pairs_rp qq (rb.same (P := P2) (Same.trans s2 s3))
    refine ⟨fun _ => True, fun _ => True, _, _, .list (pairsD ds), rfl, .lst (s3 _ _ hp) trivial ?_ ((A1.same s3).mono (fun a o h _ => h) fun _ _ => trivial), .lst hq trivial ?_ (A2.mono (fun a o h _ => h) fun _ _ => trivial), ?_, fun H4 s4 => ?_⟩
    · rw [List.length_map, pp.length]; exact la
    · rw [List.length_map, qq.length]; exact lb
    · have h1 := hgt_pairs ra
      have h2 : hgtKv ds + 3 < n + 1 := hn
      show hgtAll (pairsD ds) + 1 < n
      omega
    · exact k _ (s1.trans (Same.trans s2 (Same.trans s3 s4)))
end Lw
end
section
set_option maxHeartbeats 4000000
/-! Lw4: the laws' own copies, and what they spoil. -/
/-- one step of a reading that needs no choice; all of them -/
local macro_rules | `(tactic| walk_at "r") => `(tactic| (first
  | (with_reducible refine Lw.r_seq ?_) | (with_reducible refine Lw.r_asg ?_) | (with_reducible refine Lw.r_ret ?_) | (with_reducible refine Lw.r_retN ?_) | (with_reducible refine Lw.r_drop ?_)
  | (with_reducible refine Lw.r_name ?_) | (with_reducible refine Lw.r_gsub ?_) | (with_reducible refine Lw.r_gcons ?_) | (with_reducible refine Lw.r_gnil ?_)
  | (with_reducible refine Lw.r_next ?_) | (with_reducible refine Lw.r_cont ?_) | (with_reducible refine Lw.r_brk ?_) | (with_reducible refine Lw.r_ifS ?_) | (with_reducible refine Lw.r_par ?_) | (with_reducible refine Lw.r_two ?_) | (with_reducible refine Lw.r_par3 ?_) | (with_reducible refine Lw.r_three ?_)
  | (with_reducible refine Lw.r_var (by with_unfolding_all rfl) ?_) | (with_reducible refine Lw.r_c ?_) | (with_reducible refine Lw.r_op ?_) | (with_reducible refine Lw.r_un ?_)
  | (with_reducible refine Lw.r_I0 ?_) | (with_reducible refine Lw.r_test ?_) | (with_reducible refine Lw.r_tB ?_) | (with_reducible refine Lw.r_bl ?_)
  | (with_reducible refine Lw.r_tand ?_) | (with_reducible refine Lw.r_tor ?_) | (with_reducible refine Lw.r_tnot ?_) | (with_reducible refine Lw.r_andV ?_) | (with_reducible refine Lw.r_orV ?_) | (with_reducible refine Lw.r_notV ?_) | (with_reducible refine Lw.r_tif ?_)
  | (with_reducible refine Lw.r_cb ?_) | (with_reducible refine Lw.r_cons ?_) | (with_reducible refine Lw.r_nil ?_) | (with_reducible refine Lw.r_call ?_) | (with_reducible refine Lw.r_lc ?_) | (with_reducible refine Lw.r_tyes ?_) | (with_reducible refine Lw.r_for ?_) | (with_reducible refine Lw.r_iList ?_) | (with_reducible refine Lw.r_iTup ?_) | (with_reducible refine Lw.r_iKeys ?_) | (with_reducible refine Lw.r_zipA ?_) | (with_reducible refine Lw.r_liIt ?_) | (with_reducible refine Lw.r_lst ?_) | (with_reducible refine Lw.r_tup ?_)
  | (with_reducible refine Lw.r_bm ?_) | (with_reducible refine Lw.r_bm0 ?_) | (with_reducible refine Lw.r_tyS ?_)
  | (with_reducible refine Lw.r_ixL (L2.SqL.of (by assumption)) (by with_unfolding_all rfl) ?_) | (with_reducible refine Lw.r_ixT (L2.SqT.of (by assumption)) (by with_unfolding_all rfl) ?_)
  | (with_reducible refine Lw.r_eqI ?_) | (with_reducible refine Lw.r_neI ?_) | (with_reducible refine Lw.r_eqS ?_) | (with_reducible refine Lw.r_neS ?_) | (with_reducible refine Lw.r_eqB ?_) | (with_reducible refine Lw.r_neB ?_)
  | (with_reducible refine ⟨_, fun _ _ h => h, ?_⟩) | (with_reducible refine ⟨_, rfl, ?_⟩) | (with_reducible refine Or.inl ⟨_, rfl, ?_⟩)
  | (with_reducible refine Lw.r_ifnf ?_) | (with_reducible refine Lw.r_ifnt ?_) | (with_reducible refine L2.iteT ?_) | (with_reducible refine L2.iteF ?_)))
local macro_rules | `(tactic| walk_at "rr") => `(tactic| ((try dsimp only []); (repeat (walk_at "r"; (try dsimp only [])))))

namespace Lw
open PySem L2
/-- one step where the kind of the datum is asked -/
local macro_rules | `(tactic| walk_at "k") => `(tactic| (first
  | (with_reducible refine Lw.isi_no (by assumption) (by dsimp only [tyN]; decide +kernel) ?_) | (with_reducible refine Lw.isi_yes (by assumption) (by dsimp only [tyN]; decide +kernel) ?_)
  | (with_reducible refine Lw.isi_lyes (by assumption) ?_) | (with_reducible refine Lw.isi_lno (by assumption) (by decide +kernel) ?_) | (with_reducible refine Lw.isi_tyes (by assumption) ?_) | (with_reducible refine Lw.isi_tno (by assumption) (by decide +kernel) ?_)
  | (with_reducible refine Lw.isi2_no (by assumption) (by assumption) (by dsimp only [tyN]; decide +kernel) (by dsimp only [tyN]; decide +kernel) ?_) | (with_reducible refine Lw.isi2_l (by assumption) (by assumption) (by dsimp only [tyN]; decide +kernel) (by dsimp only [tyN]; decide +kernel) ?_) | (with_reducible refine Lw.isi2_t (by assumption) (by assumption) (by dsimp only [tyN]; decide +kernel) (by dsimp only [tyN]; decide +kernel) ?_)
  | (with_reducible refine Lw.isi3_no (by assumption) (by assumption) (by dsimp only [tyN]; decide +kernel) (by dsimp only [tyN]; decide +kernel) (by dsimp only [tyN]; decide +kernel) ?_)
  | (with_reducible refine Lw.r_nonand ?_) | (with_reducible refine Lw.if_non_no (by assumption) ?_) | (with_reducible refine Lw.if_non_yes ?_) | (with_reducible refine Lw.if_nb_no ?_)))
local macro_rules | `(tactic| walk_at "kk") => `(tactic| (repeat (first | (walk_at "r"; (try dsimp only [])) | (walk_at "k"; (try dsimp only [])))))

/-- no dict with entries within -/
def bare : PyData → Bool
  | .list ds => ds.attach.all fun ⟨d, _⟩ => bare d
  | .tuple ds => ds.attach.all fun ⟨d, _⟩ => bare d
  | .dict ds => ds.isEmpty
  | _ => true
theorem bare_list {ds : List PyData} (h : bare (.list ds) = true) : ∀ d ∈ ds, bare d = true := by
  rw [bare] at h
  intro d hd
  exact List.all_eq_true.mp h ⟨d, hd⟩ (List.mem_attach _ _)
theorem bare_tuple {ds : List PyData} (h : bare (.tuple ds) = true) : ∀ d ∈ ds, bare d = true := by
  rw [bare] at h
  intro d hd
  exact List.all_eq_true.mp h ⟨d, hd⟩ (List.mem_attach _ _)
def spCopied (n : Nat) : Sp := fun vs H Q _ => ∃ (P : Addr → Prop) (x : V) (d : PyData), vs = [x] ∧ Rp P H x d ∧ hgt d < n ∧ bare d = true ∧ ∀ v H', Same H H' → Rp (fun a => H a = none) H' v d → Q v H'
def t_copied (K : PySem.W.Frag) (sp__law_copied : Sp) : TS := tSeq (tIfS (tB (tCB (rIsiT K) (tCons (tVar 0) (tCons (tTup (tCons (tC (V.ty "list")) (tCons (tC (V.ty "tuple")) tNil))) tNil)))) (tSeq (tAsg (tLc (fun σ H_1 R => iList K (tVar 0) σ H_1 R ∨ iTup K (tVar 0) σ H_1 R) (gName 2) tYes (tCall sp__law_copied [] C8.E0 (tCons (tVar 2) tNil)) (List.map (fun x => x.snd) [(Str.ofString "one", 2)])) (gName 1)) (tRet (tIf (tB (tCB (rIsi K) (tCons (tVar 0) (tCons (tC (V.ty "list")) tNil)))) (tVar 1) (tCB (fun xs H_1 Q => ∃ p ys, xs = [V.ref p] ∧ ((SqL K H_1 p ys ∧ ∀ (l : Addr), H_1 l = none → Q (V.ref l) (upd H_1 l (HO.tup ys))) ∨ SqT K H_1 p ys ∧ Q (V.ref p) H_1)) (tCons (tVar 1) tNil))))) tNext) (tSeq (tIfS (tB (tCB (rIsi K) (tCons (tVar 0) (tCons (tC (V.ty "dict")) tNil)))) (tRet (tCB (fun xs H_1 Q => ∃ a ps kvs, xs = [V.ref a] ∧ SqL K H_1 a (List.map V.ref ps) ∧ Paired (fun p kv => SqT K H_1 p [kV kv.fst, kv.snd]) ps kvs ∧ ∀ (p : Addr), H_1 p = none → Q (V.ref p) (upd H_1 p (HO.dK (mergeK [] kvs)))) (tCons (tLockE (tLc (iKeys (tVar 0)) (gName 3) tYes (tTup (tCons (tVar 3) (tCons (tCall sp__law_copied [] C8.E0 (tCons (tDGet (tVar 0) (tVar 3)) tNil)) tNil))) (List.map (fun x => x.snd) [(Str.ofString "key", 3)]))) tNil))) tNext) (tRet (tVar 0)))
theorem fresh_up {H H' : Hp} {a : Addr} (s : Same H H') (h : H' a = none) : H a = none := by
  cases e : H a with
  | none => rfl
  | some o => rw [s _ _ e] at h; cases h
theorem copied_list {n : Nat} {J : It} {G : Hp → Prop} {xs : List V} {ds : List PyData} {x : V} {P : Addr → Prop} {H1 : Hp} {Q : VK} (w : Walk J xs.length G (YAt xs))
    (hx : RpAll P H1 xs ds) (hn : hgtAll ds < n) (hb : ∀ d ∈ ds, bare d = true) (hG : ∀ H', Same H1 H' → G H') (hl : xs.length ≤ sizeLine) (hq : ∀ D ys H', H1 D = none → Same H1 H' → H' D = some (.lst ys) → RpAll (fun a => H1 a = none ∧ a ≠ D) H' ys ds → Q (.ref D) H') :
    LcG J (gName 2) tYes (tCall (spCopied n) [] C8.E0 (tCons (tVar 2) tNil)) (List.map (fun x => x.snd) [(Str.ofString "one", 2)]) (start ["thing", "some", "one", "key"] [x]) Q H1 := by
  refine lc_in w (fun D i acc H => RpAll (fun a => H1 a = none ∧ a ≠ D) H acc (ds.take i) ∧ Same H1 H) (fun D H nw => ⟨.nil, nw.same⟩) (fun D i acc H _ _ p => hG H p.2) (fun D i acc v H H' hD hi hal h p yy => ?_) (fun D acc H hD _ h p => ?_)
  · obtain ⟨rfl, h1⟩ := yy
    obtain ⟨d1, g1, r1⟩ := hx.get h1
    walk_at "rr"
    refine r_wipe (by with_unfolding_all rfl) ?_
    walk_at "rr"
    refine ⟨P, v, d1, rfl, r1.same p.2, Nat.lt_of_le_of_lt (hgt_get g1) hn, hb _ (List.mem_of_getElem? g1), fun v2 H4 s4 r4 => ?_⟩
    refine lc_add (s4 _ _ h) hal (Nat.lt_of_lt_of_le hi hl) fun H5 w5 => ⟨?_, same_wr (Same.trans p.2 s4) w5 hD⟩
    rw [List.take_succ, g1]
    have f5 : ∀ {P' : Addr → Prop}, (∀ a, P' a → a ≠ D) → Fix P' H4 H5 := fun hp a o ho q => by
      rw [w5.off a (fun e => ?_)]
      · exact ho
      · subst e
        rcases q with q | ⟨xs, q⟩
        · exact hp _ q rfl
        · rw [s4 _ _ h] at ho
          rw [q] at ho
          cases ho
    have fr : ∀ a, H' a = none → H1 a = none ∧ a ≠ D := fun a q => ⟨fresh_up p.2 q, fun e => by subst e; rw [h] at q; cases q⟩
    have r5 : Rp (fun a => H1 a = none ∧ a ≠ D) H4 v2 d1 := r4.mono (fun a o ho q => ho) fr
    exact RpAll.snoc ((p.1.same s4).mono (f5 fun a q => q.2) fun a q => q) (r5.mono (f5 fun a q => q.2) fun a q => q)
  · refine hq D acc H hD p.2 h ?_
    have e : ds.take xs.length = ds := by rw [hx.length, List.take_length]
    rw [← e]
    exact p.1
theorem rd_copied (K : PySem.W.Frag) (n : Nat) (vs : List V) (H : Hp) (Q : VK) (E : XK) (h : spCopied (n + 1) vs H Q E) : t_copied K (spCopied n) { nx := fun _ H' => Q .non H', rt := Q } (start ["thing", "some", "one", "key"] vs) H := by
  obtain ⟨P, x, d, rfl, hx, hn, hb, k⟩ := h
  unfold t_copied
  walk_at "rr"
  refine ⟨by decide, fun p1 H1 n1 => ?_⟩
  have hx1 := hx.same n1.same
  have s1 := n1.same
  have t1 := n1.now
  clear hx
  cases d with
  | list ds =>
    cases hx1 with
    | @lst a xs _ ha pa la ra =>
    have q1 := Rp.lst ha pa la ra
    walk_at "kk"
    refine .inl ?_
    walk_at "kk"
    refine ⟨⟨xs, SqL.of ha⟩, ?_⟩
    refine copied_list walk_list ra (Nat.lt_of_succ_lt_succ hn) (bare_list hb) (fun H' s => SqL.of (s _ _ ha)) la fun D ys H2 hD s2 hD2 rr => ?_
    have q2 := q1.same s2
    walk_at "kk"
    have fr : ∀ a, H1 a = none → H a = none := fun a q => fresh_up s1 q
    exact k _ _ (Same.trans s1 s2) (.lst hD2 (fr _ hD) (by rw [rr.length, ← ra.length]; exact la) (rr.mono (fun a o ho q => ho) fun a q => fr _ q.1))
  | tuple ds =>
    cases hx1 with
    | @tup a xs _ ha la ra =>
    have q1 := Rp.tup (P := P) ha la ra
    walk_at "kk"
    refine .inr ?_
    walk_at "kk"
    refine ⟨⟨xs, SqT.of ha⟩, ?_⟩
    refine copied_list walk_tup ra (Nat.lt_of_succ_lt_succ hn) (bare_tuple hb) (fun H' s => SqT.of (s _ _ ha)) la fun D ys H2 hD s2 hD2 rr => ?_
    have q2 := q1.same s2
    walk_at "kk"
    have fr : ∀ a, H1 a = none → H a = none := fun a q => fresh_up s1 q
    refine ⟨D, ys, rfl, .inl ⟨SqL.of hD2, fun l hl => ?_⟩⟩
    have n3 := new_upd (o := HO.tup ys) hl
    exact k _ _ (Same.trans s1 (Same.trans s2 n3.same)) (.tup n3.now (by rw [rr.length, ← ra.length]; exact la) ((rr.same n3.same).mono (fun a o ho q => ho) fun a q => fr _ q.1))
  | dict ds =>
    cases hx1 with
    | @dct a xs _ ha pa la na ra =>
    have q1 := Rp.dct ha pa la na ra
    have e : ds = [] := by
      have h0 := hb
      rw [bare] at h0
      simpa using h0
    subst e
    cases ra
    walk_at "kk"
    refine ⟨a, .dK [], ha, trivial, fun od => ?_⟩
    have hf : upd H1 a (.frz od (.dK [])) a = some (.frz od (.dK [])) := upd_same
    generalize hH : upd H1 a (.frz od (.dK [])) = Hf at hf ⊢
    have back : ∀ b, b ≠ a → Hf b = H1 b := fun b hb => by rw [← hH, upd_ne hb]
    walk_at "kk"
    refine ⟨a, od, rfl, .inl ⟨[], hf, ?_⟩⟩
    refine lc_in walk_keys (fun D i acc H => Same Hf H ∧ acc = []) (fun D H nw => ⟨nw.same, rfl⟩) (fun D i acc H _ _ p => p.1 _ _ hf) (fun D i acc v H H' hD hi hal h p yy => absurd hi (Nat.not_lt_zero _)) (fun D acc H2 hD hl h p => ?_)
    obtain ⟨s2, e⟩ := p
    subst e
    have hDa : D ≠ a := fun e => by subst e; rw [hf] at hD; cases hD
    have hD1 : H1 D = none := by rw [← back D hDa]; exact hD
    refine ⟨s2 _ _ hf, ?_⟩
    have s3 : Same H1 (upd H2 a (.dK [])) := fun b o e => by
      by_cases hb : b = a
      · subst hb
        rw [upd_same, ← ha, e]
      · rw [upd_ne hb]
        exact s2 _ _ (by rw [back b hb]; exact e)
    have h3 : upd H2 a (.dK []) D = some (.lst []) := by rw [upd_ne hDa]; exact h
    generalize upd H2 a (.dK []) = H3 at s3 h3 ⊢
    walk_at "kk"
    refine ⟨D, [], [], rfl, SqL.of h3, .nil, fun p hp => ?_⟩
    have n4 := new_upd (o := HO.dK (mergeK [] [])) hp
    exact k _ _ (Same.trans s1 (Same.trans s3 n4.same)) (.dct n4.now (fresh_up s1 (fresh_up s3 hp)) (by decide) .nil .nil)
  | none =>
    have e1 : x = V.non := by cases hx1; rfl
    subst e1
    walk_at "kk"
    exact k _ _ s1 .non
  | bool b =>
    have e1 : x = V.bl b := by cases hx1; rfl
    subst e1
    walk_at "kk"
    exact k _ _ s1 (.bl b)
  | int b =>
    have e1 : x = V.int b := by cases hx1; rfl
    subst e1
    walk_at "kk"
    exact k _ _ s1 (.int b)
  | str b =>
    have e1 : x = V.str b := by cases hx1; rfl
    subst e1
    walk_at "kk"
    exact k _ _ s1 (.str b)
/-! ### what the laws spoil -/
mutual
/-- v is a datum without dicts, its lists told apart: those at ns -/
inductive Tr (H : Hp) : V → PyData → List Addr → Prop
  | non : Tr H .non .none []
  | bl (b : Bool) : Tr H (.bl b) (.bool b) []
  | int (i : Int) : Tr H (.int i) (.int i) []
  | str (x : Str) : Tr H (.str x) (.str x) []
  | lst {a : Addr} {xs : List V} {ds : List PyData} {ns : List Addr} : H a = some (.lst xs) → xs.length < sizeLine → TrAll H xs ds ns → Tr H (.ref a) (.list ds) (a :: ns)
  | tup {a : Addr} {xs : List V} {ds : List PyData} {ns : List Addr} : H a = some (.tup xs) → xs.length < sizeLine → TrAll H xs ds ns → Tr H (.ref a) (.tuple ds) ns
inductive TrAll (H : Hp) : List V → List PyData → List Addr → Prop
  | nil : TrAll H [] [] []
  | cons {v : V} {vs : List V} {d : PyData} {ds : List PyData} {ns ms : List Addr} : Tr H v d ns → TrAll H vs ds ms → TrAll H (v :: vs) (d :: ds) (ns ++ ms)
end
section
variable {H H' : Hp} {P : Addr → Prop}
mutual
theorem Tr.rp : ∀ {v : V} {d : PyData} {ns : List Addr}, Tr H v d ns → (∀ a ∈ ns, P a) → Rp P H v d
  | _, _, _, .non, _ => .non
  | _, _, _, .bl b, _ => .bl b
  | _, _, _, .int i, _ => .int i
  | _, _, _, .str x, _ => .str x
  | _, _, _, .lst h l r, p => .lst h (p _ List.mem_cons_self) (Nat.le_of_lt l) (TrAll.rp r fun a ha => p a (List.mem_cons_of_mem _ ha))
  | _, _, _, .tup h l r, p => .tup h (Nat.le_of_lt l) (TrAll.rp r p)
theorem TrAll.rp : ∀ {vs : List V} {ds : List PyData} {ns : List Addr}, TrAll H vs ds ns → (∀ a ∈ ns, P a) → RpAll P H vs ds
  | _, _, _, .nil, _ => .nil
  | _, _, _, .cons h r, p => .cons (Tr.rp h fun a ha => p a (List.mem_append_left _ ha)) (TrAll.rp r fun a ha => p a (List.mem_append_right _ ha))
end
mutual
theorem Tr.keep : ∀ {v : V} {d : PyData} {ns : List Addr}, Tr H v d ns → Fix (· ∈ ns) H H' → Tr H' v d ns
  | _, _, _, .non, _ => .non
  | _, _, _, .bl b, _ => .bl b
  | _, _, _, .int i, _ => .int i
  | _, _, _, .str x, _ => .str x
  | _, _, _, .lst h l r, f => .lst (f _ _ h (.inl List.mem_cons_self)) l (TrAll.keep r fun a o ho q => f a o ho (q.imp (List.mem_cons_of_mem _) id))
  | _, _, _, .tup h l r, f => .tup (f _ _ h (.inr ⟨_, rfl⟩)) l (TrAll.keep r f)
theorem TrAll.keep : ∀ {vs : List V} {ds : List PyData} {ns : List Addr}, TrAll H vs ds ns → Fix (· ∈ ns) H H' → TrAll H' vs ds ns
  | _, _, _, .nil, _ => .nil
  | _, _, _, .cons h r, f => .cons (Tr.keep h fun a o ho q => f a o ho (q.imp (List.mem_append_left _) id)) (TrAll.keep r fun a o ho q => f a o ho (q.imp (List.mem_append_right _) id))
end
mutual
theorem Tr.isL : ∀ {v : V} {d : PyData} {ns : List Addr}, Tr H v d ns → ∀ b ∈ ns, ∃ xs, H b = some (.lst xs)
  | _, _, _, .lst h _ r, b, hb => by
    rcases List.mem_cons.mp hb with e | hb
    · exact ⟨_, by rw [e]; exact h⟩
    · exact TrAll.isL r b hb
  | _, _, _, .tup _ _ r, b, hb => TrAll.isL r b hb
theorem TrAll.isL : ∀ {vs : List V} {ds : List PyData} {ns : List Addr}, TrAll H vs ds ns → ∀ b ∈ ns, ∃ xs, H b = some (.lst xs)
  | _, _, _, .cons h r, b, hb => by
    rcases List.mem_append.mp hb with hb | hb
    · exact Tr.isL h b hb
    · exact TrAll.isL r b hb
end
theorem TrAll.length : ∀ {vs : List V} {ds : List PyData} {ns : List Addr}, TrAll H vs ds ns → vs.length = ds.length
  | _, _, _, .nil => rfl
  | _, _, _, .cons _ r => congrArg Nat.succ (TrAll.length r)
theorem TrAll.snoc : ∀ {vs : List V} {ds : List PyData} {ns : List Addr} {v : V} {d : PyData} {ms : List Addr}, TrAll H vs ds ns → Tr H v d ms → TrAll H (vs ++ [v]) (ds ++ [d]) (ns ++ ms)
  | _, _, _, _, _, ms, .nil, h => by
    have e := TrAll.cons h (.nil (H := H))
    rw [List.append_nil] at e
    exact e
  | _, _, _, _, _, _, .cons a r, h => by
    have e := TrAll.cons a (TrAll.snoc r h)
    rw [← List.append_assoc] at e
    exact e
end
def spSpoilt (n : Nat) : Sp := fun vs H Q _ => ∃ (x : V) (d : PyData) (ns : List Addr), vs = [x] ∧ Tr H x d ns ∧ ns.Nodup ∧ hgt d < n ∧ ∀ H', Kp (· ∈ ns) H H' → Q .non H'
def t_spoilt (K : PySem.W.Frag) (sp__law_spoilt : Sp) : TS := tSeq (tIfS (tB (tCB (rIsi K) (tCons (tVar 0) (tCons (tC (V.ty "dict")) tNil)))) (tSeq (tFor (iList K (tCB rListD (tCons (tVar 0) tNil))) (gName 1) (tDrop (tCall sp__law_spoilt [] C8.E0 (tCons (tDGet (tVar 0) (tVar 1)) tNil)))) (sDPut (tVar 0) (tC (V.str (Str.ofString "late"))) (tC (V.int 1)))) tNext) (tSeq (tIfS (tB (tCB (rIsiT K) (tCons (tVar 0) (tCons (tTup (tCons (tC (V.ty "list")) (tCons (tC (V.ty "tuple")) tNil))) tNil)))) (tFor (fun σ H_1 R => iList K (tVar 0) σ H_1 R ∨ iTup K (tVar 0) σ H_1 R) (gName 2) (tDrop (tCall sp__law_spoilt [] C8.E0 (tCons (tVar 2) tNil)))) tNext) (tIfS (tB (tCB (rIsi K) (tCons (tVar 0) (tCons (tC (V.ty "list")) tNil)))) (tDrop (tBM K "list" rAppend (tVar 0) (tCons (tC (V.str (Str.ofString "late"))) tNil))) tNext))
/-- the items from the i-th on, still told apart -/
def From (H : Hp) (xs : List V) (ds : List PyData) (i : Nat) (ms : List Addr) : Prop := TrAll H (xs.drop i) (ds.drop i) ms
theorem spoilt_for {n : Nat} {J : It} {G : Hp → Prop} {xs : List V} {ds : List PyData} {x : V} {ns : List Addr} {H1 : Hp} {D : Ends} {a : Addr} {o : HO} (w : Walk J xs.length G (YAt xs)) (hG : ∀ H', H' a = some o → G H') (ha : H1 a = some o) (hna : a ∉ ns)
    (hx : TrAll H1 xs ds ns) (hd : ns.Nodup) (hn : hgtAll ds < n) (q : ∀ v1 v2 H', Kp (· ∈ ns) H1 H' → D.nx [some x, v1, v2] H') :
    ForG J (gName 2) (tDrop (tCall (spSpoilt n) [] C8.E0 (tCons (tVar 2) tNil))) D (start ["thing", "key", "part"] [x]) H1 := by
  refine for_in w (fun i σ H => (∃ v1 v2, σ = [some x, v1, v2]) ∧ Kp (· ∈ ns) H1 H ∧ ∃ ms, (∀ b ∈ ms, b ∈ ns) ∧ ms.Nodup ∧ TrAll H (xs.drop i) (ds.drop i) ms) ⟨⟨_, _, rfl⟩, Kp.refl, ns, fun _ h => h, hd, hx⟩ (fun i σ H _ p => hG H (p.2.1 a o hna ha)) (fun i v σ H H' hi p yy => ?_) (fun σ H p => ?_)
  · obtain ⟨rfl, hv⟩ := yy
    obtain ⟨⟨v1, v2, rfl⟩, kp, ms, sub, nd, tr⟩ := p
    have hl : ds.length = xs.length := hx.length.symm
    have e1 : xs.drop i = v :: xs.drop (i + 1) := by
      rw [List.drop_eq_getElem_cons hi]
      congr 1
      rw [List.getElem?_eq_getElem hi] at hv
      exact Option.some.inj hv
    have hi2 : i < ds.length := by omega
    have e2 : ds.drop i = ds[i] :: ds.drop (i + 1) := List.drop_eq_getElem_cons hi2
    rw [e1, e2] at tr
    generalize hdi : ds[i] = di at tr
    have hdi2 : ds[i]? = some di := by rw [← hdi]; exact List.getElem?_eq_getElem hi2
    generalize xs.drop (i + 1) = xr at tr ⊢
    generalize ds.drop (i + 1) = dr at tr ⊢
    cases tr with
    | @cons _ _ _ _ m1 m2 t1 t2 =>
      obtain ⟨nd1, nd2, dj⟩ := List.nodup_append.mp nd
      walk_at "rr"
      refine ⟨v, di, m1, rfl, t1, nd1, Nat.lt_of_le_of_lt (hgt_get hdi2) hn, fun H4 k4 => ?_⟩
      refine ⟨⟨_, _, rfl⟩, kp.trans (k4.mono fun b hb => sub b (List.mem_append_left _ hb)), m2, fun b hb => sub b (List.mem_append_right _ hb), nd2, t2.keep fun b o ho q => k4 b o (fun hb => ?_) ho⟩
      rcases q with q | ⟨ys, q⟩
      · exact dj b hb b q rfl
      · obtain ⟨zs, e⟩ := t1.isL b hb
        rw [ho, q] at e
        cases e
  · obtain ⟨⟨v1, v2, rfl⟩, kp, _⟩ := p
    exact q _ _ _ kp
theorem rd_spoilt (K : PySem.W.Frag) (n : Nat) (vs : List V) (H : Hp) (Q : VK) (E : XK) (h : spSpoilt (n + 1) vs H Q E) : t_spoilt K (spSpoilt n) { nx := fun _ H' => Q .non H', rt := Q } (start ["thing", "key", "part"] vs) H := by
  obtain ⟨x, d, ns, rfl, ht, hd, hn, k⟩ := h
  have hx : Rp (fun _ => True) H x d := ht.rp fun _ _ => trivial
  unfold t_spoilt
  cases ht with
  | lst ha la ra =>
    rename_i a xs ds ns
    obtain ⟨hna, hdn⟩ := List.nodup_cons.mp hd
    walk_at "kk"
    refine ⟨by decide, fun p1 H1 n1 => ?_⟩
    have hx1 := hx.same n1.same
    have s1 := n1.same
    have t1 := n1.now
    have ha1 := s1 _ _ ha
    walk_at "kk"
    refine .inl ?_
    walk_at "kk"
    refine ⟨⟨xs, SqL.of ha1⟩, ?_⟩
    refine spoilt_for walk_list (fun H' e => SqL.of e) ha1 hna (ra.keep (Same.fix s1)) hdn (Nat.lt_of_succ_lt_succ hn) fun v1 v2 H2 k2 => ?_
    have ha2 := k2 _ _ hna ha1
    walk_at "kk"
    refine r_tyL (SqL.of ha2) ?_
    walk_at "kk"
    refine r_app ha2 la fun H3 w3 => ?_
    exact k _ (n1.kp.trans ((k2.mono fun b hb => List.mem_cons_of_mem _ hb).trans (w3.kp List.mem_cons_self)))
  | tup ha la ra =>
    rename_i a xs ds
    walk_at "kk"
    refine ⟨by decide, fun p1 H1 n1 => ?_⟩
    have hx1 := hx.same n1.same
    have s1 := n1.same
    have t1 := n1.now
    have ha1 := s1 _ _ ha
    walk_at "kk"
    refine .inr ?_
    walk_at "kk"
    refine ⟨⟨xs, SqT.of ha1⟩, ?_⟩
    have hna : a ∉ ns := fun hm => by
      obtain ⟨zs, e⟩ := ra.isL a hm
      rw [ha] at e
      cases e
    refine spoilt_for walk_tup (fun H' e => SqT.of e) ha1 hna (ra.keep (Same.fix s1)) hd (Nat.lt_of_succ_lt_succ hn) fun v1 v2 H2 k2 => ?_
    have ha2 := k2 _ _ hna ha1
    walk_at "kk"
    exact k _ (n1.kp.trans k2)
  | non =>
    walk_at "kk"
    refine ⟨by decide, fun p1 H1 n1 => ?_⟩
    have hx1 := hx.same n1.same
    have t1 := n1.now
    walk_at "kk"
    exact k _ n1.kp
  | bl b =>
    walk_at "kk"
    refine ⟨by decide, fun p1 H1 n1 => ?_⟩
    have hx1 := hx.same n1.same
    have t1 := n1.now
    walk_at "kk"
    exact k _ n1.kp
  | int b =>
    walk_at "kk"
    refine ⟨by decide, fun p1 H1 n1 => ?_⟩
    have hx1 := hx.same n1.same
    have t1 := n1.now
    walk_at "kk"
    exact k _ n1.kp
  | str b =>
    walk_at "kk"
    refine ⟨by decide, fun p1 H1 n1 => ?_⟩
    have hx1 := hx.same n1.same
    have t1 := n1.now
    walk_at "kk"
    exact k _ n1.kp
end Lw
end
section
set_option maxHeartbeats 4000000
/-! Lw5: tokens of a row. -/
/-- one step of a reading that needs no choice; all of them -/
local macro_rules | `(tactic| walk_at "r") => `(tactic| (first
  | (with_reducible refine Lw.r_seq ?_) | (with_reducible refine Lw.r_asg ?_) | (with_reducible refine Lw.r_ret ?_) | (with_reducible refine Lw.r_retN ?_) | (with_reducible refine Lw.r_drop ?_)
  | (with_reducible refine Lw.r_name ?_) | (with_reducible refine Lw.r_gsub ?_) | (with_reducible refine Lw.r_gcons ?_) | (with_reducible refine Lw.r_gnil ?_)
  | (with_reducible refine Lw.r_next ?_) | (with_reducible refine Lw.r_cont ?_) | (with_reducible refine Lw.r_brk ?_) | (with_reducible refine Lw.r_ifS ?_) | (with_reducible refine Lw.r_par ?_) | (with_reducible refine Lw.r_two ?_) | (with_reducible refine Lw.r_par3 ?_) | (with_reducible refine Lw.r_three ?_)
  | (with_reducible refine Lw.r_var (by with_unfolding_all rfl) ?_) | (with_reducible refine Lw.r_c ?_) | (with_reducible refine Lw.r_op ?_) | (with_reducible refine Lw.r_un ?_)
  | (with_reducible refine Lw.r_I0 ?_) | (with_reducible refine Lw.r_test ?_) | (with_reducible refine Lw.r_tB ?_) | (with_reducible refine Lw.r_bl ?_)
  | (with_reducible refine Lw.r_tand ?_) | (with_reducible refine Lw.r_tor ?_) | (with_reducible refine Lw.r_tnot ?_) | (with_reducible refine Lw.r_andV ?_) | (with_reducible refine Lw.r_orV ?_) | (with_reducible refine Lw.r_notV ?_) | (with_reducible refine Lw.r_tif ?_)
  | (with_reducible refine Lw.r_cb ?_) | (with_reducible refine Lw.r_cons ?_) | (with_reducible refine Lw.r_nil ?_) | (with_reducible refine Lw.r_call ?_) | (with_reducible refine Lw.r_lc ?_) | (with_reducible refine Lw.r_tyes ?_) | (with_reducible refine Lw.r_sl ?_) | (with_reducible refine Lw.r_part ?_) | (with_reducible refine Lw.r_nopart ?_) | (with_reducible refine Lw.r_inS ?_) | ((with_reducible refine Lw.r_lenS (by assumption) ?_); (try rw [SX.S_len])) | (with_reducible refine Lw.r_eqSS ?_) | (with_reducible refine Lw.r_neSS ?_) | (with_reducible refine Lw.r_for ?_) | (with_reducible refine Lw.r_iList ?_) | (with_reducible refine Lw.r_iTup ?_) | (with_reducible refine Lw.r_iKeys ?_) | (with_reducible refine Lw.r_iStr ?_) | (with_reducible refine Lw.r_iEnumS ?_) | (with_reducible refine Lw.r_zipA ?_) | (with_reducible refine Lw.r_liIt ?_) | (with_reducible refine Lw.r_lst ?_) | (with_reducible refine Lw.r_tup ?_)
  | (with_reducible refine Lw.r_bm ?_) | (with_reducible refine Lw.r_bm0 ?_) | (with_reducible refine Lw.r_tyS ?_)
  | (with_reducible refine Lw.r_ixL (L2.SqL.of (by assumption)) (by with_unfolding_all rfl) ?_) | (with_reducible refine Lw.r_ixT (L2.SqT.of (by assumption)) (by with_unfolding_all rfl) ?_)
  | (with_reducible refine Lw.r_eqI ?_) | (with_reducible refine Lw.r_neI ?_) | (with_reducible refine Lw.r_eqS ?_) | (with_reducible refine Lw.r_neS ?_) | (with_reducible refine Lw.r_eqB ?_) | (with_reducible refine Lw.r_neB ?_)
  | (with_reducible refine ⟨_, fun _ _ h => h, ?_⟩) | (with_reducible refine ⟨_, rfl, ?_⟩) | (with_reducible refine Or.inl ⟨_, rfl, ?_⟩)
  | (with_reducible refine Lw.r_ifnf ?_) | (with_reducible refine Lw.r_ifnt ?_) | (with_reducible refine L2.iteT ?_) | (with_reducible refine L2.iteF ?_)))
local macro_rules | `(tactic| walk_at "rr") => `(tactic| ((try dsimp only []); (repeat (walk_at "r"; (try dsimp only [])))))

namespace Lw
open PySem L2 SX
/-! ### runs -/
def LETS : List Nat := [97, 98, 99, 100, 101, 102, 103, 104, 105, 106, 107, 108, 109, 110, 111, 112, 113, 114, 115, 116, 117, 118, 119, 120, 121, 122]
def FIGS : List Nat := [48, 49, 50, 51, 52, 53, 54, 55, 56, 57]
def SGNS : List Nat := [40, 41, 44, 58]
theorem e_lets : Str.ofString "abcdefghijklmnopqrstuvwxyz" = S LETS := by decide +kernel
theorem e_figs : Str.ofString "0123456789" = S FIGS := by decide +kernel
theorem e_sgns : Str.ofString "(),:" = S SGNS := by decide +kernel
theorem e_q : Str.ofString "'" = S [39] := by decide +kernel
theorem e_sp : Str.ofString " " = S [32] := by decide +kernel
theorem e_hash : Str.ofString "#" = S [35] := by decide +kernel
def run (sg l : List Nat) : Nat := (l.takeWhile fun c => decide (c ∈ sg)).length
theorem run_nil (sg : List Nat) : run sg [] = 0 := rfl
theorem run_in {sg r : List Nat} {c : Nat} (h : c ∈ sg) : run sg (c :: r) = run sg r + 1 := by
  unfold run
  rw [List.takeWhile_cons, if_pos (decide_eq_true h)]
  rfl
theorem run_out {sg r : List Nat} {c : Nat} (h : c ∉ sg) : run sg (c :: r) = 0 := by
  unfold run
  rw [List.takeWhile_cons, if_neg (by rw [decide_eq_false h]; exact Bool.false_ne_true)]
  rfl
theorem run_le : ∀ (sg l : List Nat), run sg l ≤ l.length
  | _, [] => Nat.le_refl _
  | sg, c :: r => by
    by_cases h : c ∈ sg
    · rw [run_in h, List.length_cons]
      exact Nat.succ_le_succ (run_le sg r)
    · rw [run_out h]
      exact Nat.zero_le _
theorem run_all : ∀ (sg l : List Nat), ∀ c ∈ l.take (run sg l), c ∈ sg
  | _, [], c, h => by cases h
  | sg, d :: r, c, h => by
    by_cases hd : d ∈ sg
    · rw [run_in hd, List.take_succ_cons] at h
      rcases List.mem_cons.mp h with e | h
      · rw [e]; exact hd
      · exact run_all sg r c h
    · rw [run_out hd] at h
      cases h
def spRun : Sp := fun vs H Q _ => ∃ (l : List Nat) (p : Nat) (sg : List Nat), vs = [.str (S l), .int p, .str (S sg)] ∧ p ≤ l.length ∧ l.length ≤ sizeLine ∧ Q (.int ((p + run sg (l.drop p) : Nat))) H
def t_run_end (K : PySem.W.Frag) : TS := tSeq (tWhile (tAnd (tTest (tOp (rI0 fun i j => V.bl (decide (i < j))) (tVar 1) (tCB (fun xs H Q => ∃ z, xs = [V.str z] ∧ z.length ≤ sizeLine ∧ Q (V.int ↑z.length) H) (tCons (tVar 0) tNil)))) (tTest (tOp (fun x y H Q => ∃ c z, x = V.str { cps := #[c] } ∧ y = V.str z ∧ Q (V.bl (decide (c ∈ z.cps.toList))) H) (tOp rIxS (tVar 0) (tVar 1)) (tVar 2)))) (tAsg (tOp (rI0 fun i j => V.int (i + j)) (tVar 1) (tC (V.int 1))) (gName 1))) (tRet (tVar 1))
def spSpan : Sp := fun vs H Q _ => ∃ (l : List Nat) (p : Nat) (sg : List Nat), vs = [.str (S l), .int p, .str (S sg)] ∧ p ≤ l.length ∧ l.length ≤ sizeLine ∧ Q (.int (run sg (l.drop p) : Nat)) H
theorem drop_at {l : List Nat} {p : Nat} (h : p < l.length) : ∃ c, l[p]? = some c ∧ l.drop p = c :: l.drop (p + 1) := ⟨l[p], List.getElem?_eq_getElem h, List.drop_eq_getElem_cons h⟩
theorem rd_run_end (K : PySem.W.Frag) (vs : List V) (H : Hp) (Q : VK) (E : XK) (h : spRun vs H Q E) : t_run_end K { nx := fun _ H' => Q .non H', rt := Q } (start ["row", "place", "signs"] vs) H := by
  obtain ⟨l, p, sg, rfl, hp, hl, k⟩ := h
  unfold t_run_end
  walk_at "rr"
  refine r_while (fun m σ' H' => ∃ q : Nat, m = l.length - q ∧ q ≤ l.length ∧ H' = H ∧ σ' = [some (.str (S l)), some (.int q), some (.str (S sg))] ∧ p + run sg (l.drop p) = q + run sg (l.drop q)) (l.length - p) ⟨p, rfl, hp, rfl, rfl, rfl⟩ ?_
  rintro m σ' H' ⟨q, rfl, hq, rfl, rfl, e⟩
  walk_at "rr"
  refine r_ite (fun hc => ?_) (fun hc => ?_)
  · have hc' : q < l.length := by omega
    obtain ⟨c, h1, h2⟩ := drop_at hc'
    walk_at "rr"
    refine r_ixSS q rfl hl h1 ?_
    walk_at "rr"
    refine r_ite (fun hin => ?_) (fun hin => ?_)
    · walk_at "rr"
      refine ⟨l.length - (q + 1), by omega, q + 1, rfl, hc', rfl, rfl, ?_⟩
      rw [e, h2, run_in hin]
      omega
    · walk_at "rr"
      rw [h2, run_out hin] at e
      rw [e] at k
      exact k
  · walk_at "rr"
    have e2 : q = l.length := by omega
    rw [e2, List.drop_eq_nil_of_le (Nat.le_refl _), run_nil] at e
    rw [e] at k
    rw [e2]
    exact k
def t_span (K : PySem.W.Frag) : TS := tSeq (tAsg (tC (V.int 0)) (gName 3)) (tSeq (tFor (iStr (tSl rSlS (tVar 0) (tPart (tVar 1)) tNoPart)) (gName 4) (tSeq (tIfS (tTest (tOp (fun x y H Q => ∃ c z, x = V.str { cps := #[c] } ∧ y = V.str z ∧ Q (V.bl !decide (c ∈ z.cps.toList)) H) (tVar 4) (tVar 2))) (tRet (tVar 3)) tNext) (tAsg (tOp (rI0 fun i j => V.int (i + j)) (tVar 3) (tC (V.int 1))) (gName 3)))) (tRet (tVar 3)))
theorem rd_span (K : PySem.W.Frag) (vs : List V) (H : Hp) (Q : VK) (E : XK) (h : spSpan vs H Q E) : t_span K { nx := fun _ H' => Q .non H', rt := Q } (start ["row", "place", "signs", "found", "sign"] vs) H := by
  obtain ⟨l, p, sg, rfl, hp, hl, k⟩ := h
  unfold t_span
  walk_at "rr"
  refine r_slFrom p rfl hl ?_
  walk_at "rr"
  refine for_in walk_str (fun i σ H' => ∃ v4, σ = [some (.str (S l)), some (.int p), some (.str (S sg)), some (.int i), v4] ∧ H' = H ∧ run sg (l.drop p) = i + run sg ((l.drop p).drop i)) ⟨none, rfl, rfl, by simp⟩ (fun _ _ _ _ _ => trivial) ?_ ?_
  · rintro i x σ H1 H2 hi ⟨v4, rfl, rfl, e⟩ ⟨rfl, c, h1, rfl⟩
    rw [← Array.getElem?_toList] at h1
    have hi' : i < (l.drop p).length := hi
    obtain ⟨d, h3, h4⟩ := drop_at hi'
    have ed : d = c := by
      have h5 : (l.drop p)[i]? = some c := h1
      exact Option.some.inj (h3.symm.trans h5)
    subst ed
    walk_at "rr"
    refine r_iten (fun hin => ?_) (fun hin => ?_)
    · walk_at "rr"
      rw [h4, run_out hin] at e
      rw [e] at k
      exact k
    · walk_at "rr"
      refine ⟨rfl, ?_⟩
      rw [e, h4, run_in hin]
      omega
  · rintro σ H1 ⟨v4, rfl, rfl, e⟩
    walk_at "rr"
    have e3 : (S (l.drop p)).cps.size = (l.drop p).length := by simp [S]
    rw [e3] at e ⊢
    rw [List.drop_eq_nil_of_le (Nat.le_refl _), run_nil] at e
    rw [e] at k
    exact k
/-! ### one token -/
/-- the token at the head of r, how many signs it takes; p: its place -/
def tok1 (p : Nat) (r : List Nat) : Option (PyData × Nat) :=
  if 0 < run LETS r then some (.tuple [.str (Str.ofString "word"), .str (S (r.take (run LETS r))), .int p], run LETS r)
  else if 0 < run FIGS r then some (.tuple [.str (Str.ofString "number"), .int ((NumText.digitsVal (r.take (run FIGS r)) : Nat)), .int p], run FIGS r)
  else match r with
    | [] => none
    | c :: q => if c ∈ SGNS then some (.tuple [.str (Str.ofString "sign"), .str (S [c]), .int p], 1)
      else if c = 39 ∧ 0 < run LETS q then some (.tuple [.str (Str.ofString "quote"), .str (S (q.take (run LETS q))), .int p], run LETS q + 1) else none
theorem tok1_le {p n : Nat} {r : List Nat} {d : PyData} (h : tok1 p r = some (d, n)) : 0 < n ∧ n ≤ r.length := by
  unfold tok1 at h
  split at h
  · next h1 => cases h; exact ⟨h1, run_le _ _⟩
  · split at h
    · next h1 => cases h; exact ⟨h1, run_le _ _⟩
    · split at h
      · cases h
      · split at h
        · cases h; exact ⟨Nat.one_pos, by simp⟩
        · split at h
          · cases h; exact ⟨Nat.succ_pos _, Nat.succ_le_succ (run_le _ _)⟩
          · cases h
/-- the tokens of r from the place p on; where it stops unread -/
inductive Lex : Nat → List Nat → List PyData → Option Nat → Prop
  | nil (p : Nat) : Lex p [] [] none
  | sp {p : Nat} {r : List Nat} {ds : List PyData} {b : Option Nat} : Lex (p + 1) r ds b → Lex p (32 :: r) ds b
  | bad {p c : Nat} {r : List Nat} : c ≠ 32 → tok1 p (c :: r) = none → Lex p (c :: r) [] (some p)
  | tok {p c n : Nat} {r : List Nat} {d : PyData} {ds : List PyData} {b : Option Nat} : c ≠ 32 → tok1 p (c :: r) = some (d, n) → Lex (p + n) ((c :: r).drop n) ds b → Lex p (c :: r) (d :: ds) b
theorem Lex.one {p : Nat} {r : List Nat} {ds es : List PyData} {a b : Option Nat} (h : Lex p r ds a) (k : Lex p r es b) : ds = es ∧ a = b := by
  induction h generalizing es b with
  | nil p => cases k; exact ⟨rfl, rfl⟩
  | sp h ih =>
    cases k with
    | sp k => exact ih k
    | bad h1 _ => exact absurd rfl h1
    | tok h1 _ _ => exact absurd rfl h1
  | bad h1 h2 =>
    cases k with
    | sp k => exact absurd rfl h1
    | bad _ _ => exact ⟨rfl, rfl⟩
    | tok _ h3 _ => rw [h2] at h3; cases h3
  | tok h1 h2 h3 ih =>
    cases k with
    | sp k => exact absurd rfl h1
    | bad _ h4 => rw [h2] at h4; cases h4
    | tok _ h4 h5 =>
      rw [h2] at h4
      cases h4
      obtain ⟨e1, e2⟩ := ih h5
      exact ⟨by rw [e1], e2⟩
def lexF : Nat → Nat → List Nat → Option (List PyData × Option Nat)
  | 0, _, _ => none
  | _ + 1, _, [] => some ([], none)
  | f + 1, p, c :: r => if c = 32 then lexF f (p + 1) r else match tok1 p (c :: r) with
    | none => some ([], some p)
    | some (d, n) => (lexF f (p + n) ((c :: r).drop n)).map fun q => (d :: q.1, q.2)
theorem lexF_ok : ∀ {f p : Nat} {r : List Nat} {q : List PyData × Option Nat}, lexF f p r = some q → Lex p r q.1 q.2
  | 0, _, _, _, h => by cases h
  | _ + 1, p, [], _, h => by cases h; exact .nil p
  | f + 1, p, c :: r, q, h => by
    rw [lexF] at h
    split at h
    · next e => rw [e]; exact .sp (lexF_ok h)
    · next e =>
      split at h
      · next h1 => cases h; exact .bad e h1
      · next d n h1 =>
        cases h2 : lexF f (p + n) ((c :: r).drop n) with
        | none => rw [h2] at h; cases h
        | some z =>
          rw [h2] at h
          cases h
          exact .tok e h1 (lexF_ok h2)
theorem lex_all : ∀ (n p : Nat) (r : List Nat), r.length ≤ n → ∃ ds b, Lex p r ds b
  | _, p, [], _ => ⟨_, _, .nil p⟩
  | 0, _, _ :: _, h => by simp at h
  | n + 1, p, c :: r, h => by
    by_cases e : c = 32
    · obtain ⟨ds, b, q⟩ := lex_all n (p + 1) r (by simpa using h)
      exact ⟨ds, b, by rw [e]; exact .sp q⟩
    · cases h1 : tok1 p (c :: r) with
      | none => exact ⟨_, _, .bad e h1⟩
      | some z =>
        obtain ⟨d, m⟩ := z
        obtain ⟨m0, m1⟩ := tok1_le h1
        obtain ⟨ds, b, q⟩ := lex_all n (p + m) ((c :: r).drop m) (by rw [List.length_drop]; simp at h ⊢; omega)
        exact ⟨_, _, .tok e h1 q⟩
theorem drop_cons {l r : List Nat} {p c : Nat} (h : l.drop p = c :: r) (n : Nat) : (c :: r).drop n = l.drop (p + n) := by rw [← h, List.drop_drop]
/-! ### the program's own lexer -/
def spTok : Sp := fun vs H Q _ => ∃ (l : List Nat) (p : Nat), vs = [.str (S l), .int p] ∧ p < l.length ∧ l.length ≤ 640 ∧ (tok1 p (l.drop p) = none → Q .non H) ∧
  ∀ d n, tok1 p (l.drop p) = some (d, n) → ∀ a v H', Same H H' → H' a = some (.tup [v, .int ((p + n : Nat))]) → Tr H' v d [] → Q (.ref a) H'
def t_token_at (K : PySem.W.Frag) (sp_run_end : Sp) : TS := tSeq (tAsg (tCall sp_run_end [] C8.E0 (tCons (tVar 0) (tCons (tVar 1) (tCons (tC (V.str (Str.ofString "abcdefghijklmnopqrstuvwxyz"))) tNil)))) (gName 2)) (tSeq (tIfS (tTest (tOp (rI0 fun i j => V.bl (decide (j < i))) (tVar 2) (tVar 1))) (tRet (tTup (tCons (tTup (tCons (tC (V.str (Str.ofString "word"))) (tCons (tSl rSlS (tVar 0) (tPart (tVar 1)) (tPart (tVar 2))) (tCons (tVar 1) tNil)))) (tCons (tVar 2) tNil)))) tNext) (tSeq (tAsg (tCall sp_run_end [] C8.E0 (tCons (tVar 0) (tCons (tVar 1) (tCons (tC (V.str (Str.ofString "0123456789"))) tNil)))) (gName 2)) (tSeq (tIfS (tTest (tOp (rI0 fun i j => V.bl (decide (j < i))) (tVar 2) (tVar 1))) (tRet (tTup (tCons (tTup (tCons (tC (V.str (Str.ofString "number"))) (tCons (tCB (fun xs H Q => ∃ a n, xs = [V.str a] ∧ intText? a = some n ∧ a.length ≤ 640 ∧ Q (V.int n) H) (tCons (tSl rSlS (tVar 0) (tPart (tVar 1)) (tPart (tVar 2))) tNil)) (tCons (tVar 1) tNil)))) (tCons (tVar 2) tNil)))) tNext) (tSeq (tIfS (tTest (tOp (fun x y H Q => ∃ c z, x = V.str { cps := #[c] } ∧ y = V.str z ∧ Q (V.bl (decide (c ∈ z.cps.toList))) H) (tOp rIxS (tVar 0) (tVar 1)) (tC (V.str (Str.ofString "(),:"))))) (tRet (tTup (tCons (tTup (tCons (tC (V.str (Str.ofString "sign"))) (tCons (tOp rIxS (tVar 0) (tVar 1)) (tCons (tVar 1) tNil)))) (tCons (tOp (rI0 fun i j => V.int (i + j)) (tVar 1) (tC (V.int 1))) tNil)))) tNext) (tSeq (tAsg (tCall sp_run_end [] C8.E0 (tCons (tVar 0) (tCons (tOp (rI0 fun i j => V.int (i + j)) (tVar 1) (tC (V.int 1))) (tCons (tC (V.str (Str.ofString "abcdefghijklmnopqrstuvwxyz"))) tNil)))) (gName 2)) (tRet (tIf (tAnd (tTest (tOp rEq (tOp rIxS (tVar 0) (tVar 1)) (tC (V.str (Str.ofString "'"))))) (tTest (tOp (rI0 fun i j => V.bl (decide (j < i))) (tVar 2) (tOp (rI0 fun i j => V.int (i + j)) (tVar 1) (tC (V.int 1)))))) (tTup (tCons (tTup (tCons (tC (V.str (Str.ofString "quote"))) (tCons (tSl rSlS (tVar 0) (tPart (tOp (rI0 fun i j => V.int (i + j)) (tVar 1) (tC (V.int 1)))) (tPart (tVar 2))) (tCons (tVar 1) tNil)))) (tCons (tVar 2) tNil))) (tC V.non))))))))
theorem digits_all {r : List Nat} (h : 0 < run FIGS r) (hl : r.length ≤ 640) : PySem.intText? (S (r.take (run FIGS r))) = some ((NumText.digitsVal (r.take (run FIGS r)) : Nat) : Int) := by
  have h2 := run_le FIGS r
  refine SX.int_S ?_ ?_ ?_
  · rw [List.all_eq_true]
    intro c hc
    have h1 := run_all FIGS r c hc
    revert h1
    unfold FIGS
    intro h1
    simp only [List.mem_cons, List.not_mem_nil, or_false] at h1
    rcases h1 with e | e | e | e | e | e | e | e | e | e <;> (subst e; decide)
  · intro e
    have := congrArg List.length e
    rw [List.length_take, Nat.min_eq_left h2] at this
    simp at this
    omega
  · rw [List.length_take]
    omega
theorem tok_tr {H H' : Hp} {a : Addr} {k : Str} {v : V} {d : PyData} {p : Nat} (n : New H a (.tup [.str k, v, .int p]) H') (h : Tr H' v d []) : Tr H' (.ref a) (.tuple [.str k, d, .int p]) [] :=
  .tup n.now (show 3 < sizeLine by decide) (.cons (.str k) (.cons h (.cons (.int p) .nil)))
theorem rd_token_at (K : PySem.W.Frag) (vs : List V) (H : Hp) (Q : VK) (E : XK) (h : spTok vs H Q E) : t_token_at K spRun { nx := fun _ H' => Q .non H', rt := Q } (start ["row", "place", "end"] vs) H := by
  obtain ⟨l, p, rfl, hp, hl, k0, k1⟩ := h
  unfold t_token_at
  rw [e_lets, e_figs, e_sgns, e_q]
  have hz : l.length ≤ sizeLine := Nat.le_trans hl (by decide)
  obtain ⟨c, hc, hd⟩ := drop_at hp
  generalize hr : l.drop p = r at *
  have hlen : r.length = l.length - p := by rw [← hr, List.length_drop]
  have r1 := run_le LETS r
  have r2 := run_le FIGS r
  walk_at "rr"
  refine ⟨l, p, LETS, rfl, Nat.le_of_lt hp, hz, ?_⟩
  rw [hr]
  walk_at "rr"
  refine r_ite (fun hw => ?_) (fun hw => ?_)
  · have hw' : 0 < run LETS r := by omega
    have ht : tok1 p r = some (.tuple [.str (Str.ofString "word"), .str (S (r.take (run LETS r))), .int p], run LETS r) := by unfold tok1; rw [if_pos hw']
    walk_at "rr"
    refine r_slSS p (p + run LETS r) rfl rfl hz (by omega) ?_
    walk_at "rr"
    refine ⟨show 3 ≤ sizeLine by decide, fun a H1 n1 => ?_⟩
    walk_at "rr"
    refine ⟨show 2 ≤ sizeLine by decide, fun b H2 n2 => ?_⟩
    refine k1 _ _ ht b (.ref a) H2 (Same.trans n1.same n2.same) n2.now ?_
    rw [hr, Nat.add_sub_cancel_left] at n1
    exact (tok_tr n1 (.str _)).keep (Same.fix n2.same)
  · have hw' : ¬ 0 < run LETS r := by omega
    walk_at "rr"
    refine ⟨l, p, FIGS, rfl, Nat.le_of_lt hp, hz, ?_⟩
    rw [hr]
    walk_at "rr"
    refine r_ite (fun hf => ?_) (fun hf => ?_)
    · have hf' : 0 < run FIGS r := by omega
      have ht : tok1 p r = some (.tuple [.str (Str.ofString "number"), .int ((NumText.digitsVal (r.take (run FIGS r)) : Nat)), .int p], run FIGS r) := by unfold tok1; rw [if_neg hw', if_pos hf']
      walk_at "rr"
      refine r_slSS p (p + run FIGS r) rfl rfl hz (by omega) ?_
      rw [hr, Nat.add_sub_cancel_left]
      walk_at "rr"
      refine ⟨_, _, rfl, digits_all hf' (by omega), by rw [S_len, List.length_take]; omega, ?_⟩
      walk_at "rr"
      refine ⟨show 3 ≤ sizeLine by decide, fun a H1 n1 => ?_⟩
      walk_at "rr"
      refine ⟨show 2 ≤ sizeLine by decide, fun b H2 n2 => ?_⟩
      exact k1 _ _ ht b (.ref a) H2 (Same.trans n1.same n2.same) n2.now ((tok_tr n1 (.int _)).keep (Same.fix n2.same))
    · have hf' : ¬ 0 < run FIGS r := by omega
      walk_at "rr"
      refine r_ixSS p rfl hz hc ?_
      walk_at "rr"
      have hq := drop_cons (hr.trans hd) 1
      generalize hrr : l.drop (p + 1) = q at *
      subst hd
      have r3 := run_le LETS q
      refine r_ite (fun hs => ?_) (fun hs => ?_)
      · have ht : tok1 p (c :: q) = some (.tuple [.str (Str.ofString "sign"), .str (S [c]), .int p], 1) := by unfold tok1; rw [if_neg hw', if_neg hf']; exact if_pos hs
        walk_at "rr"
        refine r_ixSS p rfl hz hc ?_
        walk_at "rr"
        refine ⟨show 3 ≤ sizeLine by decide, fun a H1 n1 => ?_⟩
        walk_at "rr"
        refine ⟨show 2 ≤ sizeLine by decide, fun b H2 n2 => ?_⟩
        exact k1 _ _ ht b (.ref a) H2 (Same.trans n1.same n2.same) n2.now ((tok_tr n1 (.str _)).keep (Same.fix n2.same))
      · have hl1 : p + 1 ≤ l.length := hp
        walk_at "rr"
        refine ⟨l, p + 1, LETS, rfl, hl1, hz, ?_⟩
        rw [hrr]
        walk_at "rr"
        refine r_ixSS p rfl hz hc ?_
        walk_at "rr"
        have hlq : q.length + 1 ≤ l.length - p := by rw [← hlen]; simp
        refine r_ite (fun hc39 => ?_) (fun hc39 => ?_)
        · have e39 : c = 39 := by simpa using hc39
          walk_at "rr"
          refine r_ite (fun hg => ?_) (fun hg => ?_)
          · have hg' : 0 < run LETS q := by omega
            have ht : tok1 p (c :: q) = some (.tuple [.str (Str.ofString "quote"), .str (S (q.take (run LETS q))), .int p], run LETS q + 1) := by unfold tok1; rw [if_neg hw', if_neg hf']; exact (if_neg hs).trans (if_pos ⟨e39, hg'⟩)
            walk_at "rr"
            refine r_slSS (p + 1) (p + 1 + run LETS q) rfl rfl hz (by omega) ?_
            rw [hrr, Nat.add_sub_cancel_left]
            walk_at "rr"
            refine ⟨show 3 ≤ sizeLine by decide, fun a H1 n1 => ?_⟩
            walk_at "rr"
            refine ⟨show 2 ≤ sizeLine by decide, fun b H2 n2 => ?_⟩
            refine k1 _ _ ht b (.ref a) H2 (Same.trans n1.same n2.same) ?_ ((tok_tr n1 (.str _)).keep (Same.fix n2.same))
            rw [n2.now]
            have : p + 1 + run LETS q = p + (run LETS q + 1) := by omega
            rw [this]
          · walk_at "rr"
            refine k0 ?_
            unfold tok1
            rw [if_neg hw', if_neg hf']
            exact (if_neg hs).trans (if_neg fun z => hg (by have := z.2; omega))
        · walk_at "rr"
          refine k0 ?_
          unfold tok1
          rw [if_neg hw', if_neg hf']
          exact (if_neg hs).trans (if_neg fun z => hc39 (by rw [z.1]))
end Lw
end
section
set_option maxHeartbeats 4000000
/-! Lw6: the tokens of a row, by the program's lexer and by the law's. -/
/-- one step of a reading that needs no choice; all of them -/
local macro_rules | `(tactic| walk_at "r") => `(tactic| (first
  | (with_reducible refine Lw.r_seq ?_) | (with_reducible refine Lw.r_asg ?_) | (with_reducible refine Lw.r_ret ?_) | (with_reducible refine Lw.r_retN ?_) | (with_reducible refine Lw.r_drop ?_)
  | (with_reducible refine Lw.r_name ?_) | (with_reducible refine Lw.r_gsub ?_) | (with_reducible refine Lw.r_gcons ?_) | (with_reducible refine Lw.r_gnil ?_)
  | (with_reducible refine Lw.r_next ?_) | (with_reducible refine Lw.r_cont ?_) | (with_reducible refine Lw.r_brk ?_) | (with_reducible refine Lw.r_ifS ?_) | (with_reducible refine Lw.r_par ?_) | (with_reducible refine Lw.r_two ?_) | (with_reducible refine Lw.r_par3 ?_) | (with_reducible refine Lw.r_three ?_)
  | (with_reducible refine Lw.r_var (by with_unfolding_all rfl) ?_) | (with_reducible refine Lw.r_c ?_) | (with_reducible refine Lw.r_op ?_) | (with_reducible refine Lw.r_un ?_)
  | (with_reducible refine Lw.r_I0 ?_) | (with_reducible refine Lw.r_test ?_) | (with_reducible refine Lw.r_tB ?_) | (with_reducible refine Lw.r_bl ?_)
  | (with_reducible refine Lw.r_tand ?_) | (with_reducible refine Lw.r_tor ?_) | (with_reducible refine Lw.r_tnot ?_) | (with_reducible refine Lw.r_andV ?_) | (with_reducible refine Lw.r_orV ?_) | (with_reducible refine Lw.r_notV ?_) | (with_reducible refine Lw.r_tif ?_)
  | (with_reducible refine Lw.r_cb ?_) | (with_reducible refine Lw.r_cons ?_) | (with_reducible refine Lw.r_nil ?_) | (with_reducible refine Lw.r_call ?_) | (with_reducible refine Lw.r_lc ?_) | (with_reducible refine Lw.r_tyes ?_) | (with_reducible refine Lw.r_sl ?_) | (with_reducible refine Lw.r_part ?_) | (with_reducible refine Lw.r_nopart ?_) | (with_reducible refine Lw.r_inS ?_) | ((with_reducible refine Lw.r_lenS (by assumption) ?_); (try rw [SX.S_len])) | (with_reducible refine Lw.r_eqSS ?_) | (with_reducible refine Lw.r_neSS ?_) | (with_reducible refine Lw.r_for ?_) | (with_reducible refine Lw.r_iList ?_) | (with_reducible refine Lw.r_iTup ?_) | (with_reducible refine Lw.r_iKeys ?_) | (with_reducible refine Lw.r_iStr ?_) | (with_reducible refine Lw.r_iEnumS ?_) | (with_reducible refine Lw.r_zipA ?_) | (with_reducible refine Lw.r_liIt ?_) | (with_reducible refine Lw.r_lst ?_) | (with_reducible refine Lw.r_tup ?_)
  | (with_reducible refine Lw.r_bm ?_) | (with_reducible refine Lw.r_bm0 ?_) | (with_reducible refine Lw.r_tyS ?_)
  | (with_reducible refine Lw.r_ixL (L2.SqL.of (by assumption)) (by with_unfolding_all rfl) ?_) | (with_reducible refine Lw.r_ixT (L2.SqT.of (by assumption)) (by with_unfolding_all rfl) ?_)
  | (with_reducible refine Lw.r_eqI ?_) | (with_reducible refine Lw.r_neI ?_) | (with_reducible refine Lw.r_eqS ?_) | (with_reducible refine Lw.r_neS ?_) | (with_reducible refine Lw.r_eqB ?_) | (with_reducible refine Lw.r_neB ?_)
  | (with_reducible refine ⟨_, fun _ _ h => h, ?_⟩) | (with_reducible refine ⟨_, rfl, ?_⟩) | (with_reducible refine Or.inl ⟨_, rfl, ?_⟩)
  | (with_reducible refine Lw.r_ifnf ?_) | (with_reducible refine Lw.r_ifnt ?_) | (with_reducible refine L2.iteT ?_) | (with_reducible refine L2.iteF ?_)))
local macro_rules | `(tactic| walk_at "rr") => `(tactic| ((try dsimp only []); (repeat (walk_at "r"; (try dsimp only [])))))

namespace Lw
open PySem L2 SX
/-! ### what stands before the first c -/
def bef (c : Nat) (l : List Nat) : List Nat := l.takeWhile fun d => decide (d ≠ c)
theorem bef_cons_eq {c : Nat} {r : List Nat} : bef c (c :: r) = [] := by unfold bef; rw [List.takeWhile_cons, if_neg (by simp)]
theorem bef_cons_ne {c d : Nat} {r : List Nat} (h : d ≠ c) : bef c (d :: r) = d :: bef c r := by unfold bef; rw [List.takeWhile_cons, if_pos (decide_eq_true h)]
theorem bef_nm (c : Nat) : ∀ l : List Nat, c ∉ bef c l
  | [], h => by cases h
  | d :: r, h => by
    by_cases e : d = c
    · subst e; rw [bef_cons_eq] at h; cases h
    · rw [bef_cons_ne e] at h
      rcases List.mem_cons.mp h with q | q
      · exact e q.symm
      · exact bef_nm c r q
theorem bef_sub (c : Nat) : ∀ l : List Nat, ∀ d ∈ bef c l, d ∈ l
  | [], d, h => by cases h
  | x :: r, d, h => by
    by_cases e : x = c
    · subst e; rw [bef_cons_eq] at h; cases h
    · rw [bef_cons_ne e] at h
      rcases List.mem_cons.mp h with q | q
      · rw [q]; exact List.mem_cons_self
      · exact List.mem_cons_of_mem _ (bef_sub c r d q)
theorem bef_all {c : Nat} : ∀ {l : List Nat}, c ∉ l → bef c l = l
  | [], _ => rfl
  | d :: r, h => by
    rw [bef_cons_ne (fun e => h (by rw [e]; exact List.mem_cons_self)), bef_all fun q => h (List.mem_cons_of_mem _ q)]
theorem bef_split {c : Nat} : ∀ {l : List Nat}, c ∈ l → ∃ q, l = bef c l ++ c :: q
  | [], h => by cases h
  | d :: r, h => by
    by_cases e : d = c
    · subst e; exact ⟨r, by rw [bef_cons_eq]; rfl⟩
    · rcases List.mem_cons.mp h with q | q
      · exact absurd q.symm e
      · obtain ⟨z, hz⟩ := bef_split q
        exact ⟨z, by rw [bef_cons_ne e, List.cons_append, ← hz]⟩
theorem bef_len (c : Nat) (l : List Nat) : (bef c l).length ≤ l.length := by
  by_cases h : c ∈ l
  · obtain ⟨q, e⟩ := bef_split h
    have := congrArg List.length e
    rw [List.length_append] at this
    omega
  · rw [bef_all h]; exact Nat.le_refl _
theorem bef_take {c : Nat} {l : List Nat} (h : c ∈ l) : l.take (bef c l).length = bef c l := by
  obtain ⟨q, e⟩ := bef_split h
  have : (bef c l ++ c :: q).take (bef c l).length = bef c l := List.take_left
  rw [← e] at this
  exact this
theorem spl_bef (c : Nat) (l : List Nat) : ∃ r, TL.spl [c] 0 [] l = bef c l :: r := by
  by_cases h : c ∈ l
  · obtain ⟨q, e⟩ := bef_split h
    have h2 := TL.spl_part1 (S := []) (rest := q) (acc := []) (bef_nm c l)
    rw [List.nil_append] at h2
    have e2 : bef c l ++ ([c] ++ q) = l := by rw [List.singleton_append]; exact e.symm
    rw [e2] at h2
    exact ⟨_, h2⟩
  · exact ⟨[], by rw [TL.spl_last1 h, bef_all h]; rfl⟩
theorem idx_bef {c : Nat} {l : List Nat} (h : c ∈ l) : ∃ rest, Builtin.Str.occurrences (S l) (S [c]) 0 (S l).length 1 = (bef c l).length :: rest := by
  have at_iff : ∀ i, StrLaws.At (S l) (S [c]) (S l).length i ↔ l[i]? = some c := fun i => StrLaws.subAt_one (S l) c i
  obtain ⟨q, e⟩ := bef_split h
  have hat : l[(bef c l).length]? = some c := by
    have : (bef c l ++ c :: q)[(bef c l).length]? = some c := by simp
    rw [← e] at this
    exact this
  rcases StrLaws.occ_head (S l) (S [c]) 1 (Nat.le_refl _) with ⟨_, hn⟩ | ⟨i, r, h1, h2, h3⟩
  · exact absurd ((at_iff _).mpr hat) (hn _)
  · refine ⟨r, ?_⟩
    rw [h1]
    have hi := (at_iff i).mp h2
    have e1 : ¬ (bef c l).length < i := fun hlt => h3 _ hlt ((at_iff _).mpr hat)
    have e2 : ¬ i < (bef c l).length := fun hlt => by
      have h4 : (bef c l ++ c :: q)[i]? = some c := by rw [← e]; exact hi
      rw [List.getElem?_append_left hlt] at h4
      exact bef_nm c l (List.mem_of_getElem? h4)
    have e3 : i = (bef c l).length := by omega
    rw [e3]
/-! ### rows -/
theorem ixL0 {K : PySem.W.Frag} {H : Hp} {Q : VK} {p : Addr} {v : V} {xs : List V} (h : SqL K H p (v :: xs)) (q : Q v H) : rIxL K (.ref p) (.int 0) H Q := r_ixL h (by unfold atI ixN; simp) q
def optV : Option Nat → V
  | none => .non
  | some p => .int p
def spRow : Sp := fun vs H Q _ => ∃ l : List Nat, vs = [.str (S l)] ∧ l.length ≤ 640 ∧ ∀ ds b, Lex 0 (bef 35 l) ds b → ∀ a f ws H', Same H H' → H f = none → H' a = some (.tup [.ref f, optV b]) → H' f = some (.lst ws) → ws.length ≤ 640 → TrAll H' ws ds [] → Q (.ref a) H'
def t_row_tokens (K : PySem.W.Frag) (sp_token_at : Sp) : TS := tSeq (tPar3 1 2 0 (tCons (tLst tNil) (tCons (tC (V.int 0)) (tCons (tOp (rIxL K) (tBM K "str" (fun x xs H Q => ∃ a b, x = V.str a ∧ xs = [V.str b] ∧ (b.length == 0) = false ∧ a.length + 2 ≤ sizeLine ∧ rNewStrs (Txt.split a b) H Q) (tVar 0) (tCons (tC (V.str (Str.ofString "#"))) tNil)) (tC (V.int 0))) tNil)))) (tSeq (tWhile (tTest (tOp (rI0 fun i j => V.bl (decide (i < j))) (tVar 2) (tCB (fun xs H Q => ∃ z, xs = [V.str z] ∧ z.length ≤ sizeLine ∧ Q (V.int ↑z.length) H) (tCons (tVar 0) tNil)))) (tSeq (tIfS (tTest (tOp rEq (tOp rIxS (tVar 0) (tVar 2)) (tC (V.str (Str.ofString " "))))) (tSeq (tAsg (tOp (rI0 fun i j => V.int (i + j)) (tVar 2) (tC (V.int 1))) (gName 2)) tCont) tNext) (tSeq (tAsg (tCall sp_token_at [] C8.E0 (tCons (tVar 0) (tCons (tVar 2) tNil))) (gName 3)) (tSeq (tIfS (tTest (tOp (fun x y H Q => y = V.non ∧ Q (V.bl (decide (x = V.non))) H) (tVar 3) (tC V.non))) (tRet (tTup (tCons (tVar 1) (tCons (tVar 2) tNil)))) tNext) (tSeq (tDrop (tBM K "list" rAppend (tVar 1) (tCons (tOp (rIxT K) (tVar 3) (tC (V.int 0))) tNil))) (tAsg (tOp (rIxT K) (tVar 3) (tC (V.int 1))) (gName 2))))))) (tRet (tTup (tCons (tVar 1) (tCons (tC V.non) tNil)))))
theorem fix_wr {H H' : Hp} {f : Addr} {xs : List V} {o : HO} (h : H f = some (.lst xs)) (w : Wr H f o H') : Fix (· ∈ []) H H' := fun a u hu q => by
  rcases q with q | ⟨ys, q⟩
  · cases q
  · rw [w.off a fun e => ?_]
    · exact hu
    · subst e
      rw [h, q] at hu
      cases hu
theorem rd_row_tokens (K : PySem.W.Frag) (vs : List V) (H : Hp) (Q : VK) (E : XK) (h : spRow vs H Q E) : t_row_tokens K spTok { nx := fun _ H' => Q .non H', rt := Q } (start ["row", "found", "place", "told"] vs) H := by
  obtain ⟨l0, rfl, hl0, k⟩ := h
  unfold t_row_tokens
  rw [e_hash, e_sp]
  walk_at "rr"
  refine ⟨show 0 ≤ sizeLine by decide, fun f H1 n1 => ?_⟩
  walk_at "rr"
  obtain ⟨rest, hspl⟩ := spl_bef 35 l0
  have hl : (bef 35 l0).length ≤ 640 := Nat.le_trans (bef_len _ _) hl0
  have hz : (bef 35 l0).length ≤ sizeLine := Nat.le_trans hl (by decide)
  generalize bef 35 l0 = l at hspl hl hz k
  refine ⟨S l0, S [35], rfl, rfl, rfl, by rw [S_len]; exact Nat.le_trans (Nat.add_le_add_right hl0 2) (by decide), ?_⟩
  rw [split_S (by simp) (by decide), hspl]
  intro p2 hp2
  have n2 := new_upd (o := .lst ((List.map S (l :: rest)).map V.str)) hp2
  generalize upd H1 p2 _ = H2 at n2 ⊢
  have h2 : H2 p2 = some (.lst (.str (S l) :: (List.map S rest).map V.str)) := n2.now
  walk_at "rr"
  refine ixL0 (SqL.of h2) ?_
  walk_at "rr"
  have hf2 : H2 f = some (.lst []) := n2.same _ _ n1.now
  have s2 : Same H H2 := Same.trans n1.same n2.same
  have hf0 : H f = none := n1.was
  clear h2 n2 hp2
  refine r_while (fun m σ' H' => ∃ (p : Nat) (ws : List V) (ds : List PyData) (told : Option V), m = l.length - p ∧ p ≤ l.length ∧ σ' = [some (.str (S l)), some (.ref f), some (.int p), told] ∧ Same H H' ∧ H' f = some (.lst ws) ∧ ws.length ≤ p ∧ TrAll H' ws ds [] ∧
    ∀ es b, Lex p (l.drop p) es b → Lex 0 l (ds ++ es) b) l.length ⟨0, [], [], none, rfl, Nat.zero_le _, rfl, s2, hf2, Nat.le_refl _, .nil, fun es b q => q⟩ ?_
  clear n1 hf2 s2
  rintro m σ' H3 ⟨p, ws, ds, told, rfl, hp, rfl, s3, hf, hw, tr, lx⟩
  walk_at "rr"
  refine r_ite (fun hc => ?_) (fun hc => ?_)
  · have hc' : p < l.length := by omega
    obtain ⟨c, h1, h2⟩ := drop_at hc'
    walk_at "rr"
    refine r_ixSS p rfl hz h1 ?_
    walk_at "rr"
    refine r_ite (fun hsp => ?_) (fun hsp => ?_)
    · have e : c = 32 := by simpa using hsp
      subst e
      walk_at "rr"
      refine ⟨l.length - (p + 1), by omega, p + 1, ws, ds, told, rfl, hc', rfl, s3, hf, by omega, tr, fun es b q => lx es b ?_⟩
      rw [h2]
      exact .sp q
    · have e : c ≠ 32 := fun e => hsp (by rw [e])
      walk_at "rr"
      refine ⟨l, p, rfl, hc', hl, fun ht => ?_, fun d n ht a v H4 s4 ha htr => ?_⟩
      · walk_at "rr"
        refine r_nonand ?_
        walk_at "rr"
        refine if_non_yes ?_
        walk_at "rr"
        refine ⟨show 2 ≤ sizeLine by decide, fun a H4 n4 => ?_⟩
        refine k ds (some p) ?_ a f ws H4 (Same.trans s3 n4.same) hf0 n4.now (n4.same _ _ hf) (by omega) (tr.keep (Same.fix n4.same))
        have q := lx [] (some p) (by rw [h2]; rw [h2] at ht; exact .bad e ht)
        rw [List.append_nil] at q
        exact q
      · walk_at "rr"
        refine r_nonand ?_
        walk_at "rr"
        refine if_non_no (by intro q; cases q) ?_
        walk_at "rr"
        refine r_tyL (SqL.of (s4 _ _ hf)) ?_
        walk_at "rr"
        obtain ⟨n0, n1⟩ := tok1_le ht
        rw [List.length_drop] at n1
        refine r_app (s4 _ _ hf) (Nat.lt_of_le_of_lt (Nat.le_trans hw (Nat.le_trans hp hl)) (by decide)) fun H5 w5 => ?_
        have hfa : a ≠ f := fun e => by
          subst e
          rw [s4 _ _ hf] at ha
          cases ha
        have ha5 := (w5.off a hfa).trans ha
        walk_at "rr"
        refine ⟨l.length - (p + n), by omega, p + n, ws ++ [v], ds ++ [d], _, rfl, by omega, rfl, same_wr (Same.trans s3 s4) w5 hf0, w5.now, by simp; omega, ?_, fun es b q => ?_⟩
        · have fx := fix_wr (s4 _ _ hf) w5
          exact TrAll.snoc ((tr.keep (Same.fix s4)).keep fx) (htr.keep fx)
        · rw [List.append_assoc]
          refine lx _ _ ?_
          rw [h2] at ht ⊢
          exact .tok e ht (by rw [drop_cons h2]; exact q)
  · have e : p = l.length := by omega
    subst e
    walk_at "rr"
    refine ⟨show 2 ≤ sizeLine by decide, fun a H4 n4 => ?_⟩
    refine k ds none ?_ a f ws H4 (Same.trans s3 n4.same) hf0 n4.now (n4.same _ _ hf) (by omega) (tr.keep (Same.fix n4.same))
    have q := lx [] none (by rw [List.drop_eq_nil_of_le (Nat.le_refl _)]; exact .nil _)
    rw [List.append_nil] at q
    exact q
theorem tok1_word {p : Nat} {r : List Nat} (h : 0 < run LETS r) : tok1 p r = some (.tuple [.str (Str.ofString "word"), .str (S (r.take (run LETS r))), .int p], run LETS r) := by unfold tok1; rw [if_pos h]
theorem tok1_num {p : Nat} {r : List Nat} (h0 : ¬ 0 < run LETS r) (h : 0 < run FIGS r) : tok1 p r = some (.tuple [.str (Str.ofString "number"), .int ((NumText.digitsVal (r.take (run FIGS r)) : Nat)), .int p], run FIGS r) := by unfold tok1; rw [if_neg h0, if_pos h]
theorem tok1_sign {p c : Nat} {q : List Nat} (h0 : ¬ 0 < run LETS (c :: q)) (h1 : ¬ 0 < run FIGS (c :: q)) (h : c ∈ SGNS) : tok1 p (c :: q) = some (.tuple [.str (Str.ofString "sign"), .str (S [c]), .int p], 1) := by unfold tok1; rw [if_neg h0, if_neg h1]; exact if_pos h
theorem tok1_quote {p c : Nat} {q : List Nat} (h0 : ¬ 0 < run LETS (c :: q)) (h1 : ¬ 0 < run FIGS (c :: q)) (hs : c ∉ SGNS) (e : c = 39) (h : 0 < run LETS q) : tok1 p (c :: q) = some (.tuple [.str (Str.ofString "quote"), .str (S (q.take (run LETS q))), .int p], run LETS q + 1) := by unfold tok1; rw [if_neg h0, if_neg h1]; exact (if_neg hs).trans (if_pos ⟨e, h⟩)
theorem tok1_none {p c : Nat} {q : List Nat} (h0 : ¬ 0 < run LETS (c :: q)) (h1 : ¬ 0 < run FIGS (c :: q)) (hs : c ∉ SGNS) (h : ¬ (c = 39 ∧ 0 < run LETS q)) : tok1 p (c :: q) = none := by unfold tok1; rw [if_neg h0, if_neg h1]; exact (if_neg hs).trans (if_neg h)
theorem run_pos {sg q : List Nat} {c : Nat} (h : 0 < run sg (c :: q)) : c ∈ sg := by
  rcases Decidable.em (c ∈ sg) with e | e
  · exact e
  · rw [run_out e] at h; omega
def t_lrow (K : PySem.W.Frag) (sp__law_span : Sp) : TS := tSeq (tPar3 0 1 2 (tCons (tIf (tTest (tOp (fun x y H Q => ∃ c z, x = V.str { cps := #[c] } ∧ y = V.str z ∧ Q (V.bl (decide (c ∈ z.cps.toList))) H) (tC (V.str (Str.ofString "#"))) (tVar 0))) (tSl rSlS (tVar 0) tNoPart (tPart (tBM K "str" (fun x xs H Q => ∃ a b i rest, x = V.str a ∧ xs = [V.str b] ∧ Builtin.Str.occurrences a b 0 a.length 1 = i :: rest ∧ Q (V.int ↑i) H) (tVar 0) (tCons (tC (V.str (Str.ofString "#"))) tNil)))) (tVar 0)) (tCons (tLst tNil) (tCons (tC (V.int 0)) tNil)))) (tSeq (tFor (iEnumS (tCons (tVar 0) tNil)) (gTup K 2 (gCons (gName 3) (gCons (gName 4) gNil))) (tSeq (tPar 5 6 (tCons (tCall sp__law_span [] C8.E0 (tCons (tVar 0) (tCons (tVar 3) (tCons (tC (V.str (Str.ofString "abcdefghijklmnopqrstuvwxyz"))) tNil)))) (tCons (tCall sp__law_span [] C8.E0 (tCons (tVar 0) (tCons (tVar 3) (tCons (tC (V.str (Str.ofString "0123456789"))) tNil)))) tNil))) (tSeq (tAsg (tIf (tTest (tOp rEq (tVar 4) (tC (V.str (Str.ofString "'"))))) (tCall sp__law_span [] C8.E0 (tCons (tVar 0) (tCons (tOp (rI0 fun i j => V.int (i + j)) (tVar 3) (tC (V.int 1))) (tCons (tC (V.str (Str.ofString "abcdefghijklmnopqrstuvwxyz"))) tNil)))) (tC (V.int 0))) (gName 7)) (tIfS (tTest (tOp (rI0 fun i j => V.bl (decide (j < i))) (tVar 2) (tC (V.int 0)))) (tAsg (tOp (rI0 fun i j => V.int (i - j)) (tVar 2) (tC (V.int 1))) (gName 2)) (tIfS (tTest (tOp (rI0 fun i j => V.bl (decide (j < i))) (tVar 5) (tC (V.int 0)))) (tSeq (tDrop (tBM K "list" rAppend (tVar 1) (tCons (tTup (tCons (tC (V.str (Str.ofString "word"))) (tCons (tSl rSlS (tVar 0) (tPart (tVar 3)) (tPart (tOp (rI0 fun i j => V.int (i + j)) (tVar 3) (tVar 5)))) (tCons (tVar 3) tNil)))) tNil))) (tAsg (tOp (rI0 fun i j => V.int (i - j)) (tVar 5) (tC (V.int 1))) (gName 2))) (tIfS (tTest (tOp (rI0 fun i j => V.bl (decide (j < i))) (tVar 6) (tC (V.int 0)))) (tSeq (tDrop (tBM K "list" rAppend (tVar 1) (tCons (tTup (tCons (tC (V.str (Str.ofString "number"))) (tCons (tCB (fun xs H Q => ∃ a n, xs = [V.str a] ∧ intText? a = some n ∧ a.length ≤ 640 ∧ Q (V.int n) H) (tCons (tSl rSlS (tVar 0) (tPart (tVar 3)) (tPart (tOp (rI0 fun i j => V.int (i + j)) (tVar 3) (tVar 6)))) tNil)) (tCons (tVar 3) tNil)))) tNil))) (tAsg (tOp (rI0 fun i j => V.int (i - j)) (tVar 6) (tC (V.int 1))) (gName 2))) (tIfS (tTest (tOp (rI0 fun i j => V.bl (decide (j < i))) (tVar 7) (tC (V.int 0)))) (tSeq (tDrop (tBM K "list" rAppend (tVar 1) (tCons (tTup (tCons (tC (V.str (Str.ofString "quote"))) (tCons (tSl rSlS (tVar 0) (tPart (tOp (rI0 fun i j => V.int (i + j)) (tVar 3) (tC (V.int 1)))) (tPart (tOp (rI0 fun i j => V.int (i + j)) (tOp (rI0 fun i j => V.int (i + j)) (tVar 3) (tC (V.int 1))) (tVar 7)))) (tCons (tVar 3) tNil)))) tNil))) (tAsg (tVar 7) (gName 2))) (tIfS (tTest (tOp (fun x y H Q => ∃ c z, x = V.str { cps := #[c] } ∧ y = V.str z ∧ Q (V.bl (decide (c ∈ z.cps.toList))) H) (tVar 4) (tC (V.str (Str.ofString "(),:"))))) (tDrop (tBM K "list" rAppend (tVar 1) (tCons (tTup (tCons (tC (V.str (Str.ofString "sign"))) (tCons (tVar 4) (tCons (tVar 3) tNil)))) tNil))) (tIfS (tTest (tOp rNe (tVar 4) (tC (V.str (Str.ofString " "))))) (tRet (tTup (tCons (tVar 1) (tCons (tVar 3) tNil)))) tNext))))))))) (tRet (tTup (tCons (tVar 1) (tCons (tC V.non) tNil)))))
/-- before turn i: the tokens so far; s signs are yet to be passed over -/
def LAt (H0 : Hp) (l : List Nat) (f : Addr) (i s : Nat) (ws : List V) (ds : List PyData) (H : Hp) : Prop :=
  i + s ≤ l.length ∧ Same H0 H ∧ H f = some (.lst ws) ∧ ws.length ≤ i ∧ TrAll H ws ds [] ∧ ∀ es b, Lex (i + s) (l.drop (i + s)) es b → Lex 0 l (ds ++ es) b
theorem LAt.app {H0 H H5 : Hp} {l : List Nat} {f a : Addr} {i c n : Nat} {ws : List V} {d : PyData} {ds : List PyData} {q : List Nat} (h : LAt H0 l f i 0 ws ds H) (h0 : H0 f = none) (hd : l.drop i = c :: q) (e : c ≠ 32) (ht : tok1 i (c :: q) = some (d, n))
    {H4 : Hp} (s4 : Same H H4) (htr : Tr H4 (.ref a) d []) (w5 : Wr H4 f (.lst (ws ++ [.ref a])) H5) {m : Nat} (hm : m + 1 = n) : LAt H0 l f (i + 1) m (ws ++ [.ref a]) (ds ++ [d]) H5 := by
  obtain ⟨h1, h2, h3, h4, h5, h6⟩ := h
  obtain ⟨n0, n1⟩ := tok1_le ht
  rw [← hd, List.length_drop] at n1
  subst hm
  have fx := fix_wr (s4 _ _ h3) w5
  have e1 : i + 1 + m = i + (m + 1) := by omega
  refine ⟨by omega, same_wr (Same.trans h2 s4) w5 h0, w5.now, by simp; omega, TrAll.snoc ((h5.keep (Same.fix s4)).keep fx) (htr.keep fx), fun es b k => ?_⟩
  rw [List.append_assoc]
  refine h6 _ _ ?_
  rw [Nat.add_zero, hd]
  rw [e1] at k
  exact .tok e ht (by rw [drop_cons hd]; exact k)
theorem rd_lrow (K : PySem.W.Frag) (vs : List V) (H : Hp) (Q : VK) (E : XK) (h : spRow vs H Q E) : t_lrow K spSpan { nx := fun _ H' => Q .non H', rt := Q } (start ["row", "found", "skip", "place", "sign", "word", "figures", "quoted"] vs) H := by
  obtain ⟨l0, rfl, hl0, k⟩ := h
  unfold t_lrow
  rw [e_hash, e_sp, e_lets, e_figs, e_sgns, e_q]
  have hz0 : l0.length ≤ sizeLine := Nat.le_trans hl0 (by decide)
  have cut : ∀ P : V → Hp → Prop, P (.str (S (bef 35 l0))) H → tIf (tTest (tOp (fun x y H Q => ∃ c z, x = V.str { cps := #[c] } ∧ y = V.str z ∧ Q (V.bl (decide (c ∈ z.cps.toList))) H) (tC (V.str (S [35]))) (tVar 0))) (tSl rSlS (tVar 0) tNoPart (tPart (tBM K "str" (fun x xs H Q => ∃ a b i rest, x = V.str a ∧ xs = [V.str b] ∧ Builtin.Str.occurrences a b 0 a.length 1 = i :: rest ∧ Q (V.int ↑i) H) (tVar 0) (tCons (tC (V.str (S [35]))) tNil)))) (tVar 0) (start ["row", "found", "skip", "place", "sign", "word", "figures", "quoted"] [V.str (S l0)]) H P := by
    intro P hP
    walk_at "rr"
    refine r_ite (fun hin => ?_) (fun hin => ?_)
    · have hin' : 35 ∈ l0 := hin
      obtain ⟨rest, hi⟩ := idx_bef hin'
      walk_at "rr"
      refine ⟨S l0, S [35], _, rest, rfl, rfl, hi, ?_⟩
      walk_at "rr"
      refine r_slTo (bef 35 l0).length rfl hz0 ?_
      rw [bef_take hin']
      exact hP
    · have hin' : 35 ∉ l0 := hin
      walk_at "rr"
      rw [bef_all hin'] at hP
      exact hP
  walk_at "r"
  refine r_par3 ?_
  refine r_cons ?_
  refine cut _ ?_
  have hl : (bef 35 l0).length ≤ 640 := Nat.le_trans (bef_len _ _) hl0
  have hz : (bef 35 l0).length ≤ sizeLine := Nat.le_trans hl (by decide)
  generalize bef 35 l0 = l at hl hz k
  walk_at "rr"
  refine ⟨show 0 ≤ sizeLine by decide, fun f H1 n1 => ?_⟩
  walk_at "rr"
  have hf0 : H f = none := n1.was
  refine for_in walk_enumS (fun i σ H' => ∃ (s : Nat) (ws : List V) (ds : List PyData) (v3 v4 v5 v6 v7 : Option V), σ = [some (.str (S l)), some (.ref f), some (.int s), v3, v4, v5, v6, v7] ∧ LAt H l f i s ws ds H')
    ⟨0, [], [], _, _, _, _, _, rfl, Nat.zero_le _, n1.same, n1.now, Nat.le_refl _, .nil, fun es b q => q⟩ (fun _ _ _ _ _ => trivial) ?_ ?_
  · clear n1
    rintro i x σ H2 H3 hi ⟨s, ws, ds, v3, v4, v5, v6, v7, rfl, la⟩ ⟨T, x1, x2, rfl, hT, e3, e4, e5⟩
    obtain ⟨s3, hT3⟩ := same_upd_new hT e3
    have hi' : i < l.length := by have : (S l).cps.size = l.length := by simp [S]
                                  rw [this] at hi; exact hi
    obtain ⟨c, h1, hd⟩ := drop_at hi'
    have ex1 : x1 = .int i := by cases e4; rfl
    have ex2 : x2 = .str (S [c]) := by
      have e6 : (S l).cps[i]? = some c := by rw [← Array.getElem?_toList]; exact h1
      have e5' : Option.map (fun c => V.str ⟨#[c]⟩) (S l).cps[i]? = some x2 := e5
      rw [e6] at e5'
      cases e5'
      rfl
    subst ex1 ex2
    clear e3 e4 e5 hT
    have la3 : LAt H l f i s ws ds H3 := ⟨la.1, Same.trans la.2.1 s3, s3 _ _ la.2.2.1, la.2.2.2.1, la.2.2.2.2.1.keep (Same.fix s3), la.2.2.2.2.2⟩
    refine r_gtup (SqT.of hT3) (by rfl) ?_
    clear la s3 hT3
    walk_at "rr"
    refine ⟨l, i, LETS, rfl, Nat.le_of_lt hi', hz, ?_⟩
    walk_at "rr"
    refine ⟨l, i, FIGS, rfl, Nat.le_of_lt hi', hz, ?_⟩
    (try dsimp only [])
    iterate 4 (walk_at "r"; (try dsimp only []))
    refine cutE (fun x => ∃ g : Nat, x = .int g ∧ (c = 39 → g = run LETS (l.drop (i + 1))) ∧ (c ≠ 39 → g = 0)) (fun Q' hQ => ?_) (fun x hx => ?_)
    · walk_at "rr"
      refine r_ite (fun hc => ?_) (fun hc => ?_)
      · have e : c = 39 := by simpa using hc
        walk_at "rr"
        refine ⟨l, i + 1, LETS, rfl, hi', hz, ?_⟩
        exact hQ _ ⟨_, rfl, fun _ => rfl, fun n => absurd e n⟩
      · have e : c ≠ 39 := fun e => hc (by rw [e])
        walk_at "rr"
        exact hQ _ ⟨0, rfl, fun n => absurd n e, fun _ => rfl⟩
    obtain ⟨g, rfl, hg1, hg2⟩ := hx
    have hlen : (l.drop i).length = l.length - i := by rw [List.length_drop]
    have r1 := run_le LETS (l.drop i)
    have r2 := run_le FIGS (l.drop i)
    have r3 := run_le LETS (l.drop (i + 1))
    rw [List.length_drop] at r1 r2 r3
    walk_at "rr"
    refine r_ite (fun hs => ?_) (fun hs => ?_)
    · walk_at "rr"
      have hs1 : 0 < s := by omega
      refine ⟨s - 1, ws, ds, _, _, _, _, _, by rw [show ((s : Int) - 1) = ((s - 1 : Nat) : Int) by omega]; rfl, by have := la3.1; omega, la3.2.1, la3.2.2.1, Nat.le_succ_of_le la3.2.2.2.1, la3.2.2.2.2.1, ?_⟩
      rw [show i + 1 + (s - 1) = i + s by omega]
      exact la3.2.2.2.2.2
    · have s0 : s = 0 := by omega
      subst s0
      have hf3 := la3.2.2.1
      have hwl : ws.length < sizeLine := Nat.lt_of_le_of_lt (Nat.le_trans la3.2.2.2.1 (Nat.le_trans (Nat.le_of_lt hi') hl)) (by decide)
      walk_at "rr"
      refine r_ite (fun hw => ?_) (fun hw => ?_)
      · have hw' : 0 < run LETS (l.drop i) := by omega
        have e32 : c ≠ 32 := fun e => by rw [hd] at hw'; have := run_pos hw'; rw [e] at this; revert this; decide
        walk_at "rr"
        refine r_tyL (SqL.of hf3) ?_
        walk_at "rr"
        refine r_slSS i (i + run LETS (l.drop i)) rfl rfl hz (by omega) ?_
        walk_at "rr"
        refine ⟨show 3 ≤ sizeLine by decide, fun a H4 n4 => ?_⟩
        walk_at "rr"
        refine r_app (n4.same _ _ hf3) hwl fun H5 w5 => ?_
        walk_at "rr"
        rw [Nat.add_sub_cancel_left] at n4
        exact ⟨run LETS (l.drop i) - 1, _, _, _, _, _, _, _, by rw [show ((run LETS (l.drop i) : Nat) : Int) - 1 = ((run LETS (l.drop i) - 1 : Nat) : Int) by omega]; rfl, la3.app hf0 hd e32 (by rw [← hd]; exact tok1_word hw') n4.same (tok_tr n4 (.str _)) w5 (by omega)⟩
      · have hw' : ¬ 0 < run LETS (l.drop i) := by omega
        walk_at "rr"
        refine r_ite (fun hf => ?_) (fun hf => ?_)
        · have hf' : 0 < run FIGS (l.drop i) := by omega
          have e32 : c ≠ 32 := fun e => by rw [hd] at hf'; have := run_pos hf'; rw [e] at this; revert this; decide
          walk_at "rr"
          refine r_tyL (SqL.of hf3) ?_
          walk_at "rr"
          refine r_slSS i (i + run FIGS (l.drop i)) rfl rfl hz (by omega) ?_
          rw [Nat.add_sub_cancel_left]
          walk_at "rr"
          refine ⟨_, _, rfl, digits_all hf' (by omega), by rw [S_len, List.length_take]; omega, ?_⟩
          walk_at "rr"
          refine ⟨show 3 ≤ sizeLine by decide, fun a H4 n4 => ?_⟩
          walk_at "rr"
          refine r_app (n4.same _ _ hf3) hwl fun H5 w5 => ?_
          walk_at "rr"
          exact ⟨run FIGS (l.drop i) - 1, _, _, _, _, _, _, _, by rw [show ((run FIGS (l.drop i) : Nat) : Int) - 1 = ((run FIGS (l.drop i) - 1 : Nat) : Int) by omega]; rfl, la3.app hf0 hd e32 (by rw [← hd]; exact tok1_num hw' hf') n4.same (tok_tr n4 (.int _)) w5 (by omega)⟩
        · have hf' : ¬ 0 < run FIGS (l.drop i) := by omega
          rw [hd] at hw' hf'
          walk_at "rr"
          refine r_ite (fun hq => ?_) (fun hq => ?_)
          · have hq' : 0 < g := by omega
            have e39 : c = 39 := Classical.byContradiction fun e => by have := hg2 e; omega
            have eg := hg1 e39
            have hns : c ∉ SGNS := by rw [e39]; decide
            have e32 : c ≠ 32 := by rw [e39]; decide
            walk_at "rr"
            refine r_tyL (SqL.of hf3) ?_
            walk_at "rr"
            refine r_slSS (i + 1) (i + 1 + g) rfl rfl hz (by omega) ?_
            rw [Nat.add_sub_cancel_left]
            walk_at "rr"
            refine ⟨show 3 ≤ sizeLine by decide, fun a H4 n4 => ?_⟩
            walk_at "rr"
            refine r_app (n4.same _ _ hf3) hwl fun H5 w5 => ?_
            walk_at "rr"
            rw [eg] at n4 hq' ⊢
            exact ⟨run LETS (l.drop (i + 1)), _, _, _, _, _, _, _, rfl, la3.app hf0 hd e32 (tok1_quote hw' hf' hns e39 hq') n4.same (tok_tr n4 (.str _)) w5 rfl⟩
          · walk_at "rr"
            refine r_ite (fun hsg => ?_) (fun hsg => ?_)
            · have e32 : c ≠ 32 := fun e => by rw [e] at hsg; revert hsg; decide
              walk_at "rr"
              refine r_tyL (SqL.of hf3) ?_
              walk_at "rr"
              refine ⟨show 3 ≤ sizeLine by decide, fun a H4 n4 => ?_⟩
              walk_at "rr"
              refine r_app (n4.same _ _ hf3) hwl fun H5 w5 => ?_
              walk_at "rr"
              exact ⟨0, _, _, _, _, _, _, _, rfl, la3.app hf0 hd e32 (tok1_sign hw' hf' hsg) n4.same (tok_tr n4 (.str _)) w5 rfl⟩
            · walk_at "rr"
              refine r_iten (fun he => ?_) (fun he => ?_)
              · have e32 : c ≠ 32 := fun e => he (by rw [e])
                have hn : tok1 i (c :: l.drop (i + 1)) = none := tok1_none hw' hf' hsg (fun z => hq (by have := hg1 z.1; have := z.2; omega))
                walk_at "rr"
                refine ⟨show 2 ≤ sizeLine by decide, fun a H4 n4 => ?_⟩
                refine k ds (some i) ?_ a f ws H4 (Same.trans la3.2.1 n4.same) hf0 n4.now (n4.same _ _ hf3) (Nat.le_trans la3.2.2.2.1 (by omega)) (la3.2.2.2.2.1.keep (Same.fix n4.same))
                have q := la3.2.2.2.2.2 [] (some i) (by rw [Nat.add_zero, hd]; exact .bad e32 hn)
                rw [List.append_nil] at q
                exact q
              · have e32 : c = 32 := by simpa using he
                walk_at "rr"
                refine ⟨0, ws, ds, _, _, _, _, _, rfl, hi', la3.2.1, hf3, Nat.le_succ_of_le la3.2.2.2.1, la3.2.2.2.2.1, fun es b q => la3.2.2.2.2.2 es b ?_⟩
                rw [Nat.add_zero, hd, e32]
                exact .sp q
  · rintro σ H2 ⟨s, ws, ds, v3, v4, v5, v6, v7, rfl, la⟩
    have e3 : (S l).cps.size = l.length := by simp [S]
    rw [e3] at la
    have hs := la.1
    have s0 : s = 0 := by omega
    subst s0
    walk_at "rr"
    refine ⟨show 2 ≤ sizeLine by decide, fun a H4 n4 => ?_⟩
    refine k ds none ?_ a f ws H4 (Same.trans la.2.1 n4.same) hf0 n4.now (n4.same _ _ la.2.2.1) (Nat.le_trans la.2.2.2.1 hl) (la.2.2.2.2.1.keep (Same.fix n4.same))
    have q := la.2.2.2.2.2 [] none (by rw [Nat.add_zero, List.drop_eq_nil_of_le (Nat.le_refl _)]; exact .nil _)
    rw [List.append_nil] at q
    exact q
end Lw
end
section
set_option maxHeartbeats 4000000
/-! Lw7: the drawn rows. -/
/-- one step of a reading that needs no choice; all of them -/
local macro_rules | `(tactic| walk_at "r") => `(tactic| (first
  | (with_reducible refine Lw.r_seq ?_) | (with_reducible refine Lw.r_asg ?_) | (with_reducible refine Lw.r_ret ?_) | (with_reducible refine Lw.r_retN ?_) | (with_reducible refine Lw.r_drop ?_)
  | (with_reducible refine Lw.r_name ?_) | (with_reducible refine Lw.r_gsub ?_) | (with_reducible refine Lw.r_gcons ?_) | (with_reducible refine Lw.r_gnil ?_)
  | (with_reducible refine Lw.r_next ?_) | (with_reducible refine Lw.r_cont ?_) | (with_reducible refine Lw.r_brk ?_) | (with_reducible refine Lw.r_ifS ?_) | (with_reducible refine Lw.r_par ?_) | (with_reducible refine Lw.r_two ?_) | (with_reducible refine Lw.r_par3 ?_) | (with_reducible refine Lw.r_three ?_)
  | (with_reducible refine Lw.r_var (by with_unfolding_all rfl) ?_) | (with_reducible refine Lw.r_c ?_) | (with_reducible refine Lw.r_op ?_) | (with_reducible refine Lw.r_un ?_)
  | (with_reducible refine Lw.r_I0 ?_) | (with_reducible refine Lw.r_test ?_) | (with_reducible refine Lw.r_tB ?_) | (with_reducible refine Lw.r_bl ?_)
  | (with_reducible refine Lw.r_tand ?_) | (with_reducible refine Lw.r_tor ?_) | (with_reducible refine Lw.r_tnot ?_) | (with_reducible refine Lw.r_andV ?_) | (with_reducible refine Lw.r_orV ?_) | (with_reducible refine Lw.r_notV ?_) | (with_reducible refine Lw.r_tif ?_)
  | (with_reducible refine Lw.r_cb ?_) | (with_reducible refine Lw.r_cons ?_) | (with_reducible refine Lw.r_nil ?_) | (with_reducible refine Lw.r_call ?_) | (with_reducible refine Lw.r_lc ?_) | (with_reducible refine Lw.r_tyes ?_) | (with_reducible refine Lw.r_sl ?_) | (with_reducible refine Lw.r_part ?_) | (with_reducible refine Lw.r_nopart ?_) | (with_reducible refine Lw.r_inS ?_) | ((with_reducible refine Lw.r_lenS (by assumption) ?_); (try rw [SX.S_len])) | (with_reducible refine Lw.r_eqSS ?_) | (with_reducible refine Lw.r_neSS ?_) | (with_reducible refine Lw.r_for ?_) | (with_reducible refine Lw.r_iList ?_) | (with_reducible refine Lw.r_iTup ?_) | (with_reducible refine Lw.r_iKeys ?_) | (with_reducible refine Lw.r_iRng1 ?_) | (with_reducible refine Lw.r_iRng2 ?_) | (with_reducible refine Lw.r_callS ?_) | (with_reducible refine Lw.r_iStr ?_) | (with_reducible refine Lw.r_iEnumS ?_) | (with_reducible refine Lw.r_zipA ?_) | (with_reducible refine Lw.r_liIt ?_) | (with_reducible refine Lw.r_lst ?_) | (with_reducible refine Lw.r_tup ?_)
  | (with_reducible refine Lw.r_bm ?_) | (with_reducible refine Lw.r_bm0 ?_) | (with_reducible refine Lw.r_tyS ?_)
  | (with_reducible refine Lw.r_ixL (L2.SqL.of (by assumption)) (by with_unfolding_all rfl) ?_) | (with_reducible refine Lw.r_ixT (L2.SqT.of (by assumption)) (by with_unfolding_all rfl) ?_)
  | (with_reducible refine Lw.r_eqI ?_) | (with_reducible refine Lw.r_neI ?_) | (with_reducible refine Lw.r_eqS ?_) | (with_reducible refine Lw.r_neS ?_) | (with_reducible refine Lw.r_eqB ?_) | (with_reducible refine Lw.r_neB ?_)
  | (with_reducible refine ⟨_, fun _ _ h => h, ?_⟩) | (with_reducible refine ⟨_, rfl, ?_⟩) | (with_reducible refine Or.inl ⟨_, rfl, ?_⟩)
  | (with_reducible refine Lw.r_ifnf ?_) | (with_reducible refine Lw.r_ifnt ?_) | (with_reducible refine L2.iteT ?_) | (with_reducible refine L2.iteF ?_)))
local macro_rules | `(tactic| walk_at "rr") => `(tactic| ((try dsimp only []); (repeat (walk_at "r"; (try dsimp only [])))))

namespace Lw
open PySem L2 SX
/-- a statement, then the rest, with a word between them -/
theorem seqX {t u : TS} {D : Ends} {σ : L2.St} {H : Hp} (P : L2.St → Hp → Prop) (h : ∀ X : L2.St → Hp → Prop, (∀ σ H, P σ H → X σ H) → t { D with nx := X } σ H) (k : ∀ σ H, P σ H → u D σ H) : tSeq t u D σ H := h (u D) k
/-! ### the stream, a pick -/
theorem atI_nat {α : Type} {xs : List α} {n : Nat} {v : α} (h : xs[n]? = some v) : atI xs (n : Int) = some v := by
  have hn : n < xs.length := by
    rcases Nat.lt_or_ge n xs.length with h1 | h1
    · exact h1
    · rw [List.getElem?_eq_none h1] at h
      cases h
  have e : ixN xs.length (n : Int) = some n := by
    unfold ixN
    rw [if_pos (by omega), if_pos (by omega), Int.toNat_natCast]
  unfold atI
  rw [e]
  exact h
def spStream (K : PySem.W.Frag) : Sp := fun vs H Q _ => ∃ (s : Addr) (cs : List Int), vs = [.ref s] ∧ SqL K H s (cs.map V.int) ∧ cs.length ≤ sizeLine ∧ ∀ a b H', Same H H' → H a = none → H b = none → StreamAt H' a b 1000000 → Q (.ref a) H'
def t_stream (K : PySem.W.Frag) : TS := tRet (tLst (tCons (tCB (fun xs H_1 Q => ∃ p ys, xs = [V.ref p] ∧ (SqL K H_1 p ys ∨ SqT K H_1 p ys) ∧ ∀ (l : Addr), H_1 l = none → Q (V.ref l) (upd H_1 l (HO.lst ys))) (tCons (tVar 0) tNil)) (tCons (tC (V.int 0)) (tCons (tC (V.int 0)) (tCons (tC (V.int 19)) tNil)))))
theorem rd_stream (K : PySem.W.Frag) (vs : List V) (H : Hp) (Q : VK) (E : XK) (h : spStream K vs H Q E) : t_stream K { nx := fun _ H' => Q .non H', rt := Q } (start ["script"] vs) H := by
  obtain ⟨s, cs, rfl, hs, hl, k⟩ := h
  unfold t_stream
  walk_at "rr"
  refine ⟨s, cs.map V.int, rfl, .inl hs, fun b hb => ?_⟩
  have n1 := new_upd (o := HO.lst (cs.map V.int)) hb
  generalize upd H b _ = H1 at n1 ⊢
  walk_at "rr"
  refine ⟨show 4 ≤ sizeLine by decide, fun a H2 n2 => ?_⟩
  have hab : a ≠ b := fun e => by
    have := n2.was
    rw [e, n1.now] at this
    cases this
  exact k a b H2 (Same.trans n1.same n2.same) (fresh_up n1.same n2.was) hb ⟨cs, 0, 0, 19, hab, n2.now, n2.same _ _ n1.now, by decide, by decide, by decide, by decide, by decide⟩
def spPick : Sp := fun vs H Q _ => ∃ (a b q : Addr) (n : Nat) (xs : List V), vs = [.ref a, .ref q] ∧ StreamAt H a b (n + 1) ∧ H q = some (.lst xs) ∧ ¬ Two a b q ∧ 0 < xs.length ∧ xs.length < 1000000 ∧ ∀ v ∈ xs, ∀ H', Kp (Two a b) H H' → StreamAt H' a b n → Q v H'
def t_pick (K : PySem.W.Frag) (sp__law_draw : Sp) : TS := tRet (tOp (rIxL K) (tVar 1) (tCall sp__law_draw [] C8.E0 (tCons (tVar 0) (tCons (tCB (fun xs H_1 Q => ∃ p ys, xs = [V.ref p] ∧ (SqL K H_1 p ys ∨ SqT K H_1 p ys) ∧ Q (V.int ↑ys.length) H_1) (tCons (tVar 1) tNil)) tNil))))
theorem rd_pick (K : PySem.W.Frag) (vs : List V) (H : Hp) (Q : VK) (E : XK) (h : spPick vs H Q E) : t_pick K spDraw { nx := fun _ H' => Q .non H', rt := Q } (start ["stream", "things"] vs) H := by
  obtain ⟨a, b, q, n, xs, rfl, st, hq, hnq, h0, h1, k⟩ := h
  unfold t_pick
  walk_at "rr"
  refine ⟨q, xs, rfl, .inl (SqL.of hq), ?_⟩
  walk_at "rr"
  refine ⟨a, b, xs.length, n, rfl, st, by omega, by omega, fun d H1 d0 d1 kp st1 => ?_⟩
  obtain ⟨m, rfl⟩ := Int.eq_ofNat_of_zero_le d0
  have hm : m < xs.length := by omega
  have hx : xs[m]? = some xs[m] := List.getElem?_eq_getElem hm
  exact r_ixL (SqL.of (kp _ _ hnq hq)) (atI_nat hx) (k _ (List.mem_of_getElem? hx) H1 kp st1)
/-! ### a drawn row -/
/-- short, in one line -/
def okS : V → Bool
  | .str z => decide (z.cps.toList.length ≤ 20) && !(z.cps.toList.contains 10)
  | _ => false
theorem okS_ok {v : V} (h : okS v = true) : ∃ l : List Nat, v = .str (S l) ∧ l.length ≤ 20 ∧ 10 ∉ l := by
  cases v with
  | str z =>
    refine ⟨z.cps.toList, by rw [S_tl], ?_⟩
    have h' : (decide (z.cps.toList.length ≤ 20) && !(z.cps.toList.contains 10)) = true := h
    rw [Bool.and_eq_true, decide_eq_true_eq, Bool.not_eq_true'] at h'
    refine ⟨h'.1, fun hm => ?_⟩
    have := List.contains_iff_mem.mpr hm
    rw [this] at h'
    cases h'.2
  | _ => cases h
theorem all_okS {xs : List V} (h : xs.all okS = true) : ∀ v ∈ xs, ∃ l : List Nat, v = .str (S l) ∧ l.length ≤ 20 ∧ 10 ∉ l := fun v hv => okS_ok (List.all_eq_true.mp h v hv)
def spDrawn : Sp := fun vs H Q _ => ∃ (a b : Addr) (n : Nat), vs = [.ref a] ∧ StreamAt H a b (n + 20) ∧ ∀ (l : List Nat) H', l.length ≤ 300 → 10 ∉ l → Kp (Two a b) H H' → StreamAt H' a b n → Q (.str (S l)) H'
def t_drawn_row (K : PySem.W.Frag) (sp__law_draw : Sp) (sp__law_pick : Sp) : TS := tSeq (tPar 1 2 (tCons (tC (V.str (Str.ofString ""))) (tCons (tLst (tCons (tC (V.str (Str.ofString "people"))) (tCons (tC (V.str (Str.ofString "so"))) (tCons (tC (V.str (Str.ofString "a"))) (tCons (tC (V.str (Str.ofString "zz"))) (tCons (tC (V.str (Str.ofString "'a"))) (tCons (tC (V.str (Str.ofString "'"))) (tCons (tC (V.str (Str.ofString "''b"))) (tCons (tC (V.str (Str.ofString "can"))) (tCons (tC (V.str (Str.ofString "ann"))) (tCons (tC (V.str (Str.ofString "abcdefgh"))) (tCons (tC (V.str (Str.ofString "0"))) (tCons (tC (V.str (Str.ofString "7"))) (tCons (tC (V.str (Str.ofString "0012"))) (tCons (tC (V.str (Str.ofString "345678901234"))) tNil))))))))))))))) tNil))) (tSeq (tFor (iRng1 (tCons (tCall sp__law_draw [] C8.E0 (tCons (tVar 0) (tCons (tC (V.int 10)) tNil))) tNil)) (gName 3) (tSeq (tAsg (tCall sp__law_pick [] C8.E0 (tCons (tVar 0) (tCons (tOp rCat (tOp rCat (tVar 2) (tCB rListC (tCons (tC (V.str (Str.ofString "(),:"))) tNil))) (tLst (tCons (tC (V.str (Str.ofString " "))) (tCons (tC (V.str (Str.ofString "  "))) (tCons (tC (V.str (Str.ofString " "))) (tCons (tC (V.str (Str.ofString " "))) tNil)))))) tNil))) (gName 4)) (tSeq (tAsg (tOp (rI0 fun i j => V.int (i - j)) (tCB (fun xs H Q => ∃ z, xs = [V.str z] ∧ z.length ≤ sizeLine ∧ Q (V.int ↑z.length) H) (tCons (tVar 1) tNil)) (tCB (fun xs H Q => ∃ z, xs = [V.str z] ∧ z.length ≤ sizeLine ∧ Q (V.int ↑z.length) H) (tCons (tBM K "str" (fun x xs H Q => ∃ a b, x = V.str a ∧ xs = [V.str b] ∧ a.length ≤ sizeLine ∧ Q (V.str (Txt.rstripChars a b)) H) (tVar 1) (tCons (tC (V.str (Str.ofString "0123456789"))) tNil)) tNil))) (gName 5)) (tAsg (tOp (fun x y H Q => ∃ i j, x = V.str i ∧ y = V.str j ∧ i.length + j.length ≤ sizeLine ∧ Q (V.str (i ++ j)) H) (tVar 1) (tIf (tAnd (tB (tBM0 K "str" (fun x xs H Q => ∃ a, x = V.str a ∧ xs = [] ∧ True ∧ Q (V.bl (Txt.isdigit a)) H) (tVar 4))) (tTest (tOp (rI0 fun i j => V.bl (decide (j < i))) (tOp (rI0 fun i j => V.int (i + j)) (tVar 5) (tCB (fun xs H Q => ∃ z, xs = [V.str z] ∧ z.length ≤ sizeLine ∧ Q (V.int ↑z.length) H) (tCons (tVar 4) tNil))) (tC (V.int 30))))) (tOp (fun x y H Q => ∃ i j, x = V.str i ∧ y = V.str j ∧ i.length + j.length ≤ sizeLine ∧ Q (V.str (i ++ j)) H) (tC (V.str (Str.ofString " "))) (tVar 4)) (tVar 4))) (gName 1))))) (tSeq (tIfS (tTest (tOp rEq (tCall sp__law_draw [] C8.E0 (tCons (tVar 0) (tCons (tC (V.int 5)) tNil))) (tC (V.int 0)))) (tSeq (tAsg (tCall sp__law_draw [] C8.E0 (tCons (tVar 0) (tCons (tOp (rI0 fun i j => V.int (i + j)) (tCB (fun xs H Q => ∃ z, xs = [V.str z] ∧ z.length ≤ sizeLine ∧ Q (V.int ↑z.length) H) (tCons (tVar 1) tNil)) (tC (V.int 1))) tNil))) (gName 6)) (tSeq (tAsg (tCall sp__law_pick [] C8.E0 (tCons (tVar 0) (tCons (tOp rCat (tCB rListC (tCons (tC (V.str (Str.ofString "@-A_+;{}~Z.[]"))) tNil)) (tLst (tCons (tC (V.str (Str.ofString "\t"))) (tCons (tC (V.str (Str.ofString "'"))) (tCons (tC (V.str (Str.ofString "'1 "))) (tCons (tC (V.str (Str.ofString "a1 "))) (tCons (tC (V.str (Str.ofString "'a b"))) (tCons (tC (V.str (Str.ofString "_"))) tNil)))))))) tNil))) (gName 7)) (tAsg (tOp (fun x y H Q => ∃ i j, x = V.str i ∧ y = V.str j ∧ i.length + j.length ≤ sizeLine ∧ Q (V.str (i ++ j)) H) (tOp (fun x y H Q => ∃ i j, x = V.str i ∧ y = V.str j ∧ i.length + j.length ≤ sizeLine ∧ Q (V.str (i ++ j)) H) (tSl rSlS (tVar 1) tNoPart (tPart (tVar 6))) (tVar 7)) (tSl rSlS (tVar 1) (tPart (tVar 6)) tNoPart)) (gName 1)))) tNext) (tRet (tOp (fun x y H Q => ∃ i j, x = V.str i ∧ y = V.str j ∧ i.length + j.length ≤ sizeLine ∧ Q (V.str (i ++ j)) H) (tVar 1) (tIf (tTest (tOp rEq (tCall sp__law_draw [] C8.E0 (tCons (tVar 0) (tCons (tC (V.int 4)) tNil))) (tC (V.int 0)))) (tCall sp__law_pick [] C8.E0 (tCons (tVar 0) (tCons (tLst (tCons (tC (V.str (Str.ofString "# no @ sign ' 12"))) (tCons (tC (V.str (Str.ofString "#"))) (tCons (tC (V.str (Str.ofString "#a#b"))) tNil)))) tNil))) (tC (V.str (Str.ofString ""))))))))
theorem StreamAt.two {H : Hp} {a b q : Addr} {n : Nat} (h : StreamAt H a b n) (hq : H q = none) : ¬ Two a b q := fun z => by
  obtain ⟨cs, c, t, s, h1, h2, h3, _⟩ := h
  rcases z with e | e
  · rw [e, h2] at hq; cases hq
  · rw [e, h3] at hq; cases hq
theorem rd_drawn (K : PySem.W.Frag) (vs : List V) (H : Hp) (Q : VK) (E : XK) (h : spDrawn vs H Q E) : t_drawn_row K spDraw spPick { nx := fun _ H' => Q .non H', rt := Q } (start ["stream", "found", "some", "turn", "piece", "tail", "at", "odd"] vs) H := by
  obtain ⟨a, b, n, rfl, st, k⟩ := h
  unfold t_drawn_row
  rw [e_figs]
  have e_nil : Str.ofString "" = S [] := by decide +kernel
  have hSz : 100000 ≤ sizeLine := by decide +kernel
  have e_sp : V.str (Str.ofString " ") = V.str (S [32]) := by rw [e_sp]
  rw [e_nil]
  walk_at "r"
  refine r_par ?_
  refine r_cons ?_
  refine r_c ?_
  refine r_cons ?_
  refine r_lst ?_
  walk_at "rr"
  refine ⟨by decide, fun q H1 n1 => ?_⟩
  obtain ⟨base, hq1, hlb, hob⟩ : ∃ xs, H1 q = some (.lst xs) ∧ xs.length = 14 ∧ xs.all okS = true := ⟨_, n1.now, rfl, by decide +kernel⟩
  have hq2 : ¬ Two a b q := st.two n1.was
  have kp1 : Kp (Two a b) H H1 := n1.kp
  have st1 := st.at n1.same
  clear n1
  walk_at "rr"
  refine ⟨a, b, 10, n + 19, rfl, st1, by decide, by decide, fun d H2 d0 d1 kp2 st2 => ?_⟩
  have hq2' := kp2 _ _ hq2 hq1
  obtain ⟨m, rfl⟩ := Int.eq_ofNat_of_zero_le d0
  walk_at "rr"
  refine ⟨by omega, by omega, ?_⟩
  rw [Int.toNat_natCast]
  refine for_in walk_range (fun i σ H' => ∃ (l : List Nat) (v3 v4 v5 : Option V), σ = [some (.ref a), some (.str (S l)), some (.ref q), v3, v4, v5, none, none] ∧ l.length ≤ 21 * i ∧ 10 ∉ l ∧ Kp (Two a b) H H' ∧ StreamAt H' a b (n + 19 - i) ∧ H' q = some (.lst base))
    ⟨[], none, none, none, rfl, Nat.zero_le _, by simp, kp1.trans kp2, st2, hq2'⟩ (fun _ _ _ _ _ => trivial) ?_ ?_
  · clear kp1 kp2 st1 st2 hq1 hq2' st
    rintro i x σ Hold H3 hi ⟨l, v3, v4, v5, rfl, hl, h10, kp, st, hq⟩ ⟨rfl, rfl⟩
    have hi9 : i < 9 + 1 := by omega
    have hz : l.length ≤ sizeLine := Nat.le_trans hl (Nat.le_trans (Nat.mul_le_mul_left 21 (Nat.le_of_lt hi9)) (by decide))
    walk_at "rr"
    refine ⟨Str.ofString "(),:", rfl, by decide +kernel, fun p1 hp1 => ?_⟩
    have n1 := new_upd (o := HO.lst (signsV (Str.ofString "(),:"))) hp1
    generalize upd H3 p1 _ = H4 at n1 ⊢
    refine ⟨q, p1, base, signsV (Str.ofString "(),:"), rfl, rfl, n1.same _ _ hq, n1.now, by rw [hlb]; decide +kernel, fun p2 hp2 => ?_⟩
    have n2 := new_upd (o := HO.lst (base ++ signsV (Str.ofString "(),:"))) hp2
    generalize upd H4 p2 _ = H5 at n2 ⊢
    walk_at "rr"
    refine ⟨by decide, fun p3 H6 n3 => ?_⟩
    walk_at "rr"
    refine ⟨p2, p3, _, _, rfl, rfl, n3.same _ _ n2.now, n3.now, by rw [List.length_append, hlb]; decide +kernel, fun p4 hp4 => ?_⟩
    obtain ⟨xs, hxs, hlx, hox⟩ : ∃ xs, xs = (base ++ signsV (Str.ofString "(),:") ++ [V.str (Str.ofString " "), V.str (Str.ofString "  "), V.str (Str.ofString " "), V.str (Str.ofString " ")]) ∧ xs.length = 22 ∧ xs.all okS = true := by
      refine ⟨_, rfl, ?_, ?_⟩
      · rw [List.length_append, List.length_append, hlb]
        decide +kernel
      · rw [List.all_append, List.all_append, hob]
        decide +kernel
    rw [← hxs]
    have n4 := new_upd (o := HO.lst xs) hp4
    generalize upd H6 p4 _ = H7 at n4 ⊢
    have s7 : Same H3 H7 := Same.trans n1.same (Same.trans n2.same (Same.trans n3.same n4.same))
    have hp4' : ¬ Two a b p4 := st.two (fresh_up (Same.trans n1.same (Same.trans n2.same n3.same)) n4.was)
    walk_at "rr"
    have est : n + 19 - i = (n + 19 - (i + 1)) + 1 := by omega
    rw [est] at st
    refine ⟨a, b, p4, n + 19 - (i + 1), xs, rfl, st.at s7, n4.now, hp4', by omega, by omega, fun v hv H8 kp8 st8 => ?_⟩
    obtain ⟨o, rfl, ho, ho10⟩ := all_okS hox v hv
    have hoz : o.length ≤ sizeLine := Nat.le_trans ho (by decide)
    walk_at "rr"
    refine ⟨S l, S FIGS, rfl, rfl, by rw [S_len]; exact hz, ?_⟩
    walk_at "rr"
    refine ⟨Nat.le_trans (PyProof.Rows.len_rstripChars _ _) (by rw [S_len]; exact hz), ?_⟩
    walk_at "rr"
    refine ⟨rfl, trivial, ?_⟩
    have kpf : Kp (Two a b) H H8 := kp.trans ((Same.kp s7).trans kp8)
    have hqf := kp8 _ _ hq2 (s7 _ _ hq)
    have fin : ∀ o' : List Nat, o'.length ≤ 21 → 10 ∉ o' → ∀ v5 : Option V, ∃ (l' : List Nat) (v3 v4 v5' : Option V), [some (V.ref a), some (V.str (S l ++ S o')), some (V.ref q), some (V.int (0 + ↑i)), some (V.str (S o)), v5, none, none] = [some (.ref a), some (.str (S l')), some (.ref q), v3, v4, v5', none, none] ∧ l'.length ≤ 21 * (i + 1) ∧ 10 ∉ l' ∧ Kp (Two a b) H H8 ∧ StreamAt H8 a b (n + 19 - (i + 1)) ∧ H8 q = some (.lst base) := fun o' h1 h2 v5 =>
      ⟨l ++ o', _, _, _, by rw [S_cat], by rw [List.length_append]; omega, by rw [List.mem_append]; exact fun z => z.elim h10 h2, kpf, st8, hqf⟩
    walk_at "rr"
    refine r_iteb (fun hd => ?_) (fun hd => ?_)
    · walk_at "rr"
      refine r_ite (fun hc => ?_) (fun hc => ?_)
      · walk_at "rr"
        rw [e_sp]
        refine r_catS (by simp; omega) ?_
        rw [S_cat]
        refine r_catS (by simp; omega) ?_
        refine fin ([32] ++ o) (by simp; omega) (by simp; exact ho10) _
      · walk_at "rr"
        refine r_catS (by omega) ?_
        exact fin o (by omega) ho10 _
    · walk_at "rr"
      refine r_catS (by omega) ?_
      exact fin o (by omega) ho10 _
  · rintro σ H3 ⟨l, v3, v4, v5, rfl, hl, h10, kp, st, hq⟩
    have hz : l.length ≤ sizeLine := by omega
    have hl3 : l.length ≤ 189 := by omega
    obtain ⟨n', en, hn'⟩ : ∃ n', n + 19 - m = n' + 10 ∧ n ≤ n' := ⟨n + 19 - m - 10, by omega, by omega⟩
    rw [en] at st
    clear kp1 kp2 st1 st2 hq1 hq2' en
    dsimp only []
    refine seqX (fun σ H' => ∃ (l : List Nat) (v2 v3 v4 v5 v6 v7 : Option V), σ = [some (.ref a), some (.str (S l)), v2, v3, v4, v5, v6, v7] ∧ l.length ≤ 220 ∧ 10 ∉ l ∧ Kp (Two a b) H H' ∧ StreamAt H' a b (n + 2)) (fun X hX => ?_) ?_
    · walk_at "rr"
      refine ⟨a, b, 5, n' + 9, rfl, st, by decide, by decide, fun d H4 d0 d1 kp4 st4 => ?_⟩
      walk_at "rr"
      refine r_ite (fun hd => ?_) (fun hd => ?_)
      · walk_at "rr"
        refine ⟨a, b, (l.length : Int) + 1, n' + 8, rfl, st4, by omega, by omega, fun d H5 d0 d1 kp5 st5 => ?_⟩
        obtain ⟨j, rfl⟩ := Int.eq_ofNat_of_zero_le d0
        walk_at "rr"
        refine ⟨Str.ofString "@-A_+;{}~Z.[]", rfl, by decide +kernel, fun p1 hp1 => ?_⟩
        have n1 := new_upd (o := HO.lst (signsV (Str.ofString "@-A_+;{}~Z.[]"))) hp1
        generalize upd H5 p1 _ = H6 at n1 ⊢
        walk_at "rr"
        refine ⟨by decide, fun p3 H7 n3 => ?_⟩
        walk_at "rr"
        refine ⟨p1, p3, _, _, rfl, rfl, n3.same _ _ n1.now, n3.now, by decide +kernel, fun p4 hp4 => ?_⟩
        obtain ⟨xs, hxs, hlx, hox⟩ : ∃ xs, xs = (signsV (Str.ofString "@-A_+;{}~Z.[]") ++ [V.str (Str.ofString "\t"), V.str (Str.ofString "'"), V.str (Str.ofString "'1 "), V.str (Str.ofString "a1 "), V.str (Str.ofString "'a b"), V.str (Str.ofString "_")]) ∧ xs.length = 19 ∧ xs.all okS = true := ⟨_, rfl, by decide +kernel, by decide +kernel⟩
        rw [← hxs]
        have n4 := new_upd (o := HO.lst xs) hp4
        generalize upd H7 p4 _ = H8 at n4 ⊢
        have s8 : Same H5 H8 := Same.trans n1.same (Same.trans n3.same n4.same)
        have hp4' : ¬ Two a b p4 := st5.two (fresh_up (Same.trans n1.same n3.same) n4.was)
        walk_at "rr"
        refine ⟨a, b, p4, n' + 7, xs, rfl, st5.at s8, n4.now, hp4', by omega, by omega, fun v hv H9 kp9 st9 => ?_⟩
        obtain ⟨o, rfl, ho, ho10⟩ := all_okS hox v hv
        walk_at "rr"
        refine r_slTo j rfl hz ?_
        walk_at "rr"
        have lt : (l.take j).length ≤ l.length := by rw [List.length_take]; omega
        have ld : (l.drop j).length ≤ l.length := by rw [List.length_drop]; omega
        refine r_catS (by omega) ?_
        walk_at "rr"
        refine r_slFrom j rfl hz ?_
        rw [S_cat]
        refine r_catS (by rw [List.length_append]; omega) ?_
        walk_at "rr"
        rw [S_cat]
        refine hX _ _ ⟨_, _, _, _, _, _, _, rfl, ?_, ?_, kp.trans (kp4.trans (kp5.trans ((Same.kp s8).trans kp9))), st9.le (by omega)⟩
        · have e : (l.take j).length + (l.drop j).length = l.length := by rw [← List.length_append, List.take_append_drop]
          rw [List.length_append, List.length_append]
          omega
        · rw [List.mem_append, List.mem_append]
          exact fun z => z.elim (fun z => z.elim (fun z => h10 (List.mem_of_mem_take z)) ho10) fun z => h10 (List.mem_of_mem_drop z)
      · walk_at "rr"
        exact hX _ _ ⟨l, _, _, _, _, _, _, rfl, by omega, h10, kp.trans kp4, st4.le (by omega)⟩
    · clear st kp hq h10 hl3 hl hz
      rintro σ H4 ⟨l, v2, v3, v4, v5, v6, v7, rfl, hl, h10, kp, st⟩
      walk_at "rr"
      refine ⟨a, b, 4, n + 1, rfl, st, by decide, by decide, fun d H5 d0 d1 kp5 st5 => ?_⟩
      walk_at "rr"
      refine r_ite (fun hd => ?_) (fun hd => ?_)
      · walk_at "rr"
        refine ⟨by decide, fun p3 H7 n3 => ?_⟩
        walk_at "rr"
        obtain ⟨xs, hxs, hlx, hox⟩ : ∃ xs, H7 p3 = some (.lst xs) ∧ xs.length = 3 ∧ xs.all okS = true := ⟨_, n3.now, rfl, by decide +kernel⟩
        refine ⟨a, b, p3, n, xs, rfl, st5.at n3.same, hxs, st5.two n3.was, by omega, by omega, fun v hv H9 kp9 st9 => ?_⟩
        obtain ⟨o, rfl, ho, ho10⟩ := all_okS hox v hv
        refine r_catS (by omega) ?_
        rw [S_cat]
        exact k _ _ (by rw [List.length_append]; omega) (by rw [List.mem_append]; exact fun z => z.elim h10 ho10) (kp.trans (kp5.trans (n3.kp.trans kp9))) st9
      · walk_at "rr"
        refine r_catS (by simp; omega) ?_
        rw [S_cat]
        exact k _ _ (by rw [List.length_append]; simp; omega) (by rw [List.mem_append]; exact fun z => z.elim h10 (by simp)) (kp.trans kp5) (st5.le (Nat.le_succ _))
end Lw
end
section
set_option maxHeartbeats 4000000
/-! Lw8: own exceptions whose __init__ keeps one thing; what may be refused. -/
/-- one step of a reading that needs no choice; all of them -/
local macro_rules | `(tactic| walk_at "r") => `(tactic| (first
  | (with_reducible refine Lw.r_seq ?_) | (with_reducible refine Lw.r_asg ?_) | (with_reducible refine Lw.r_ret ?_) | (with_reducible refine Lw.r_retN ?_) | (with_reducible refine Lw.r_drop ?_)
  | (with_reducible refine Lw.r_name ?_) | (with_reducible refine Lw.r_gsub ?_) | (with_reducible refine Lw.r_gcons ?_) | (with_reducible refine Lw.r_gnil ?_)
  | (with_reducible refine Lw.r_next ?_) | (with_reducible refine Lw.r_cont ?_) | (with_reducible refine Lw.r_brk ?_) | (with_reducible refine Lw.r_ifS ?_) | (with_reducible refine Lw.r_par ?_) | (with_reducible refine Lw.r_two ?_) | (with_reducible refine Lw.r_par3 ?_) | (with_reducible refine Lw.r_three ?_)
  | (with_reducible refine Lw.r_var (by with_unfolding_all rfl) ?_) | (with_reducible refine Lw.r_c ?_) | (with_reducible refine Lw.r_op ?_) | (with_reducible refine Lw.r_un ?_)
  | (with_reducible refine Lw.r_I0 ?_) | (with_reducible refine Lw.r_test ?_) | (with_reducible refine Lw.r_tB ?_) | (with_reducible refine Lw.r_bl ?_)
  | (with_reducible refine Lw.r_tand ?_) | (with_reducible refine Lw.r_tor ?_) | (with_reducible refine Lw.r_tnot ?_) | (with_reducible refine Lw.r_andV ?_) | (with_reducible refine Lw.r_orV ?_) | (with_reducible refine Lw.r_notV ?_) | (with_reducible refine Lw.r_tif ?_)
  | (with_reducible refine Lw.r_cb ?_) | (with_reducible refine Lw.r_cons ?_) | (with_reducible refine Lw.r_nil ?_) | (with_reducible refine Lw.r_call ?_) | (with_reducible refine Lw.r_lc ?_) | (with_reducible refine Lw.r_tyes ?_) | (with_reducible refine Lw.r_sl ?_) | (with_reducible refine Lw.r_part ?_) | (with_reducible refine Lw.r_nopart ?_) | (with_reducible refine Lw.r_inS ?_) | ((with_reducible refine Lw.r_lenS (by assumption) ?_); (try rw [SX.S_len])) | (with_reducible refine Lw.r_eqSS ?_) | (with_reducible refine Lw.r_neSS ?_) | (with_reducible refine Lw.r_for ?_) | (with_reducible refine Lw.r_iList ?_) | (with_reducible refine Lw.r_iTup ?_) | (with_reducible refine Lw.r_iKeys ?_) | (with_reducible refine Lw.r_iRng1 ?_) | (with_reducible refine Lw.r_iRng2 ?_) | (with_reducible refine Lw.r_callS ?_) | (with_reducible refine Lw.r_iStr ?_) | (with_reducible refine Lw.r_iEnumS ?_) | (with_reducible refine Lw.r_zipA ?_) | (with_reducible refine Lw.r_liIt ?_) | (with_reducible refine Lw.r_lst ?_) | (with_reducible refine Lw.r_tup ?_)
  | (with_reducible refine Lw.r_bm ?_) | (with_reducible refine Lw.r_bm0 ?_) | (with_reducible refine Lw.r_tyS ?_)
  | (with_reducible refine Lw.r_ixL (L2.SqL.of (by assumption)) (by with_unfolding_all rfl) ?_) | (with_reducible refine Lw.r_ixT (L2.SqT.of (by assumption)) (by with_unfolding_all rfl) ?_)
  | (with_reducible refine Lw.r_eqI ?_) | (with_reducible refine Lw.r_neI ?_) | (with_reducible refine Lw.r_eqS ?_) | (with_reducible refine Lw.r_neS ?_) | (with_reducible refine Lw.r_eqB ?_) | (with_reducible refine Lw.r_neB ?_)
  | (with_reducible refine ⟨_, fun _ _ h => h, ?_⟩) | (with_reducible refine ⟨_, rfl, ?_⟩) | (with_reducible refine Or.inl ⟨_, rfl, ?_⟩)
  | (with_reducible refine Lw.r_ifnf ?_) | (with_reducible refine Lw.r_ifnt ?_) | (with_reducible refine L2.iteT ?_) | (with_reducible refine L2.iteF ?_)))
local macro_rules | `(tactic| walk_at "rr") => `(tactic| ((try dsimp only []); (repeat (walk_at "r"; (try dsimp only [])))))

namespace Lw
open PySem PySem.Spec PyProof.Rows L2 SX
/-- what __init__(self, f) does: self.f = f -/
def spInit (C : Addr) (f : Str) : Sp := fun vs H Q _ => ∃ (a : Addr) (y : V), vs = [.ref a, y] ∧ H a = some (exo a C none) ∧ ∀ dx, H dx = none → dx ≠ a → Q .non (upd (upd H dx (exd dx [(f, y)])) a (exo a C (some dx)))
/-- what the written part says of such a class -/
structure ExC (K : PySem.W.Frag) (mg : Str → Option Value) (x : Str) (C fI : Addr) (f : Str) : Prop where
  g : mg x = some (.ref C)
  o : OexC K C
  xf : XfC K C
  no : PySem.W.findIn K (.ref C) f = some none
  iC : PySem.W.findIn K (.ref C) "__init__" = some (some (.ref fI))
  tI : PySem.W.typeIn K (.ref fI) = some (.type "function")
  te : PySem.W.exmOne K (.ref C) (.ref C) = some true
theorem rd_init {K : PySem.W.Frag} {C : Addr} {f : Str} {N : List Str} (T : OexC K C) (no : PySem.W.findIn K (.ref C) f = some none) (hN : N.length = 2) (vs : List V) (H : Hp) (Q : VK) (E : XK) (h : spInit C f vs H Q E) :
    tOst K f (tVar 0) (tVar 1) { nx := fun _ H' => Q .non H', rt := Q } (start N vs) H := by
  obtain ⟨a, y, rfl, ha, k⟩ := h
  obtain ⟨n1, n2, rfl⟩ : ∃ n1 n2, N = [n1, n2] := by
    match N, hN with
    | [n1, n2], _ => exact ⟨n1, n2, rfl⟩
  exact ⟨y, rfl, .ref a, rfl, a, C, rfl, T, no, .inl ⟨ha, fun dx h1 h2 => k dx h1 h2⟩⟩
/-- C(y) raised -/
theorem mk_in {C : Addr} {f : Str} {y : V} {H1 : Hp} {QX : XK} {E : XK} (h : ∀ dx H', New H1 dx (.xd [(f, y)]) H' → QX (.ref C) (some dx) H') :
    [y].length ≤ 1000 ∧ ∀ a, H1 a = none → spInit C f (.ref a :: ([y] ++ [])) (upd H1 a (exo a C none))
      (fun v H2 => v = .non ∧ ∃ (d : Addr) (fs : List (Str × V)), H2 a = some (exo a C (some d)) ∧ H2 d = some (exd d fs) ∧ H1 d = none ∧ QX (.ref C) (some d) (upd (del H2 a) d (.xd fs))) E := by
  refine ⟨by simp, fun a ha => ⟨a, y, rfl, upd_same, fun dx h1 h2 => ⟨rfl, dx, [(f, y)], upd_same, by rw [upd_ne h2, upd_same], ?_, ?_⟩⟩⟩
  · rw [upd_ne h2] at h1
    exact h1
  · refine h dx _ ⟨?_, upd_same, fun b hb => ?_⟩
    · rw [upd_ne h2] at h1
      exact h1
    · rw [upd_ne hb]
      by_cases hba : b = a
      · rw [hba, del_same, ha]
      · rw [del_ne hba, upd_ne hba, upd_ne hb, upd_ne hba]
theorem r_mkO {C : Addr} {sp : Sp} {dvs : List V} {ta : TA} {σ : L2.St} {H : Hp} {Q : XK} (h : ta σ H fun vs H1 => vs.length ≤ 1000 ∧ ∀ a, H1 a = none → sp (.ref a :: (vs ++ dvs)) (upd H1 a (exo a C none))
  (fun v H2 => v = .non ∧ ∃ (d : Addr) (fs : List (Str × V)), H2 a = some (exo a C (some d)) ∧ H2 d = some (exd d fs) ∧ H1 d = none ∧ Q (.ref C) (some d) (upd (del H2 a) d (.xd fs))) (fun _ _ _ => False)) : tMkO C sp dvs ta σ H Q := h
/-- «raise x(..)» -/
theorem ps_raiseE {X : Cx} {W : WX} {x f : Str} {C fI : Addr} {k : Nat} {fd : FuncData} {e : Expr} {ta : TA} {p pos pos' : Pos} (hc : X.calm = true) (tk : Takes X W) (T : ExC X.K X.mg x C fI f) (F1 : FnOk X.prog X.w X.K X.mg X.base C8.CX0 k fI fd ["self", f] (spInit C f)) (hr : Room (k + 1) X.A)
    (hb : Binds X.K fd ["self", f] []) (hg : Gl X x) (ha : PA X [e] ta) (hdb : (x == ("__debug__" : Str)) = false := by decide) (he : starEach [e] X.env = (false, eval e X.env) :: starEach [] X.env := by rfl) (hpl : (backTo pos (starEach [] X.env)).any (·.1) = false := by rfl) :
    PS X (.Raise (some (.Call (.Name x p) [e] [] pos)) none pos') (fun _ σ H => tMkO C (spInit C f) [] ta σ H fun cls d H' => W cls d σ H') :=
  ps_raise hc tk (pmk_oex T.o T.iC T.tI F1 hr hb .nil (fun _ _ _ _ _ _ _ z => z.elim) hg T.g ha hdb he hpl)
/-! ### check_text, tokens -/
def spCheck (CN : Addr) : Sp := fun vs H Q E => ∃ x, vs = [x] ∧ ((∃ z, x = .str z ∧ Q x H) ∨ ∃ P d, Rp P H x d ∧ (∀ z, d ≠ .str z) ∧ ∀ dx H', New H dx (.xd [("text", x)]) H' → E (.ref CN) (some dx) H')
def t_check (K : PySem.W.Frag) (CN : Addr) (E : XK) : TS := tSeq (tIfS (tNot (tB (tCB (rIsi K) (tCons (tVar 0) (tCons (tC (V.ty "str")) tNil))))) (fun x σ H => tMkO CN (spInit CN (Str.ofString "text")) [] (tCons (tVar 0) tNil) σ H fun cls d H' => E cls d H') tNext) (tRet (tVar 0))
theorem kit_str {d : PyData} (h : ∀ z, d ≠ .str z) : kitB (tyN d) "str" = some false := by
  cases d with
  | str z => exact absurd rfl (h z)
  | _ => dsimp only [tyN]; decide +kernel
theorem rd_check (K : PySem.W.Frag) (CN : Addr) (vs : List V) (H : Hp) (Q : VK) (E : XK) (h : spCheck CN vs H Q E) : t_check K CN E { nx := fun _ H' => Q .non H', rt := Q } (start ["text"] vs) H := by
  obtain ⟨x, rfl, h⟩ := h
  unfold t_check
  walk_at "rr"
  rcases h with ⟨z, rfl, q⟩ | ⟨P, d, r, hd, q⟩
  · refine isi_yes (Rp.str (P := fun _ => True) z) (by dsimp only [tyN]; decide +kernel) ?_
    walk_at "rr"
    exact q
  · refine isi_no r (kit_str hd) ?_
    walk_at "rr"
    refine r_mkO ?_
    walk_at "rr"
    exact mk_in q
def LexQ (r : List Nat) (q : List PyData × Option Nat) : Prop := Lex 0 (bef 35 r) q.1 q.2
def spTokens (CN CU : Addr) : Sp := fun vs H Q E => ∃ x, vs = [x] ∧
  ((∃ P d, Rp P H x d ∧ (∀ z, d ≠ .str z) ∧ ∀ dx H', Same H H' → H dx = none → H' dx = some (.xd [("text", x)]) → E (.ref CN) (some dx) H') ∨
   ∃ (l : List Nat) (rows : List (List Nat)) (ls : List (List PyData × Option Nat)), x = .str (S l) ∧ l.length ≤ 100000 ∧ TL.spl [10] 0 [] l = rows ∧ (∀ r ∈ rows, r.length ≤ 640) ∧ Paired LexQ rows ls ∧
   ((∀ q ∈ ls, q.2 = none) → ∀ v ns H', Same H H' → Tr H' v (.list (ls.map fun q => .list q.1)) ns → ns.Nodup → (∀ a ∈ ns, H a = none) → Q v H') ∧
   (∀ (i : Nat) (ds : List PyData) (p : Nat), ls[i]? = some (ds, some p) → (∀ j, j < i → ∀ q, ls[j]? = some q → q.2 = none) → ∀ dx t H', Same H H' → H dx = none → H' t = some (.tup [.int i, .int p]) → H' dx = some (.xd [("at", .ref t)]) → E (.ref CU) (some dx) H'))
def t_tokens (K : PySem.W.Frag) (CU : Addr) (spc spr : Sp) (E : XK) : TS := tSeq (tAsg (tLst tNil) (gName 1)) (tSeq (tFor (iEnum K (tCons (tBM K "str" (fun x xs H Q => ∃ a b, x = V.str a ∧ xs = [V.str b] ∧ (b.length == 0) = false ∧ a.length + 2 ≤ sizeLine ∧ rNewStrs (Txt.split a b) H Q) (tCallS spc (fun σ => WE (fun cls d x H => E cls d H) σ) (tCons (tVar 0) tNil)) (tCons (tC (V.str (Str.ofString "\n"))) tNil)) tNil)) (gTup K 2 (gCons (gName 2) (gCons (gName 3) gNil))) (tSeq (tAsg (tCall spr [] C8.E0 (tCons (tVar 3) tNil)) (gTup K 2 (gCons (gName 4) (gCons (gName 5) gNil)))) (tSeq (tIfS (tTest (tOp (fun x y H Q => y = V.non ∧ Q (V.bl !decide (x = V.non)) H) (tVar 5) (tC V.non))) (fun x σ H => tMkO CU (spInit CU (Str.ofString "at")) [] (tCons (tTup (tCons (tVar 2) (tCons (tVar 5) tNil))) tNil) σ H fun cls d H' => E cls d H') tNext) (tDrop (tBM K "list" rAppend (tVar 1) (tCons (tVar 4) tNil)))))) (tRet (tVar 1)))
theorem r_iEnum {K : PySem.W.Frag} {ta : TA} {σ : L2.St} {H : Hp} {R : It → Hp → Prop} (h : ta σ H fun vs H1 => ∃ a xs, vs = [.ref a] ∧ SqL K H1 a xs ∧ R (Ite K a) H1) : iEnum K ta σ H R := h
theorem paired_at {α β : Type} {F : α → β → Prop} : ∀ {xs : List α} {ys : List β} {i : Nat} {x : α}, Paired F xs ys → xs[i]? = some x → ∃ y, ys[i]? = some y ∧ F x y
  | _, _, _, _, .nil, h => by cases h
  | _, _, 0, _, .cons r _, h => by cases h; exact ⟨_, rfl, r⟩
  | _, _, i + 1, _, .cons _ t, h => paired_at (i := i) t h
theorem rd_tokens (K : PySem.W.Frag) (CN CU : Addr) (vs : List V) (H : Hp) (Q : VK) (E : XK) (h : spTokens CN CU vs H Q E) : t_tokens K CU (spCheck CN) spRow E { nx := fun _ H' => Q .non H', rt := Q } (start ["text", "found", "line", "row", "some", "bad"] vs) H := by
  obtain ⟨x, rfl, h⟩ := h
  unfold t_tokens
  have e_nl : Str.ofString "\n" = S [10] := by decide +kernel
  rw [e_nl]
  walk_at "rr"
  refine ⟨by decide, fun f H1 n1 => ?_⟩
  walk_at "rr"
  refine r_iEnum ?_
  walk_at "rr"
  refine ⟨x, rfl, ?_⟩
  rcases h with ⟨P, d, r, hd, q⟩ | ⟨l, rows, ls, rfl, hl, hrows, hlen, hp, kq, ke⟩
  · refine .inr ⟨P, d, r.same n1.same, hd, fun dx H' n2 => ?_⟩
    exact q dx H' (Same.trans n1.same n2.same) (fresh_up n1.same n2.was) n2.now
  · refine .inl ⟨S l, rfl, ?_⟩
    walk_at "rr"
    have hSz : 200000 ≤ sizeLine := by decide +kernel
    refine ⟨S l, S [10], rfl, rfl, rfl, by rw [S_len]; omega, ?_⟩
    have hrl : rows.length ≤ l.length + 2 := by
      have h1 := PyProof.Rows.split_le (S l) (S [10])
      rw [split_S (by simp) (by decide), List.length_map, hrows, S_len] at h1
      exact h1
    rw [split_S (by simp) (by decide), hrows]
    intro lp hlp
    have n2 := new_upd (o := .lst ((rows.map S).map V.str)) hlp
    generalize upd H1 lp _ = H2 at n2 ⊢
    have hlv := n2.now
    generalize hrv : (rows.map S).map V.str = rv at hlv n2
    have hrvl : rv.length = rows.length := by rw [← hrv, List.length_map, List.length_map]
    walk_at "rr"
    refine ⟨lp, rv, rfl, SqL.of hlv, ?_⟩
    have hlsl : rows.length = ls.length := hp.length
    have flp : f ≠ lp := fun e => by
      have h3 := n2.was
      rw [← e, n1.now] at h3
      cases h3
    have hf0 : H f = none := n1.was
    have hlp0 : H lp = none := fresh_up n1.same n2.was
    refine for_in walk_enum (fun i σ H' => ∃ (ws : List V) (ns : List Addr) (v2 v3 v4 v5 : Option V), σ = [some (.str (S l)), some (.ref f), v2, v3, v4, v5] ∧ Same H H' ∧ H' f = some (.lst ws) ∧ H' lp = some (.lst rv) ∧ ws.length ≤ i ∧
        TrAll H' ws ((ls.take i).map fun q => .list q.1) ns ∧ ns.Nodup ∧ (∀ a ∈ ns, H a = none ∧ a ≠ f ∧ a ≠ lp) ∧ ∀ j, j < i → ∀ q, ls[j]? = some q → q.2 = none)
      ⟨[], [], _, _, _, _, rfl, Same.trans n1.same n2.same, n2.same _ _ n1.now, hlv, Nat.le_refl _, .nil, .nil, fun a ha => absurd ha (by simp), fun j hj => absurd hj (Nat.not_lt_zero _)⟩ (fun i σ H' _ ⟨ws, ns, v2, v3, v4, v5, _, _, _, h4, _⟩ => SqL.of h4) ?_ ?_
    · clear n1 n2 hlp
      rintro i x σ H3 H4 hi ⟨ws, ns, v2, v3, v4, v5, rfl, s3, hf, hlv3, hwl, tr, nd, hns, hno⟩ ⟨T, x1, x2, rfl, hT, e3, e4, e5⟩
      obtain ⟨s34, hT4⟩ := same_upd_new hT e3
      have hi' : i < rows.length := by rw [← hrvl]; exact hi
      obtain ⟨r, hr⟩ : ∃ r, rows[i]? = some r := ⟨rows[i], List.getElem?_eq_getElem hi'⟩
      have ex1 : x1 = .int i := by cases e4; rfl
      have ex2 : x2 = .str (S r) := by
        have e6 : rv[i]? = some x2 := e5
        rw [← hrv, List.getElem?_map, List.getElem?_map, hr] at e6
        cases e6
        rfl
      subst ex1 ex2
      obtain ⟨q, hq, hlex⟩ := paired_at hp hr
      obtain ⟨ds0, b0⟩ := q
      refine r_gtup (SqT.of hT4) (by rfl) ?_
      walk_at "rr"
      refine ⟨r, rfl, hlen r (List.mem_of_getElem? hr), fun ds b hl' a f2 ws2 H5 s5 hf2 ha hf2v hw2 tr2 => ?_⟩
      obtain ⟨e1, e2⟩ := hl'.one hlex
      subst e1 e2
      have s35 : Same H3 H5 := Same.trans s34 s5
      clear e3 e4 e5
      refine r_gtup (SqT.of ha) (by rfl) ?_
      walk_at "rr"
      refine r_nonand ?_
      walk_at "rr"
      cases b with
      | some p =>
        refine r_iten (fun _ => ?_) (fun h => absurd h (by intro z; cases z))
        refine r_mkO ?_
        walk_at "rr"
        refine ⟨show 2 ≤ sizeLine by decide, fun t H6 n6 => ?_⟩
        walk_at "rr"
        refine mk_in fun dx H7 n7 => ?_
        have s37 : Same H3 H7 := Same.trans s35 (Same.trans n6.same n7.same)
        exact ke i ds p hq hno dx t H7 (Same.trans s3 s37) (fresh_up (Same.trans s3 (Same.trans s35 n6.same)) n7.was) (n7.same _ _ n6.now) n7.now
      | none =>
        refine r_iten (fun h => absurd rfl h) (fun _ => ?_)
        walk_at "rr"
        refine r_tyL (SqL.of (s35 _ _ hf)) ?_
        walk_at "rr"
        refine r_app (s35 _ _ hf) (by omega) fun H6 w6 => ?_
        have hf20 : H3 f2 = none := fresh_up s34 hf2
        have nf2 : f2 ≠ f := fun e => by rw [e, hf] at hf20; cases hf20
        have nlp : f2 ≠ lp := fun e => by rw [e, hlv3] at hf20; cases hf20
        have fx : ∀ {ms : List Addr}, (∀ a ∈ ms, a ≠ f) → Fix (· ∈ ms) H5 H6 := fun hms a u hu q => by
          rw [w6.off a fun e => ?_]
          · exact hu
          · subst e
            rcases q with q | ⟨ys, q⟩
            · exact hms _ q rfl
            · rw [s35 _ _ hf, q] at hu
              cases hu
        refine ⟨ws ++ [.ref f2], ns ++ [f2], _, _, _, _, rfl, same_wr (Same.trans s3 s35) w6 hf0, w6.now, (w6.off lp (Ne.symm flp)).trans (s35 _ _ hlv3), by simp; omega, ?_, ?_, ?_, ?_⟩
        · rw [List.take_succ, hq, List.map_append]
          refine TrAll.snoc ((tr.keep (Same.fix s35)).keep (fx fun a ha => (hns a ha).2.1)) ?_
          exact .lst ((w6.off f2 nf2).trans hf2v) (by omega) (tr2.keep (fx fun a ha => absurd ha (by simp)))
        · refine List.nodup_append.mpr ⟨nd, by simp, fun a ha b hb => ?_⟩
          rw [List.mem_singleton] at hb
          rw [hb]
          intro e
          obtain ⟨zs, hz⟩ := tr.isL a ha
          rw [e, hf20] at hz
          cases hz
        · intro a ha
          rcases List.mem_append.mp ha with ha | ha
          · exact hns a ha
          · rw [List.mem_singleton] at ha
            rw [ha]
            exact ⟨fresh_up s3 hf20, nf2, nlp⟩
        · intro j hj q' hq'
          rcases Nat.lt_or_ge j i with h1 | h1
          · exact hno j h1 q' hq'
          · have e : j = i := by omega
            subst e
            rw [hq] at hq'
            cases hq'
            rfl
    · rintro σ H3 ⟨ws, ns, v2, v3, v4, v5, rfl, s3, hf, hlv3, hwl, tr, nd, hns, hno⟩
      walk_at "rr"
      rw [hrvl, hlsl, List.take_length] at tr
      refine kq (fun q hq => ?_) (.ref f) (f :: ns) H3 s3 (.lst hf (by omega) tr) (List.nodup_cons.mpr ⟨fun hm => (hns f hm).2.1 rfl, nd⟩) (fun a ha => ?_)
      · obtain ⟨j, hj⟩ := List.getElem?_of_mem hq
        have hjl : j < ls.length := by
          rcases Nat.lt_or_ge j ls.length with h1 | h1
          · exact h1
          · rw [List.getElem?_eq_none h1] at hj
            cases hj
        exact hno j (by omega) q hj
      · rcases List.mem_cons.mp ha with e | ha
        · rw [e]; exact hf0
        · exact (hns a ha).1
end Lw
end
section
set_option maxHeartbeats 4000000
/-! Lw9: what is met: a lambda handed to a def that catches two own exceptions. -/
/-- one step of a reading that needs no choice; all of them -/
local macro_rules | `(tactic| walk_at "r") => `(tactic| (first
  | (with_reducible refine Lw.r_seq ?_) | (with_reducible refine Lw.r_asg ?_) | (with_reducible refine Lw.r_ret ?_) | (with_reducible refine Lw.r_retN ?_) | (with_reducible refine Lw.r_drop ?_)
  | (with_reducible refine Lw.r_name ?_) | (with_reducible refine Lw.r_gsub ?_) | (with_reducible refine Lw.r_gcons ?_) | (with_reducible refine Lw.r_gnil ?_)
  | (with_reducible refine Lw.r_next ?_) | (with_reducible refine Lw.r_cont ?_) | (with_reducible refine Lw.r_brk ?_) | (with_reducible refine Lw.r_ifS ?_) | (with_reducible refine Lw.r_par ?_) | (with_reducible refine Lw.r_two ?_) | (with_reducible refine Lw.r_par3 ?_) | (with_reducible refine Lw.r_three ?_)
  | (with_reducible refine Lw.r_var (by with_unfolding_all rfl) ?_) | (with_reducible refine Lw.r_c ?_) | (with_reducible refine Lw.r_op ?_) | (with_reducible refine Lw.r_un ?_)
  | (with_reducible refine Lw.r_I0 ?_) | (with_reducible refine Lw.r_test ?_) | (with_reducible refine Lw.r_tB ?_) | (with_reducible refine Lw.r_bl ?_)
  | (with_reducible refine Lw.r_tand ?_) | (with_reducible refine Lw.r_tor ?_) | (with_reducible refine Lw.r_tnot ?_) | (with_reducible refine Lw.r_andV ?_) | (with_reducible refine Lw.r_orV ?_) | (with_reducible refine Lw.r_notV ?_) | (with_reducible refine Lw.r_tif ?_)
  | (with_reducible refine Lw.r_cb ?_) | (with_reducible refine Lw.r_cons ?_) | (with_reducible refine Lw.r_nil ?_) | (with_reducible refine Lw.r_call ?_) | (with_reducible refine Lw.r_lc ?_) | (with_reducible refine Lw.r_tyes ?_) | (with_reducible refine Lw.r_sl ?_) | (with_reducible refine Lw.r_part ?_) | (with_reducible refine Lw.r_nopart ?_) | (with_reducible refine Lw.r_inS ?_) | ((with_reducible refine Lw.r_lenS (by assumption) ?_); (try rw [SX.S_len])) | (with_reducible refine Lw.r_eqSS ?_) | (with_reducible refine Lw.r_neSS ?_) | (with_reducible refine Lw.r_for ?_) | (with_reducible refine Lw.r_iList ?_) | (with_reducible refine Lw.r_iTup ?_) | (with_reducible refine Lw.r_iKeys ?_) | (with_reducible refine Lw.r_iRng1 ?_) | (with_reducible refine Lw.r_iRng2 ?_) | (with_reducible refine Lw.r_callS ?_) | (with_reducible refine Lw.r_iStr ?_) | (with_reducible refine Lw.r_iEnumS ?_) | (with_reducible refine Lw.r_zipA ?_) | (with_reducible refine Lw.r_liIt ?_) | (with_reducible refine Lw.r_lst ?_) | (with_reducible refine Lw.r_tup ?_)
  | (with_reducible refine Lw.r_bm ?_) | (with_reducible refine Lw.r_bm0 ?_) | (with_reducible refine Lw.r_tyS ?_)
  | (with_reducible refine Lw.r_ixL (L2.SqL.of (by assumption)) (by with_unfolding_all rfl) ?_) | (with_reducible refine Lw.r_ixT (L2.SqT.of (by assumption)) (by with_unfolding_all rfl) ?_)
  | (with_reducible refine Lw.r_eqI ?_) | (with_reducible refine Lw.r_neI ?_) | (with_reducible refine Lw.r_eqS ?_) | (with_reducible refine Lw.r_neS ?_) | (with_reducible refine Lw.r_eqB ?_) | (with_reducible refine Lw.r_neB ?_)
  | (with_reducible refine ⟨_, fun _ _ h => h, ?_⟩) | (with_reducible refine ⟨_, rfl, ?_⟩) | (with_reducible refine Or.inl ⟨_, rfl, ?_⟩)
  | (with_reducible refine Lw.r_ifnf ?_) | (with_reducible refine Lw.r_ifnt ?_) | (with_reducible refine L2.iteT ?_) | (with_reducible refine L2.iteF ?_)))
local macro_rules | `(tactic| walk_at "rr") => `(tactic| ((try dsimp only []); (repeat (walk_at "r"; (try dsimp only [])))))

namespace Lw
open PySem PySem.Spec PyProof.Rows L2 SX
theorem takes_len {X : Cx} {W : WX} (t : Takes X W) : Takes X (fun cls d σ H => σ.length = X.N.length → W cls d σ H) := fun u s' ⟨a, B, sI, pins, σ, H, cls, d, e, I, nb, up, sky, na, os, ag, w⟩ =>
  t u s' ⟨a, B, sI, pins, σ, H, cls, d, e, I, nb, up, sky, na, os, ag, w I.len⟩
/-- what was met -/
def metX (CN CU : Addr) (Q : VK) : XK := fun cls d H' =>
  (cls = .ref CN ∧ ∃ dd v, d = some dd ∧ H' dd = some (.xd [("text", v)]) ∧ ∀ p H2, New H' p (.tup [.str "text", v]) H2 → Q (.ref p) H2) ∨
  (cls = .ref CU ∧ ∃ dd v, d = some dd ∧ H' dd = some (.xd [("at", v)]) ∧ ∀ p H2, New H' p (.tup [.str "unread", v]) H2 → Q (.ref p) H2)
def TMet (CN CU : Addr) : (XK → Hp → VK → Prop) → Hp → VK → Prop := fun tl H Q => tl (metX CN CU Q) H (fun v H1 => [V.str "told", v].length ≤ sizeLine ∧ ∀ p, H1 p = none → Q (.ref p) (upd H1 p (.tup [.str "told", v])))
end Lw
namespace K24
open PySem PySem.Spec PyProof.Rows L2 Lw SX
def top (i : Nat) : Stmt := PySem.Challenge.pw_whobrings_k24_whole_tokens_of_texts.main.body.getD i (.Pass ⟨0, 0, 0, 0⟩)
abbrev FnP (K : PySem.W.Frag) (x : Str) (st : Stmt) (f : Addr) (fd : FuncData) : Prop := FunD K x x (defArgs st) (defBody st) (defScope st) [] [] f fd
abbrev s_law_met : Stmt := top 24
theorem sc_law_met : FnScope ["ask", "e"] ["ask"] (defScope s_law_met) := ⟨rfl, rfl, rfl, by decide +kernel, rfl, by decide +kernel, by decide +kernel⟩
theorem met_gives {X : Cx} {q : Str} {g CN CU fN fU : Addr} {cdg : Value} (TN : ExC X.K X.mg "NoText" CN fN "text") (TU : ExC X.K X.mg "Unread" CU fU "at") (hUN : PySem.W.exmOne X.K (.ref CU) (.ref CN) = some false) :
    LamX.GivesTo X ["ask", "e"] "_law_met" (defScope s_law_met) g cdg (defBody s_law_met) "ask" q (TMet CN CU) := by
  intro f c' s H Q tl act hc h
  have gN : (defScope s_law_met).names.lookup ("NoText" : Str) = some NameKind.globalImplicit := by decide +kernel
  have gU : (defScope s_law_met).names.lookup ("Unread" : Str) = some NameKind.globalImplicit := by decide +kernel
  refine ⟨_, pss_one (ps_try_manyA (X := (cxOf C8.CX0 X.prog X.w X.K X.mg X.base ["ask", "e"] "_law_met" (defScope s_law_met) g cdg X.A X.stack s H C8.E0).nox)
      (l := [(.ref CN, 1, fun a cls d => tRet (tTup (tCons (tC (.str "text")) (tCons (tXf a cls d CN "text" (tVar 1)) tNil)))), (.ref CU, 1, fun a cls d => tRet (tTup (tCons (tC (.str "unread")) (tCons (tXf a cls d CU "at" (tVar 1)) tNil))))])
      (tb := fun W D σ H => ∃ Ech : XK, (∀ cls d σ' H', Ech cls d H' → σ'.length = 2 → W cls d σ' H') ∧ σ[0]? = some (some (.ref f)) ∧ H c' = some (LamX.CodeO c' q) ∧ tl Ech H (fun v H1 => [V.str "told", v].length ≤ sizeLine ∧ ∀ p, H1 p = none → D.rt (.ref p) (upd H1 p (.tup [.str "told", v]))))
      (Wout := fun _ _ _ _ => False)
      rfl rfl sc_law_met.nd LamX.takes0 (fun W pn xe tk _ => ?_) ?_), ?_⟩
  · refine ⟨fun pins s' σ H' D I h' => ?_⟩
    obtain ⟨Ech, hW, h1, h2, h3⟩ := h'
    refine PSs.run (t := tRet (tTup (tCons (tC (.str "told")) (tCons (fun σZ HZ Q => σZ[0]? = some (some (V.ref f)) ∧ HZ c' = some (LamX.CodeO c' q) ∧ tl Ech HZ Q) tNil)))) ?_ pins s' σ H' D I ⟨h1, h2, h3⟩
    exact pss_one (ps_ret (pe_tup (pa_cons pe_str (pa_cons (act _ pn xe Ech _ _ (takes_len tk) (fun cls d σ' H' e hl => hW cls d σ' H' e hl)) pa_nil))))
  · refine .cons ⟨gN, by decide, .inl TN.g⟩ rfl rfl (fun a oe cls d pn hz hf => pss_one (ps_ret (pe_tup (pa_cons pe_str (pa_cons (pe_xf TN.xf TN.no hz hf (pv 1)) pa_nil))))) ?_
    exact .cons ⟨gU, by decide, .inl TU.g⟩ rfl rfl (fun a oe cls d pn hz hf => pss_one (ps_ret (pe_tup (pa_cons pe_str (pa_cons (pe_xf TU.xf TU.no hz hf (pv 1)) pa_nil))))) .nil
  · refine ⟨metX CN CU Q, fun cls d σ' H' e hl => ?_, rfl, hc, h⟩
    obtain ⟨v0, v1, rfl⟩ : ∃ v0 v1, σ' = [v0, v1] := by
      match σ', hl with
      | [v0, v1], _ => exact ⟨v0, v1, rfl⟩
    rcases e with ⟨rfl, dd, v, rfl, hdd, k⟩ | ⟨rfl, dd, v, rfl, hdd, k⟩
    · refine ⟨true, TN.te, fun _ a ha => ?_, fun z => Bool.noConfusion z⟩
      walk_at "rr"
      exact ⟨.ref a, rfl, rfl, rfl, dd, _, v, rfl, hdd, rfl, show 2 ≤ sizeLine by decide, fun p H2 n => k p H2 n⟩
    · refine ⟨false, hUN, fun z => Bool.noConfusion z, fun _ => ⟨true, TU.te, fun _ a ha => ?_, fun z => Bool.noConfusion z⟩⟩
      walk_at "rr"
      exact ⟨.ref a, rfl, rfl, rfl, dd, _, v, rfl, hdd, rfl, show 2 ≤ sizeLine by decide, fun p H2 n => k p H2 n⟩
end K24
namespace Lw
open PySem PySem.Spec PyProof.Rows L2
/-- a def, its code object known -/
theorem fn_law {P : Program} {w : World} {K : PySem.W.Frag} {mg : Str → Option Value} {base : Heap} {x qual : Str} {params : Arguments} {body : List Stmt} {scope : Scope} {f c : Addr} {fd : FuncData} {N ps : List Str} {k : Nat} {sp : Sp} (F : FunD K x qual params body scope [] [] f fd) (hc : fd.code = .ref c) (S : FnScope N ps scope)
    (len : ∀ vs H Q E, sp vs H Q E → vs.length = ps.length)
    (hbody : ∀ (A : Around) (outer : List Env) (s : Shared) (H : Hp) (vs : List V) (Q : VK) (E : XK), Room k (A.deeper (envOfC qual scope s.heap.objs.size f (.ref c))) → sp vs H Q E →
      ∃ t, PSs (cxOf C8.CX0 P w K mg base N qual scope f (.ref c) A outer s H E).nox body t ∧ t { nx := fun _ H' => Q .non H', rt := Q } (start N vs) H) : FnOk P w K mg base C8.CX0 (k + 1) f fd ps sp := by
  obtain ⟨oc, od, dV, kV, doc, pm, an, cdv, ct, osl, rfl, lk, hcd, _, _⟩ := F.ex
  have e : cdv = .ref c := hc
  subst e
  refine fn_of lk hcd S len fun A outer s H vs Q E hr hsp => ?_
  obtain ⟨t, h, q⟩ := hbody A outer s H vs Q E hr hsp
  exact ⟨t, h.nox, q⟩
end Lw
end
section
set_option maxHeartbeats 4000000
/-! Lw10: what stays while the law goes on. -/
/-- one step of a reading that needs no choice; all of them -/
local macro_rules | `(tactic| walk_at "r") => `(tactic| (first
  | (with_reducible refine Lw.r_seq ?_) | (with_reducible refine Lw.r_asg ?_) | (with_reducible refine Lw.r_ret ?_) | (with_reducible refine Lw.r_retN ?_) | (with_reducible refine Lw.r_drop ?_)
  | (with_reducible refine Lw.r_name ?_) | (with_reducible refine Lw.r_gsub ?_) | (with_reducible refine Lw.r_gcons ?_) | (with_reducible refine Lw.r_gnil ?_)
  | (with_reducible refine Lw.r_next ?_) | (with_reducible refine Lw.r_cont ?_) | (with_reducible refine Lw.r_brk ?_) | (with_reducible refine Lw.r_ifS ?_) | (with_reducible refine Lw.r_par ?_) | (with_reducible refine Lw.r_two ?_) | (with_reducible refine Lw.r_par3 ?_) | (with_reducible refine Lw.r_three ?_)
  | (with_reducible refine Lw.r_var (by with_unfolding_all rfl) ?_) | (with_reducible refine Lw.r_c ?_) | (with_reducible refine Lw.r_op ?_) | (with_reducible refine Lw.r_un ?_)
  | (with_reducible refine Lw.r_I0 ?_) | (with_reducible refine Lw.r_test ?_) | (with_reducible refine Lw.r_tB ?_) | (with_reducible refine Lw.r_bl ?_)
  | (with_reducible refine Lw.r_tand ?_) | (with_reducible refine Lw.r_tor ?_) | (with_reducible refine Lw.r_tnot ?_) | (with_reducible refine Lw.r_andV ?_) | (with_reducible refine Lw.r_orV ?_) | (with_reducible refine Lw.r_notV ?_) | (with_reducible refine Lw.r_tif ?_)
  | (with_reducible refine Lw.r_cb ?_) | (with_reducible refine Lw.r_cons ?_) | (with_reducible refine Lw.r_nil ?_) | (with_reducible refine Lw.r_call ?_) | (with_reducible refine Lw.r_lc ?_) | (with_reducible refine Lw.r_tyes ?_) | (with_reducible refine Lw.r_sl ?_) | (with_reducible refine Lw.r_part ?_) | (with_reducible refine Lw.r_nopart ?_) | (with_reducible refine Lw.r_inS ?_) | ((with_reducible refine Lw.r_lenS (by assumption) ?_); (try rw [SX.S_len])) | (with_reducible refine Lw.r_eqSS ?_) | (with_reducible refine Lw.r_neSS ?_) | (with_reducible refine Lw.r_for ?_) | (with_reducible refine Lw.r_iList ?_) | (with_reducible refine Lw.r_iTup ?_) | (with_reducible refine Lw.r_iKeys ?_) | (with_reducible refine Lw.r_iRng1 ?_) | (with_reducible refine Lw.r_iRng2 ?_) | (with_reducible refine Lw.r_callS ?_) | (with_reducible refine Lw.r_iStr ?_) | (with_reducible refine Lw.r_iEnumS ?_) | (with_reducible refine Lw.r_zipA ?_) | (with_reducible refine Lw.r_liIt ?_) | (with_reducible refine Lw.r_lst ?_) | (with_reducible refine Lw.r_tup ?_)
  | (with_reducible refine Lw.r_bm ?_) | (with_reducible refine Lw.r_bm0 ?_) | (with_reducible refine Lw.r_tyS ?_)
  | (with_reducible refine Lw.r_ixL (L2.SqL.of (by assumption)) (by with_unfolding_all rfl) ?_) | (with_reducible refine Lw.r_ixT (L2.SqT.of (by assumption)) (by with_unfolding_all rfl) ?_)
  | (with_reducible refine Lw.r_eqI ?_) | (with_reducible refine Lw.r_neI ?_) | (with_reducible refine Lw.r_eqS ?_) | (with_reducible refine Lw.r_neS ?_) | (with_reducible refine Lw.r_eqB ?_) | (with_reducible refine Lw.r_neB ?_)
  | (with_reducible refine ⟨_, fun _ _ h => h, ?_⟩) | (with_reducible refine ⟨_, rfl, ?_⟩) | (with_reducible refine Or.inl ⟨_, rfl, ?_⟩)
  | (with_reducible refine Lw.r_ifnf ?_) | (with_reducible refine Lw.r_ifnt ?_) | (with_reducible refine L2.iteT ?_) | (with_reducible refine L2.iteF ?_)))
local macro_rules | `(tactic| walk_at "rr") => `(tactic| ((try dsimp only []); (repeat (walk_at "r"; (try dsimp only [])))))

namespace Lw
open PySem PySem.Spec PyProof.Rows L2 SX
/-- all but S and the tables of code objects stays -/
def Kn (S : Addr → Prop) (H H' : Hp) : Prop := ∀ c o, ¬ S c → (∀ ps, o ≠ .tbl ps) → H c = some o → H' c = some o
section
variable {S S' P : Addr → Prop} {H H' H2 : Hp}
theorem Kn.refl : Kn S H H := fun _ _ _ _ h => h
theorem Kn.trans (k : Kn S H H') (k2 : Kn S H' H2) : Kn S H H2 := fun c o n t h => k2 c o n t (k c o n t h)
theorem Kp.kn (k : Kp S H H') : Kn S H H' := fun c o n _ h => k c o n h
theorem kn_en (k : LamX.ExtN H H') : Kn S H H' := fun c o _ t h => k c o h t
theorem kn_same (k : Same H H') : Kn S H H' := fun c o _ _ h => k c o h
theorem Kn.mono (k : Kn S H H') (h : ∀ c, S c → S' c) : Kn S' H H' := fun c o n t e => k c o (fun z => n (h c z)) t e
theorem Kn.lst (k : Kn S H H') {c : Addr} {xs : List V} (n : ¬ S c) (h : H c = some (.lst xs)) : H' c = some (.lst xs) := k c _ n (fun ps z => by cases z) h
theorem Kn.tup (k : Kn S H H') {c : Addr} {xs : List V} (n : ¬ S c) (h : H c = some (.tup xs)) : H' c = some (.tup xs) := k c _ n (fun ps z => by cases z) h
mutual
theorem Rp.kn (hS : ∀ c, P c → ¬ S c) (hT : ∀ c xs, S c → H c ≠ some (.tup xs)) (k : Kn S H H') : ∀ {v : V} {d : PyData}, Rp P H v d → Rp P H' v d
  | _, _, .non => .non
  | _, _, .bl b => .bl b
  | _, _, .int i => .int i
  | _, _, .str x => .str x
  | _, _, .lst h p l r => .lst (k.lst (hS _ p) h) p l (RpAll.kn hS hT k r)
  | _, _, .tup h l r => .tup (k.tup (fun z => hT _ _ z h) h) l (RpAll.kn hS hT k r)
  | _, _, .dct h p l n r => .dct (k _ _ (hS _ p) (fun ps z => by cases z) h) p l n (RpKv.kn hS hT k r)
theorem RpAll.kn (hS : ∀ c, P c → ¬ S c) (hT : ∀ c xs, S c → H c ≠ some (.tup xs)) (k : Kn S H H') : ∀ {vs : List V} {ds : List PyData}, RpAll P H vs ds → RpAll P H' vs ds
  | _, _, .nil => .nil
  | _, _, .cons h r => .cons (Rp.kn hS hT k h) (RpAll.kn hS hT k r)
theorem RpKv.kn (hS : ∀ c, P c → ¬ S c) (hT : ∀ c xs, S c → H c ≠ some (.tup xs)) (k : Kn S H H') : ∀ {kvs : List (Key × V)} {ds : List (PyData × PyData)}, RpKv P H kvs ds → RpKv P H' kvs ds
  | _, _, .nil => .nil
  | _, _, .cons h r => .cons (Rp.kn hS hT k h) (RpKv.kn hS hT k r)
end
mutual
theorem Rp.there : ∀ {v : V} {d : PyData}, Rp P H v d → Rp (fun c => H c ≠ none) H v d
  | _, _, .non => .non
  | _, _, .bl b => .bl b
  | _, _, .int i => .int i
  | _, _, .str x => .str x
  | _, _, .lst h p l r => .lst h (by rw [h]; exact fun z => by cases z) l (RpAll.there r)
  | _, _, .tup h l r => .tup h l (RpAll.there r)
  | _, _, .dct h p l n r => .dct h (by rw [h]; exact fun z => by cases z) l n (RpKv.there r)
theorem RpAll.there : ∀ {vs : List V} {ds : List PyData}, RpAll P H vs ds → RpAll (fun c => H c ≠ none) H vs ds
  | _, _, .nil => .nil
  | _, _, .cons h r => .cons (Rp.there h) (RpAll.there r)
theorem RpKv.there : ∀ {kvs : List (Key × V)} {ds : List (PyData × PyData)}, RpKv P H kvs ds → RpKv (fun c => H c ≠ none) H kvs ds
  | _, _, .nil => .nil
  | _, _, .cons h r => .cons (Rp.there h) (RpKv.there r)
end
theorem Rp.all {v : V} {d : PyData} (r : Rp P H v d) : Rp (fun _ => True) H v d := r.mono (fun a o h _ => h) fun _ _ => trivial
theorem RpAll.all {v : List V} {d : List PyData} (r : RpAll P H v d) : RpAll (fun _ => True) H v d := r.mono (fun a o h _ => h) fun _ _ => trivial
theorem Rp.en {v : V} {d : PyData} (r : Rp P H v d) (k : LamX.ExtN H H') : Rp P H' v d := r.kn (S := fun _ => False) (fun _ _ z => z) (fun _ _ z => z.elim) (kn_en k)
theorem en_same (s : Same H H') : LamX.ExtN H H' := fun b o h _ => s b o h
theorem en_lst (k : LamX.ExtN H H') {c : Addr} {xs : List V} (h : H c = some (.lst xs)) : H' c = some (.lst xs) := k c _ h fun ps z => by cases z
theorem en_tup (k : LamX.ExtN H H') {c : Addr} {xs : List V} (h : H c = some (.tup xs)) : H' c = some (.tup xs) := k c _ h fun ps z => by cases z
theorem en_none (k : LamX.ExtN H H') {c : Addr} (h : H' c = none) : H c = none ∨ ∃ ps, H c = some (.tbl ps) := by
  cases e : H c with
  | none => exact .inl rfl
  | some o =>
    by_cases t : ∃ ps, o = .tbl ps
    · obtain ⟨ps, rfl⟩ := t
      exact .inr ⟨ps, rfl⟩
    · rw [k c o e fun ps z => t ⟨ps, z⟩] at h
      cases h
mutual
theorem Tr.en (k : LamX.ExtN H H') : ∀ {v : V} {d : PyData} {ns : List Addr}, Tr H v d ns → Tr H' v d ns
  | _, _, _, .non => .non
  | _, _, _, .bl b => .bl b
  | _, _, _, .int i => .int i
  | _, _, _, .str x => .str x
  | _, _, _, .lst h l r => .lst (en_lst k h) l (TrAll.en k r)
  | _, _, _, .tup h l r => .tup (en_tup k h) l (TrAll.en k r)
theorem TrAll.en (k : LamX.ExtN H H') : ∀ {vs : List V} {ds : List PyData} {ns : List Addr}, TrAll H vs ds ns → TrAll H' vs ds ns
  | _, _, _, .nil => .nil
  | _, _, _, .cons h r => .cons (Tr.en k h) (TrAll.en k r)
end
theorem StreamAt.kn {a b : Addr} {n : Nat} (h : StreamAt H a b n) (k : Kn S H H') (ha : ¬ S a) (hb : ¬ S b) : StreamAt H' a b n := by
  obtain ⟨cs, c, t, s, h1, h2, h3, h4⟩ := h
  exact ⟨cs, c, t, s, h1, k.lst ha h2, k.lst hb h3, h4⟩
theorem StreamAt.en {a b : Addr} {n : Nat} (h : StreamAt H a b n) (k : LamX.ExtN H H') : StreamAt H' a b n := h.kn (S := fun _ => False) (kn_en k) (fun z => z) (fun z => z)
/-- all but lists stays -/
def NL (H H' : Hp) : Prop := ∀ c o, H c = some o → (∀ xs, o ≠ .lst xs) → H' c = some o
theorem nl_same (s : Same H H') : NL H H' := fun c o h _ => s c o h
theorem nl_kp (k : Kp S H H') (hS : ∀ c, S c → ∀ o, H c = some o → ∃ xs, o = .lst xs) : NL H H' := fun c o h t => k c o (fun z => by
  obtain ⟨xs, e⟩ := hS c z o h
  exact t xs e) h
theorem nl_wr {p : Addr} {xs : List V} {o : HO} (hp : H p = some (.lst xs)) (w : Wr H p o H') : NL H H' := fun c u h t => by
  rw [w.off c fun e => by subst e; rw [hp] at h; exact t xs (Option.some.inj h).symm]
  exact h
theorem nl_stream {a b : Addr} {n : Nat} (st : StreamAt H a b n) (k : Kp (Two a b) H H') : NL H H' := nl_kp k fun c z o h => by
  obtain ⟨cs, c0, t, s, h1, h2, h3, _⟩ := st
  rcases z with e | e
  · rw [e, h2] at h; exact ⟨_, (Option.some.inj h).symm⟩
  · rw [e, h3] at h; exact ⟨_, (Option.some.inj h).symm⟩
theorem tabs_nl {T : List (Addr × Str)} (t : LamX.Tabs T H) (k : NL H H') : LamX.Tabs T H' := fun p hp => by
  obtain ⟨ps, h1, h2, h3⟩ := t p hp
  refine ⟨ps, k _ _ h1 (fun xs z => by cases z), h2, fun pos cv hc => ?_⟩
  obtain ⟨c, e1, e2⟩ := h3 pos cv hc
  exact ⟨c, e1, k _ _ e2 fun xs z => by unfold LamX.CodeO at z; cases z⟩
end
/-! ### what is due -/
def badsL : Nat → List (List PyData × Option Nat) → List (Nat × Nat)
  | _, [] => []
  | i, (_, none) :: r => badsL (i + 1) r
  | i, (_, some p) :: r => (i, p) :: badsL (i + 1) r
theorem bads_app : ∀ (i : Nat) (a b : List (List PyData × Option Nat)), badsL i (a ++ b) = badsL i a ++ badsL (i + a.length) b
  | i, [], b => by simp [badsL]
  | i, (_, none) :: r, b => by
    show badsL (i + 1) (r ++ b) = badsL (i + 1) r ++ _
    rw [bads_app (i + 1) r b, List.length_cons, show i + 1 + r.length = i + (r.length + 1) by omega]
  | i, (_, some p) :: r, b => by
    show (i, p) :: badsL (i + 1) (r ++ b) = (i, p) :: badsL (i + 1) r ++ _
    rw [bads_app (i + 1) r b, List.length_cons, show i + 1 + r.length = i + (r.length + 1) by omega]
    rfl
theorem bads_none : ∀ {i : Nat} {l : List (List PyData × Option Nat)}, badsL i l = [] → ∀ q ∈ l, q.2 = none
  | _, [], _, q, h => by cases h
  | i, (_, none) :: r, h, q, hq => by
    rcases List.mem_cons.mp hq with e | e
    · rw [e]
    · exact bads_none (i := i + 1) h q e
  | i, (_, some p) :: r, h, _, _ => by cases h
theorem bads_first : ∀ {k : Nat} {l : List (List PyData × Option Nat)} {i p : Nat} {r : List (Nat × Nat)}, badsL k l = (i, p) :: r → ∃ j ds, i = k + j ∧ l[j]? = some (ds, some p) ∧ ∀ m, m < j → ∀ q, l[m]? = some q → q.2 = none
  | _, [], _, _, _, h => by cases h
  | k, (ds, none) :: r, i, p, _, h => by
    obtain ⟨j, es, e1, e2, e3⟩ := bads_first (k := k + 1) h
    refine ⟨j + 1, es, by omega, e2, fun m hm q hq => ?_⟩
    cases m with
    | zero => cases hq; rfl
    | succ m => exact e3 m (by omega) q hq
  | k, (ds, some p') :: r, i, p, _, h => by
    have h1 := List.cons.inj h
    have h2 := Prod.mk.inj h1.1
    refine ⟨0, ds, h2.1.symm, by rw [h2.2]; rfl, fun m hm => absurd hm (Nat.not_lt_zero _)⟩
def DUE (ls : List (List PyData × Option Nat)) : PyData := match badsL 0 ls with
  | [] => .tuple [.str (Str.ofString "told"), .list (ls.map fun q => .list q.1)]
  | (i, p) :: _ => .tuple [.str (Str.ofString "unread"), .tuple [.int i, .int p]]
/-- one thing that was met: the datum of what is due; told: its lists are new -/
def MetRes (H H' : Hp) (v : V) (ls : List (List PyData × Option Nat)) : Prop := Rp (fun c => H c = none) H' v (DUE ls) ∧
  (badsL 0 ls = [] → ∃ p tv ns, v = .ref p ∧ H' p = some (.tup [.str (Str.ofString "told"), tv]) ∧ Tr H' tv (.list (ls.map fun q => .list q.1)) ns ∧ ns.Nodup ∧ ∀ a ∈ ns, H a = none)
theorem met_core {CN CU : Addr} {l : List Nat} {rows : List (List Nat)} {ls : List (List PyData × Option Nat)} {H : Hp} {Q : VK} (hl : l.length ≤ 100000) (hr : TL.spl [10] 0 [] l = rows) (h6 : ∀ r ∈ rows, r.length ≤ 640) (hp : Paired LexQ rows ls)
    (k : ∀ v H', Same H H' → MetRes H H' v ls → Q v H') :
    spTokens CN CU [.str (S l)] H (fun v H1 => [V.str (Str.ofString "told"), v].length ≤ sizeLine ∧ ∀ p, H1 p = none → Q (.ref p) (upd H1 p (.tup [.str (Str.ofString "told"), v]))) (metX CN CU Q) := by
  refine ⟨_, rfl, .inr ⟨l, rows, ls, rfl, hl, hr, h6, hp, fun hn v ns H' s t nd fr => ⟨show 2 ≤ sizeLine by decide, fun p h => ?_⟩, fun i ds p hi hno dx t H' s hdx ht hd => .inr ⟨rfl, dx, .ref t, rfl, hd, fun q H2 n => ?_⟩⟩⟩
  · have hb : badsL 0 ls = [] := by
      cases e : badsL 0 ls with
      | nil => rfl
      | cons z r =>
        obtain ⟨i, p⟩ := z
        obtain ⟨j, ds, _, e2, _⟩ := bads_first e
        have := hn _ (List.mem_of_getElem? e2)
        cases this
    have n := new_upd (o := HO.tup [.str (Str.ofString "told"), v]) h
    have t2 := t.keep (Same.fix n.same)
    refine k _ _ (Same.trans s n.same) ⟨?_, fun _ => ⟨p, v, ns, rfl, n.now, t2, nd, fr⟩⟩
    unfold DUE
    rw [hb]
    exact .tup n.now (show 2 ≤ sizeLine by decide) (.cons (.str _) (.cons (t2.rp fr) .nil))
  · have hb : ∃ r, badsL 0 ls = (i, p) :: r := by
      cases e : badsL 0 ls with
      | nil => have := bads_none e _ (List.mem_of_getElem? hi); cases this
      | cons z r =>
        obtain ⟨i', p'⟩ := z
        obtain ⟨j, ds', e1, e2, e3⟩ := bads_first e
        have e4 : i' = j := by omega
        have h1 : ¬ j < i := fun z => by have := hno j z _ e2; cases this
        have h2 : ¬ i < j := fun z => by have := e3 i z _ hi; cases this
        have h3 : i = j := by omega
        subst h3
        rw [hi] at e2
        cases e2
        exact ⟨r, by rw [e4]⟩
    obtain ⟨r, hb⟩ := hb
    refine k _ _ (Same.trans s n.same) ⟨?_, fun z => by rw [hb] at z; cases z⟩
    unfold DUE
    rw [hb]
    exact .tup n.now (show 2 ≤ sizeLine by decide) (.cons (.str _) (.cons (.tup (n.same _ _ ht) (show 2 ≤ sizeLine by decide) (.cons (.int _) (.cons (.int _) .nil))) .nil))
end Lw
end
section
set_option maxHeartbeats 4000000
/-! Lw11: a turn of the law. -/
/-- one step of a reading that needs no choice; all of them -/
local macro_rules | `(tactic| walk_at "r") => `(tactic| (first
  | (with_reducible refine Lw.r_seq ?_) | (with_reducible refine Lw.r_asg ?_) | (with_reducible refine Lw.r_ret ?_) | (with_reducible refine Lw.r_retN ?_) | (with_reducible refine Lw.r_drop ?_)
  | (with_reducible refine Lw.r_name ?_) | (with_reducible refine Lw.r_gsub ?_) | (with_reducible refine Lw.r_gcons ?_) | (with_reducible refine Lw.r_gnil ?_)
  | (with_reducible refine Lw.r_next ?_) | (with_reducible refine Lw.r_cont ?_) | (with_reducible refine Lw.r_brk ?_) | (with_reducible refine Lw.r_ifS ?_) | (with_reducible refine Lw.r_par ?_) | (with_reducible refine Lw.r_two ?_) | (with_reducible refine Lw.r_par3 ?_) | (with_reducible refine Lw.r_three ?_)
  | (with_reducible refine Lw.r_var (by with_unfolding_all rfl) ?_) | (with_reducible refine Lw.r_c ?_) | (with_reducible refine Lw.r_op ?_) | (with_reducible refine Lw.r_un ?_)
  | (with_reducible refine Lw.r_I0 ?_) | (with_reducible refine Lw.r_test ?_) | (with_reducible refine Lw.r_tB ?_) | (with_reducible refine Lw.r_bl ?_)
  | (with_reducible refine Lw.r_tand ?_) | (with_reducible refine Lw.r_tor ?_) | (with_reducible refine Lw.r_tnot ?_) | (with_reducible refine Lw.r_andV ?_) | (with_reducible refine Lw.r_orV ?_) | (with_reducible refine Lw.r_notV ?_) | (with_reducible refine Lw.r_tif ?_)
  | (with_reducible refine Lw.r_cb ?_) | (with_reducible refine Lw.r_cons ?_) | (with_reducible refine Lw.r_nil ?_) | (with_reducible refine Lw.r_call ?_) | (with_reducible refine Lw.r_lc ?_) | (with_reducible refine Lw.r_tyes ?_) | (with_reducible refine Lw.r_sl ?_) | (with_reducible refine Lw.r_part ?_) | (with_reducible refine Lw.r_nopart ?_) | (with_reducible refine Lw.r_inS ?_) | ((with_reducible refine Lw.r_lenS (by assumption) ?_); (try rw [SX.S_len])) | (with_reducible refine Lw.r_eqSS ?_) | (with_reducible refine Lw.r_neSS ?_) | (with_reducible refine Lw.r_for ?_) | (with_reducible refine Lw.r_iList ?_) | (with_reducible refine Lw.r_iTup ?_) | (with_reducible refine Lw.r_iKeys ?_) | (with_reducible refine Lw.r_iRng1 ?_) | (with_reducible refine Lw.r_iRng2 ?_) | (with_reducible refine Lw.r_callS ?_) | (with_reducible refine Lw.r_iStr ?_) | (with_reducible refine Lw.r_iEnumS ?_) | (with_reducible refine Lw.r_zipA ?_) | (with_reducible refine Lw.r_liIt ?_) | (with_reducible refine Lw.r_lst ?_) | (with_reducible refine Lw.r_tup ?_)
  | (with_reducible refine Lw.r_bm ?_) | (with_reducible refine Lw.r_bm0 ?_) | (with_reducible refine Lw.r_tyS ?_)
  | (with_reducible refine Lw.r_ixL (L2.SqL.of (by assumption)) (by with_unfolding_all rfl) ?_) | (with_reducible refine Lw.r_ixT (L2.SqT.of (by assumption)) (by with_unfolding_all rfl) ?_)
  | (with_reducible refine Lw.r_eqI ?_) | (with_reducible refine Lw.r_neI ?_) | (with_reducible refine Lw.r_eqS ?_) | (with_reducible refine Lw.r_neS ?_) | (with_reducible refine Lw.r_eqB ?_) | (with_reducible refine Lw.r_neB ?_)
  | (with_reducible refine ⟨_, fun _ _ h => h, ?_⟩) | (with_reducible refine ⟨_, rfl, ?_⟩) | (with_reducible refine Or.inl ⟨_, rfl, ?_⟩)
  | (with_reducible refine Lw.r_ifnf ?_) | (with_reducible refine Lw.r_ifnt ?_) | (with_reducible refine L2.iteT ?_) | (with_reducible refine L2.iteF ?_)))
local macro_rules | `(tactic| walk_at "rr") => `(tactic| ((try dsimp only []); (repeat (walk_at "r"; (try dsimp only [])))))


namespace K24
open PySem PySem.Spec PyProof.Rows L2 Lw SX
def b1 (K : PySem.W.Frag) (T : List (Addr × Str)) (CN CU : Addr) : TS := tAsg (tLc (iRng1 (tCons (tCall spPick [] C8.E0 (tCons (tVar 1) (tCons (tLst (tCons (tC (V.int 1)) (tCons (tC (V.int 1)) (tCons (tC (V.int 2)) (tCons (tC (V.int 3)) (tCons (tC (V.int 5)) tNil)))))) tNil))) tNil)) (gName 4) tYes (tCall spDrawn [] C8.E0 (tCons (tVar 1) tNil)) (List.map (fun x => x.snd) [(Str.ofString "row", 4)])) (gName 3)
def b2 (K : PySem.W.Frag) (T : List (Addr × Str)) (CN CU : Addr) : TS := tAsg (tTup (tCons (tBM K "str" (fun x xs H_1 Q => ∃ a p ys, x = V.str a ∧ xs = [V.ref p] ∧ (SqL K H_1 p (List.map V.str ys) ∨ SqT K H_1 p (List.map V.str ys)) ∧ (List.map (fun x => x.length) ys).sum + ys.length * a.length ≤ 16777216 ∧ Q (V.str (Txt.join a ys)) H_1) (tC (V.str (Str.ofString "\n"))) (tCons (tVar 3) tNil)) (tCons (tLc (iList K (tVar 3)) (gName 4) tYes (tCall spRow [] C8.E0 (tCons (tVar 4) tNil)) (List.map (fun x => x.snd) [(Str.ofString "row", 4)])) tNil))) (gTup K 2 (gCons (gName 5) (gCons (gName 6) gNil)))
def b3 (K : PySem.W.Frag) (T : List (Addr × Str)) (CN CU : Addr) : TS := tAsg (tLc (iEnum K (tCons (tVar 6) tNil)) (gTup K 2 (gCons (gName 8) (gCons (gTup K 2 (gCons (gName 9) (gCons (gName 10) gNil))) gNil))) (tTest (tOp (fun x y H Q => y = V.non ∧ Q (V.bl !decide (x = V.non)) H) (tVar 10) (tC V.non))) (tTup (tCons (tVar 8) (tCons (tVar 10) tNil))) (List.map (fun x => x.snd) [(Str.ofString "line", 8), (Str.ofString "some", 9), (Str.ofString "bad", 10)])) (gName 7)
def b4 (K : PySem.W.Frag) (T : List (Addr × Str)) (CN CU : Addr) : TS := tAsg (tIf (tTest (tOp (rNeD K) (tVar 7) (tLst tNil))) (tTup (tCons (tC (V.str (Str.ofString "unread"))) (tCons (tOp (rIxL K) (tVar 7) (tC (V.int 0))) tNil))) (tTup (tCons (tC (V.str (Str.ofString "told"))) (tCons (tLc (iList K (tVar 6)) (gTup K 2 (gCons (gName 9) (gCons (gName 10) gNil))) tYes (tVar 9) (List.map (fun x => x.snd) [(Str.ofString "some", 9), (Str.ofString "bad", 10)])) tNil)))) (gName 11)
def b5 (K : PySem.W.Frag) (T : List (Addr × Str)) (CN CU : Addr) : TS := tAsg (tLst (tCons (LamX.tLam T (TMet CN CU) fun E => tCallS (spTokens CN CU) (fun σ => WE (fun cls d x H => E cls d H) σ) (tCons (tVar 5) tNil)) tNil)) (gName 12)
def b6 (K : PySem.W.Frag) (T : List (Addr × Str)) (CN CU : Addr) : TS := tDrop (tBM K "list" rAppend (tVar 12) (tCons (LamX.tLam T (TMet CN CU) fun E => tCallK0 (spTokens CN CU) (fun vs zs => vs ++ zs) (fun σ => WE (fun cls d x H => E cls d H) σ) (tCons (tVar 5) tNil)) tNil))
def b7 (K : PySem.W.Frag) (T : List (Addr × Str)) (CN CU : Addr) : TS := tIfS (tNot (tB (tCall (spSame 12) [] C8.E0 (tCons (tVar 12) (tCons (tLst (tCons (tVar 11) (tCons (tVar 11) tNil))) tNil))))) (tRet (tC (V.bl false))) tNext
def b8 (K : PySem.W.Frag) (T : List (Addr × Str)) (CN CU : Addr) : TS := tIfS (tTest (tOp (rEqD K) (tVar 7) (tLst tNil))) (tDrop (tCall (spSpoilt 8) [] C8.E0 (tCons (tOp (rIxT K) (tOp (rIxL K) (tVar 12) (tC (V.int 0))) (tC (V.int 1))) tNil))) tNext
def b9 (K : PySem.W.Frag) (T : List (Addr × Str)) (CN CU : Addr) : TS := tIfS (tNot (tB (tCall (spSame 12) [] C8.E0 (tCons (LamX.tLam T (TMet CN CU) fun E => tCallS (spTokens CN CU) (fun σ => WE (fun cls d x H => E cls d H) σ) (tCons (tVar 5) tNil)) (tCons (tVar 11) tNil))))) (tRet (tC (V.bl false))) tNext
def b10 (K : PySem.W.Frag) (T : List (Addr × Str)) (CN CU : Addr) : TS := tAsg (tCall spPick [] C8.E0 (tCons (tVar 1) (tCons (tLst (tCons (tC V.non) (tCons (tC (V.int 5)) (tCons (tC (V.bl true)) (tCons (tLst tNil) (tCons (tLst (tCons (tC (V.str (Str.ofString "letters a"))) tNil)) (tCons (tTup (tCons (tC (V.str (Str.ofString "a"))) tNil)) (tCons tDNewK (tCons (tUn (rU fun i => V.int (-i)) (tC (V.int 1))) tNil))))))))) tNil))) (gName 13)
def b11 (K : PySem.W.Frag) (T : List (Addr × Str)) (CN CU : Addr) : TS := tAsg (tCall (spCopied 8) [] C8.E0 (tCons (tVar 13) tNil)) (gName 14)
def b12 (K : PySem.W.Frag) (T : List (Addr × Str)) (CN CU : Addr) : TS := tAsg (tLst (tCons (LamX.tLam T (TMet CN CU) fun E => tCallS (spTokens CN CU) (fun σ => WE (fun cls d x H => E cls d H) σ) (tCons (tVar 14) tNil)) tNil)) (gName 15)
def b13 (K : PySem.W.Frag) (T : List (Addr × Str)) (CN CU : Addr) : TS := tDrop (tBM K "list" rAppend (tVar 15) (tCons (LamX.tLam T (TMet CN CU) fun E => tCallK0 (spTokens CN CU) (fun vs zs => vs ++ zs) (fun σ => WE (fun cls d x H => E cls d H) σ) (tCons (tVar 14) tNil)) tNil))
def b14 (K : PySem.W.Frag) (T : List (Addr × Str)) (CN CU : Addr) : TS := tIfS (tB (tCB (rIsi K) (tCons (tVar 14) (tCons (tC (V.ty "list")) tNil)))) (tDrop (tBM K "list" rAppend (tVar 14) (tCons (tC (V.str (Str.ofString "late"))) tNil))) tNext
def b15 (K : PySem.W.Frag) (T : List (Addr × Str)) (CN CU : Addr) : TS := tIfS (tNot (tB (tCall (spSame 12) [] C8.E0 (tCons (tVar 15) (tCons (tOp rRep (tLst (tCons (tTup (tCons (tC (V.str (Str.ofString "text"))) (tCons (tVar 14) tNil))) tNil)) (tC (V.int 2))) tNil))))) (tRet (tC (V.bl false))) tNext
def t_turn (K : PySem.W.Frag) (T : List (Addr × Str)) (CN CU : Addr) : TS := tSeq (b1 K T CN CU) (tSeq (b2 K T CN CU) (tSeq (b3 K T CN CU) (tSeq (b4 K T CN CU) (tSeq (b5 K T CN CU) (tSeq (b6 K T CN CU) (tSeq (b7 K T CN CU) (tSeq (b8 K T CN CU) (tSeq (b9 K T CN CU) (tSeq (b10 K T CN CU) (tSeq (b11 K T CN CU) (tSeq (b12 K T CN CU) (tSeq (b13 K T CN CU) (tSeq (b14 K T CN CU) (b15 K T CN CU))))))))))))))
def c1 (K : PySem.W.Frag) (T : List (Addr × Str)) (CN CU : Addr) : TS := tAsg (tLst (tCons (tCallS (spTokens CN CU) (WE fun x x_1 x_2 x_3 => False) (tCons (tC (V.str (Str.ofString ""))) tNil)) (tCons (tCallS (spTokens CN CU) (WE fun x x_1 x_2 x_3 => False) (tCons (tC (V.str (Str.ofString "let 'be be a# x\n"))) tNil)) (tCons (tCallS (spTokens CN CU) (WE fun x x_1 x_2 x_3 => False) (tCons (tC (V.str (Str.ofString "\n\n"))) tNil)) (tCons (tCallS (spTokens CN CU) (WE fun x x_1 x_2 x_3 => False) (tCons (tOp (fun x y H Q => ∃ i j, x = V.str i ∧ y = V.str j ∧ i.length + j.length ≤ sizeLine ∧ Q (V.str (i ++ j)) H) (tOp rMulS (tC (V.str (Str.ofString "a"))) (tC (V.int 150))) (tOp rMulS (tC (V.str (Str.ofString "("))) (tC (V.int 50)))) tNil)) (tCons (tCallS (spTokens CN CU) (WE fun x x_1 x_2 x_3 => False) (tCons (tC (V.str (Str.ofString "01,2"))) tNil)) (tCons (tCallS (spTokens CN CU) (WE fun x x_1 x_2 x_3 => False) (tCons (tC (V.str (Str.ofString "can ann:b"))) tNil)) tNil))))))) (gName 9)
def c2 (K : PySem.W.Frag) (T : List (Addr × Str)) (CN CU : Addr) : TS := tAsg (tLst (tCons (tLst (tCons (tLst tNil) tNil)) (tCons (tLst (tCons (tLst (tCons (tTup (tCons (tC (V.str (Str.ofString "word"))) (tCons (tC (V.str (Str.ofString "let"))) (tCons (tC (V.int 0)) tNil)))) (tCons (tTup (tCons (tC (V.str (Str.ofString "quote"))) (tCons (tC (V.str (Str.ofString "be"))) (tCons (tC (V.int 4)) tNil)))) (tCons (tTup (tCons (tC (V.str (Str.ofString "word"))) (tCons (tC (V.str (Str.ofString "be"))) (tCons (tC (V.int 8)) tNil)))) (tCons (tTup (tCons (tC (V.str (Str.ofString "word"))) (tCons (tC (V.str (Str.ofString "a"))) (tCons (tC (V.int 11)) tNil)))) tNil))))) (tCons (tLst tNil) tNil))) (tCons (tLst (tCons (tLst tNil) (tCons (tLst tNil) (tCons (tLst tNil) tNil)))) tNil)))) (gName 11)
def c3 (K : PySem.W.Frag) (T : List (Addr × Str)) (CN CU : Addr) : TS := tDrop (tBM K "list" rAppend (tVar 11) (tCons (tLst (tCons (tOp rCat (tLst (tCons (tTup (tCons (tC (V.str (Str.ofString "word"))) (tCons (tOp rMulS (tC (V.str (Str.ofString "a"))) (tC (V.int 150))) (tCons (tC (V.int 0)) tNil)))) tNil)) (tLc (iRng1 (tCons (tC (V.int 50)) tNil)) (gName 16) tYes (tTup (tCons (tC (V.str (Str.ofString "sign"))) (tCons (tC (V.str (Str.ofString "("))) (tCons (tOp (rI0 fun i j => V.int (i + j)) (tC (V.int 150)) (tVar 16)) tNil)))) (List.map (fun x => x.snd) [(Str.ofString "at", 16)]))) tNil)) tNil))
def c4 (K : PySem.W.Frag) (T : List (Addr × Str)) (CN CU : Addr) : TS := tDrop (tBM K "list" rExtend (tVar 11) (tCons (tLst (tCons (tLst (tCons (tLst (tCons (tTup (tCons (tC (V.str (Str.ofString "number"))) (tCons (tC (V.int 1)) (tCons (tC (V.int 0)) tNil)))) (tCons (tTup (tCons (tC (V.str (Str.ofString "sign"))) (tCons (tC (V.str (Str.ofString ","))) (tCons (tC (V.int 2)) tNil)))) (tCons (tTup (tCons (tC (V.str (Str.ofString "number"))) (tCons (tC (V.int 2)) (tCons (tC (V.int 3)) tNil)))) tNil)))) tNil)) (tCons (tLst (tCons (tLst (tCons (tTup (tCons (tC (V.str (Str.ofString "word"))) (tCons (tC (V.str (Str.ofString "can"))) (tCons (tC (V.int 0)) tNil)))) (tCons (tTup (tCons (tC (V.str (Str.ofString "word"))) (tCons (tC (V.str (Str.ofString "ann"))) (tCons (tC (V.int 4)) tNil)))) (tCons (tTup (tCons (tC (V.str (Str.ofString "sign"))) (tCons (tC (V.str (Str.ofString ":"))) (tCons (tC (V.int 7)) tNil)))) (tCons (tTup (tCons (tC (V.str (Str.ofString "word"))) (tCons (tC (V.str (Str.ofString "b"))) (tCons (tC (V.int 8)) tNil)))) tNil))))) tNil)) tNil))) tNil))
def c5 (K : PySem.W.Frag) (T : List (Addr × Str)) (CN CU : Addr) : TS := tRet (tCall (spSame 12) [] C8.E0 (tCons (tVar 9) (tCons (tVar 11) tNil)))
def t_tail (K : PySem.W.Frag) (T : List (Addr × Str)) (CN CU : Addr) : TS := tSeq (c1 K T CN CU) (tSeq (c2 K T CN CU) (tSeq (c3 K T CN CU) (tSeq (c4 K T CN CU) (c5 K T CN CU))))
def t_law (K : PySem.W.Frag) (T : List (Addr × Str)) (CN CU : Addr) : TS := tSeq (tAsg (tCall (spStream K) [] C8.E0 (tCons (tVar 0) tNil)) (gName 1)) (tSeq (tFor (iRng1 (tCons (tC (V.int 9)) tNil)) (gName 2) (t_turn K T CN CU)) (t_tail K T CN CU))

section
variable {K : PySem.W.Frag} {T : List (Addr × Str)} {CN CU a b : Addr} {D : Ends}
/-- a row as it may be drawn -/
def RowOk (r : List Nat) : Prop := r.length ≤ 300 ∧ 10 ∉ r
def rowsV (rows : List (List Nat)) : List V := rows.map fun r => V.str (S r)
theorem p1 {H : Hp} {n : Nat} {x0 v2 v3 v4 v5 v6 v7 v8 v9 v10 v11 v12 v13 v14 v15 v16 : Option V} (st : StreamAt H a b (n + 101)) (tb : LamX.Tabs T H)
    (k : ∀ rows dl H', 1 ≤ rows.length → rows.length ≤ 5 → (∀ r ∈ rows, RowOk r) → H' dl = some (.lst (rowsV rows)) → StreamAt H' a b n → LamX.Tabs T H' → D.nx [x0, some (.ref a), v2, some (.ref dl), v4, v5, v6, v7, v8, v9, v10, v11, v12, v13, v14, v15, v16] H') :
    b1 K T CN CU D [x0, some (.ref a), v2, v3, v4, v5, v6, v7, v8, v9, v10, v11, v12, v13, v14, v15, v16] H := by
  unfold b1
  walk_at "rr"
  refine ⟨by decide, fun q H1 n1 => ?_⟩
  walk_at "rr"
  refine ⟨a, b, q, n + 100, _, rfl, st.at n1.same, n1.now, st.two n1.was, by decide, by decide, fun v hv H2 kp2 st2 => ?_⟩
  have tb2 : LamX.Tabs T H2 := tabs_nl (tabs_nl tb (nl_same n1.same)) (nl_stream (st.at n1.same) kp2)
  obtain ⟨m, rfl, hm1, hm5⟩ : ∃ m : Nat, v = .int m ∧ 1 ≤ m ∧ m ≤ 5 := by
    simp only [List.mem_cons, List.not_mem_nil, or_false] at hv
    rcases hv with e | e | e | e | e
    · exact ⟨1, e, by decide, by decide⟩
    · exact ⟨1, e, by decide, by decide⟩
    · exact ⟨2, e, by decide, by decide⟩
    · exact ⟨3, e, by decide, by decide⟩
    · exact ⟨5, e, by decide, by decide⟩
  walk_at "rr"
  refine ⟨by omega, by omega, ?_⟩
  rw [Int.toNat_natCast]
  have hSz : 100000 ≤ sizeLine := by decide +kernel
  refine lc_in walk_range (fun D i acc H => ∃ rows, acc = rowsV rows ∧ rows.length = i ∧ (∀ r ∈ rows, RowOk r) ∧ ¬ Two a b D ∧ StreamAt H a b (n + 100 - 20 * i) ∧ LamX.Tabs T H)
    (fun D H3 n3 => ⟨[], rfl, rfl, by simp, st2.two n3.was, st2.at n3.same, tabs_nl tb2 (nl_same n3.same)⟩) (fun _ _ _ _ _ _ _ => trivial) (fun D i acc x H3 H4 hD hi hal hDl p y => ?_) (fun D acc H3 hD hl hDl p => ?_)
  · obtain ⟨rows, rfl, hrl, hok, hDn, st3, tb3⟩ := p
    obtain ⟨rfl, rfl⟩ := y
    walk_at "rr"
    refine r_wipe (by with_unfolding_all rfl) ?_
    walk_at "rr"
    have e : n + 100 - 20 * i = (n + 100 - 20 * (i + 1)) + 20 := by omega
    rw [e] at st3
    refine ⟨a, b, n + 100 - 20 * (i + 1), rfl, st3, fun l H5 hl h10 kp5 st5 => ?_⟩
    have hD5 := kp5 _ _ hDn hDl
    refine lc_add hD5 hal (by omega) fun H6 w6 => ⟨rows ++ [l], by unfold rowsV; rw [List.map_append]; rfl, by simp [hrl], ?_, hDn, ?_, ?_⟩
    · intro r hr
      rcases List.mem_append.mp hr with hr | hr
      · exact hok r hr
      · rw [List.mem_singleton] at hr
        rw [hr]
        exact ⟨hl, h10⟩
    · exact st5.kn (S := fun c => c = D) (Kp.kn (w6.kp rfl)) (fun e => hDn (.inl e.symm)) (fun e => hDn (.inr e.symm))
    · exact tabs_nl (tabs_nl tb3 (nl_stream st3 kp5)) (nl_wr hD5 w6)
  · obtain ⟨rows, rfl, hrl, hok, hDn, st3, tb3⟩ := p
    walk_at "rr"
    exact k rows D H3 (by omega) (by omega) hok hDl (st3.le (by omega)) tb3
theorem fix_off {P : Addr → Prop} {H H' : Hp} {p : Addr} {xs : List V} {o : HO} (hp : H p = some (.lst xs)) (w : Wr H p o H') (hP : ∀ c, P c → c ≠ p) : Fix P H H' := fun c u hu q => by
  rw [w.off c fun e => ?_]
  · exact hu
  · subst e
    rcases q with q | ⟨ys, q⟩
    · exact hP _ q rfl
    · rw [hp, q] at hu
      cases hu
/-- a row's pair, as made -/
def MadeAt (N : Addr → Prop) (H : Hp) (v : V) (q : List PyData × Option Nat) : Prop := ∃ p f ws, v = .ref p ∧ H p = some (.tup [.ref f, optV q.2]) ∧ H f = some (.lst ws) ∧ ¬ N f ∧ ws.length ≤ 640 ∧ TrAll H ws q.1 []
theorem MadeAt.kn {N S : Addr → Prop} {H H' : Hp} {v : V} {q : List PyData × Option Nat} (m : MadeAt N H v q) (k : Kn S H H') (hS : ∀ c, S c → N c) (hT : ∀ c xs, S c → H c ≠ some (.tup xs)) : MadeAt N H' v q := by
  obtain ⟨p, f, ws, e, h1, h2, h3, h4, h5⟩ := m
  refine ⟨p, f, ws, e, k.tup (fun z => hT _ _ z h1) h1, k.lst (fun z => h3 (hS _ z)) h2, h3, h4, h5.keep fun c o ho q => ?_⟩
  rcases q with q | ⟨xs, rfl⟩
  · cases q
  · exact k.tup (fun z => hT _ _ z ho) ho
theorem MadeAt.same {N : Addr → Prop} {H H' : Hp} {v : V} {q : List PyData × Option Nat} (m : MadeAt N H v q) (s : Same H H') : MadeAt N H' v q := m.kn (S := fun _ => False) (kn_same s) (fun _ z => z.elim) (fun _ _ z => z.elim)
theorem sum_le : ∀ {rows : List (List Nat)}, (∀ r ∈ rows, RowOk r) → (rows.map (·.length)).sum ≤ 300 * rows.length
  | [], _ => Nat.le_refl _
  | r :: rs, h => by
    have h1 := (h r List.mem_cons_self).1
    have h2 := sum_le (rows := rs) fun x hx => h x (List.mem_cons_of_mem _ hx)
    rw [List.map_cons, List.sum_cons, List.length_cons]
    omega
theorem joinL_len : ∀ {rows : List (List Nat)}, (∀ r ∈ rows, RowOk r) → (TL.joinL [10] rows).length ≤ 301 * rows.length
  | [], _ => Nat.le_refl _
  | [p], h => by
    have h1 := (h p List.mem_cons_self).1
    show p.length ≤ 301 * 1
    omega
  | p :: q :: r, h => by
    have h1 := (h p List.mem_cons_self).1
    have h2 := joinL_len (rows := q :: r) fun x hx => h x (List.mem_cons_of_mem _ hx)
    show (p ++ ([10] ++ TL.joinL [10] (q :: r))).length ≤ _
    rw [List.length_append, List.length_append, List.length_cons]
    rw [List.length_cons] at h2
    simp only [List.length_cons, List.length_nil]
    omega
theorem lex_rows : ∀ (rows : List (List Nat)), ∃ ls, Paired LexQ rows ls
  | [] => ⟨[], .nil⟩
  | r :: rs => by
    obtain ⟨ls, h⟩ := lex_rows rs
    obtain ⟨ds, bb, q⟩ := lex_all _ 0 (bef 35 r) (Nat.le_refl _)
    exact ⟨(ds, bb) :: ls, .cons q h⟩
theorem Paired.len {α β : Type} {F : α → β → Prop} : ∀ {xs : List α} {ys : List β}, Paired F xs ys → xs.length = ys.length
  | _, _, .nil => rfl
  | _, _, .cons _ r => congrArg Nat.succ (Paired.len r)
theorem Paired.imp {α β : Type} {F G : α → β → Prop} (h : ∀ x y, F x y → G x y) : ∀ {xs : List α} {ys : List β}, Paired F xs ys → Paired G xs ys
  | _, _, .nil => .nil
  | _, _, .cons r t => .cons (h _ _ r) (Paired.imp h t)
theorem p2 {H : Hp} {rows : List (List Nat)} {dl : Addr} {x0 x1 v2 v4 v5 v6 v7 v8 v9 v10 v11 v12 v13 v14 v15 v16 : Option V} (h1 : 1 ≤ rows.length) (h5 : rows.length ≤ 5) (hok : ∀ r ∈ rows, RowOk r) (hdl : H dl = some (.lst (rowsV rows)))
    (k : ∀ ls ml ms H', Paired LexQ rows ls → H' ml = some (.lst ms) → Paired (MadeAt (fun _ => False) H') ms ls → Same H H' → D.nx [x0, x1, v2, some (.ref dl), v4, some (.str (S (TL.joinL [10] rows))), some (.ref ml), v7, v8, v9, v10, v11, v12, v13, v14, v15, v16] H') :
    b2 K T CN CU D [x0, x1, v2, some (.ref dl), v4, v5, v6, v7, v8, v9, v10, v11, v12, v13, v14, v15, v16] H := by
  unfold b2
  have e_nl : Str.ofString "\n" = S [10] := by decide +kernel
  rw [e_nl]
  have hSz : 100000 ≤ sizeLine := by decide +kernel
  obtain ⟨ls, hls⟩ := lex_rows rows
  have erv : rowsV rows = (rows.map S).map V.str := by unfold rowsV; rw [List.map_map]; rfl
  walk_at "rr"
  refine ⟨S [10], dl, rows.map S, rfl, rfl, .inl (SqL.of (by rw [← erv]; exact hdl)), ?_, ?_⟩
  · rw [lens, List.length_map, S_len]
    have := sum_le hok
    simp only [List.length_cons, List.length_nil]
    omega
  rw [join_S]
  walk_at "rr"
  refine ⟨⟨rowsV rows, SqL.of hdl⟩, ?_⟩
  have hrl : (rowsV rows).length = rows.length := by unfold rowsV; rw [List.length_map]
  refine lc_in walk_list (fun D i acc H' => Same H H' ∧ Paired (MadeAt (· = D) H') acc (ls.take i)) (fun D H2 n2 => ⟨n2.same, .nil⟩) (fun D i acc H2 _ _ p => SqL.of (p.1 _ _ hdl)) (fun D i acc x H3 H4 hD hi hal hDl p y => ?_) (fun D acc H3 hD hl hDl p => ?_)
  · obtain ⟨rfl, hx⟩ := y
    obtain ⟨s3, pm⟩ := p
    have hi' : i < rows.length := by omega
    have hr : rows[i]? = some rows[i] := List.getElem?_eq_getElem hi'
    have ex : x = .str (S rows[i]) := by
      unfold rowsV at hx
      rw [List.getElem?_map, hr] at hx
      cases hx
      rfl
    subst ex
    obtain ⟨q, hq, hlex⟩ := paired_at hls hr
    obtain ⟨ds, bb⟩ := q
    have h640 := (hok _ (List.mem_of_getElem? hr)).1
    generalize rows[i] = r at hr h640 hlex ⊢
    walk_at "rr"
    refine r_wipe (by with_unfolding_all rfl) ?_
    walk_at "rr"
    refine ⟨r, rfl, by omega, fun ds' b' hl' p f ws H5 s5 hf0 hp hf hwl tr => ?_⟩
    obtain ⟨e1, e2⟩ := hl'.one hlex
    subst e1 e2
    have nfD : f ≠ D := fun e => by
      rw [e, hDl] at hf0
      cases hf0
    refine lc_add (s5 _ _ hDl) hal (by omega) fun H6 w6 => ⟨same_wr (Same.trans s3 s5) w6 hD, ?_⟩
    rw [List.take_succ, hq]
    have kD : Kn (· = D) H5 H6 := Kp.kn (w6.kp rfl)
    have nT : ∀ c xs, c = D → H5 c ≠ some (.tup xs) := fun c xs e h => by
      subst e
      rw [s5 _ _ hDl] at h
      cases h
    exact Paired.snoc (Paired.imp (fun v q m => (m.same s5).kn kD (fun _ z => z) nT) pm) (MadeAt.kn ⟨p, f, ws, rfl, hp, hf, nfD, hwl, tr⟩ kD (fun _ z => z) nT)
  · obtain ⟨s3, pm⟩ := p
    have e : ls.take (rowsV rows).length = ls := by rw [hrl, Paired.len hls, List.take_length]
    rw [e] at pm
    walk_at "rr"
    refine ⟨show 2 ≤ sizeLine by decide, fun t H4 n4 => ?_⟩
    refine r_gtup (SqT.of n4.now) (by rfl) ?_
    walk_at "rr"
    exact k ls D acc H4 hls (n4.same _ _ hDl) (Paired.imp (fun v q m => by
      obtain ⟨p, f, ws, h1, h2, h3, _, h4⟩ := m.same n4.same
      exact ⟨p, f, ws, h1, h2, h3, fun z => z, h4⟩) pm) (Same.trans s3 n4.same)
def BadV (H : Hp) (v : V) (q : Nat × Nat) : Prop := ∃ t, v = .ref t ∧ H t = some (.tup [.int q.1, .int q.2])
theorem BadV.same {H H' : Hp} {v : V} {q : Nat × Nat} (m : BadV H v q) (s : Same H H') : BadV H' v q := by
  obtain ⟨t, e, h⟩ := m
  exact ⟨t, e, s _ _ h⟩
theorem BadV.wr {H H' : Hp} {v : V} {q : Nat × Nat} {p : Addr} {xs : List V} {o : HO} (m : BadV H v q) (hp : H p = some (.lst xs)) (w : Wr H p o H') : BadV H' v q := by
  obtain ⟨t, e, h⟩ := m
  refine ⟨t, e, (w.off t fun z => ?_).trans h⟩
  rw [z, hp] at h
  cases h
def badOf (i : Nat) : Option Nat → List (Nat × Nat)
  | none => []
  | some p => [(i, p)]
theorem bads_snoc {ls : List (List PyData × Option Nat)} {i : Nat} {ds : List PyData} {o : Option Nat} (h : ls[i]? = some (ds, o)) : badsL 0 (ls.take (i + 1)) = badsL 0 (ls.take i) ++ badOf i o := by
  have hi : i < ls.length := by
    rcases Nat.lt_or_ge i ls.length with h1 | h1
    · exact h1
    · rw [List.getElem?_eq_none h1] at h
      cases h
  rw [List.take_succ, h, bads_app]
  have e : (ls.take i).length = i := by rw [List.length_take, Nat.min_eq_left (Nat.le_of_lt hi)]
  rw [e, Nat.zero_add]
  cases o <;> rfl
theorem p3 {H : Hp} {ls : List (List PyData × Option Nat)} {ml : Addr} {ms : List V} {x0 x1 v2 v3 v4 x5 v7 v8 v9 v10 v11 v12 v13 v14 v15 v16 : Option V} (hlen : ls.length ≤ 5) (hml : H ml = some (.lst ms)) (pm : Paired (MadeAt (fun _ => False) H) ms ls)
    (k : ∀ bl bs H', H' bl = some (.lst bs) → Paired (BadV H') bs (badsL 0 ls) → Same H H' → D.nx [x0, x1, v2, v3, v4, x5, some (.ref ml), some (.ref bl), v8, v9, v10, v11, v12, v13, v14, v15, v16] H') :
    b3 K T CN CU D [x0, x1, v2, v3, v4, x5, some (.ref ml), v7, v8, v9, v10, v11, v12, v13, v14, v15, v16] H := by
  unfold b3
  walk_at "rr"
  refine r_iEnum ?_
  walk_at "rr"
  refine ⟨ml, ms, rfl, SqL.of hml, ?_⟩
  have hSz : 100000 ≤ sizeLine := by decide +kernel
  have hml2 := Paired.len pm
  refine lc_in walk_enum (fun D i acc H' => Same H H' ∧ Paired (BadV H') acc (badsL 0 (ls.take i))) (fun D H2 n2 => ⟨n2.same, .nil⟩) (fun D i acc H2 _ _ p => SqL.of (p.1 _ _ hml)) (fun D i acc x H3 H4 hD hi hal hDl p y => ?_) (fun D acc H3 hD hl hDl p => ?_)
  · obtain ⟨Tp, x1', x2', rfl, hT, e3, e4, e5⟩ := y
    obtain ⟨s34, hT4⟩ := same_upd_new hT e3
    obtain ⟨s3, pb⟩ := p
    have ex1 : x1' = .int i := by cases e4; rfl
    subst ex1
    obtain ⟨q, hq, p, f, ws, ex2, hp, hf, _⟩ := paired_at pm e5
    subst ex2
    obtain ⟨ds, bb⟩ := q
    have s4 := Same.trans s3 s34
    clear e3 e4
    refine r_gtup (SqT.of hT4) (by rfl) ?_
    walk_at "rr"
    refine r_gtup (SqT.of (s4 _ _ hp)) (by rfl) ?_
    walk_at "rr"
    refine r_wipe (by with_unfolding_all rfl) ?_
    walk_at "rr"
    refine r_nonand ?_
    walk_at "rr"
    have e := bads_snoc hq
    cases bb with
    | none =>
      refine r_iten (fun h => absurd rfl h) (fun _ => ?_)
      refine lc_skip (s34 _ _ hDl) hal ⟨s4, ?_⟩
      have e0 : badOf i none = [] := rfl
      rw [e, e0, List.append_nil]
      exact Paired.imp (fun v q m => m.same s34) pb
    | some z =>
      refine r_iten (fun _ => ?_) (fun h => absurd h (by intro y; cases y))
      walk_at "rr"
      refine ⟨show 2 ≤ sizeLine by decide, fun t H5 n5 => ?_⟩
      have hD5 := n5.same _ _ (s34 _ _ hDl)
      refine lc_add hD5 hal (by omega) fun H6 w6 => ⟨same_wr (Same.trans s4 n5.same) w6 hD, ?_⟩
      rw [e]
      exact Paired.snoc (Paired.imp (fun v q m => (m.same (Same.trans s34 n5.same)).wr hD5 w6) pb) (BadV.wr ⟨t, rfl, n5.now⟩ hD5 w6)
  · obtain ⟨s3, pb⟩ := p
    rw [hml2, List.take_length] at pb
    walk_at "rr"
    exact k D acc H3 hDl pb s3
def badD (q : Nat × Nat) : PyData := .tuple [.int q.1, .int q.2]
theorem bads_dp {H : Hp} : ∀ {vs : List V} {qs : List (Nat × Nat)}, Paired (BadV H) vs qs → DpAll K H vs (qs.map badD)
  | _, _, .nil => .nil
  | _, _, .cons ⟨t, e, h⟩ r => by
    subst e
    exact .cons (.tup (SqT.of h) (.cons (.int _) (.cons (.int _) .nil))) (bads_dp r)
theorem bads_shaped (qs : List (Nat × Nat)) : SeqAt.shaped (.list (qs.map badD)) = true := by
  have h1 : ∀ qs : List (Nat × Nat), PyData.canLayAll0 (qs.map badD) = true := by
    intro qs
    induction qs with
    | nil => rfl
    | cons n r ih => show (true && PyData.canLayAll0 (r.map badD)) = true; rw [ih]; rfl
  have h2 : ∀ qs : List (Nat × Nat), PyData.depthAll (qs.map badD) ≤ 2 := by
    intro qs
    induction qs with
    | nil => exact Nat.zero_le _
    | cons n r ih =>
      have e : PyData.depth (badD n) ≤ 2 := by unfold badD; simp only [PyData.depth, PyData.depthAll]; omega
      simp only [List.map_cons, PyData.depthAll]
      omega
  unfold SeqAt.shaped
  have h3 := h2 qs
  have h4 : PyData.canLay0 (.list (qs.map badD)) = true := h1 qs
  have h5 : PyData.depth (.list (qs.map badD)) ≤ 64 := by
    show PyData.depthAll (qs.map badD) + 1 ≤ 64
    omega
  rw [h4, decide_eq_true h5]
  rfl
theorem p4 {H : Hp} {ls : List (List PyData × Option Nat)} {ml bl : Addr} {ms bs : List V} {x0 x1 v2 v3 v4 x5 v8 v9 v10 v11 v12 v13 v14 v15 v16 : Option V} (hlen : ls.length ≤ 5) (hml : H ml = some (.lst ms)) (pm : Paired (MadeAt (fun _ => False) H) ms ls)
    (hbl : H bl = some (.lst bs)) (pb : Paired (BadV H) bs (badsL 0 ls))
    (k : ∀ dv H', Same H H' → Rp (fun _ => True) H' dv (DUE ls) → D.nx [x0, x1, v2, v3, v4, x5, some (.ref ml), some (.ref bl), v8, v9, v10, some dv, v12, v13, v14, v15, v16] H') :
    b4 K T CN CU D [x0, x1, v2, v3, v4, x5, some (.ref ml), some (.ref bl), v8, v9, v10, v11, v12, v13, v14, v15, v16] H := by
  unfold b4
  have hSz : 100000 ≤ sizeLine := by decide +kernel
  have hml2 := Paired.len pm
  walk_at "rr"
  refine ⟨by decide, fun p1 H1 n1 => ?_⟩
  walk_at "rr"
  have hbl1 := n1.same _ _ hbl
  have pb1 : Paired (BadV H1) bs (badsL 0 ls) := Paired.imp (fun v q m => m.same n1.same) pb
  refine r_nd (.lst (SqL.of hbl1) (bads_dp pb1)) (.lst (SqL.of n1.now) .nil) (bads_shaped _) rfl ?_
  walk_at "rr"
  cases hb : badsL 0 ls with
  | nil =>
    have e : PyData.eqv (.list (([] : List (Nat × Nat)).map badD)) (.list []) = true := rfl
    rw [e]
    walk_at "rr"
    refine ⟨⟨ms, SqL.of (n1.same _ _ hml)⟩, ?_⟩
    refine lc_in walk_list (fun D i acc H' => Same H1 H' ∧ RpAll (fun c => c ≠ D) H' acc ((ls.take i).map fun q => .list q.1)) (fun D H2 n2 => ⟨n2.same, .nil⟩) (fun D i acc H2 _ _ p => SqL.of (p.1 _ _ (n1.same _ _ hml))) (fun D i acc x H3 H4 hD hi hal hDl p y => ?_) (fun D acc H3 hD hl hDl p => ?_)
    · obtain ⟨rfl, hx⟩ := y
      obtain ⟨s3, pr⟩ := p
      obtain ⟨q, hq, p, f, ws, ex, hp, hf, _, hwl, tr⟩ := paired_at pm hx
      subst ex
      have s03 := Same.trans n1.same s3
      refine r_gtup (SqT.of (s03 _ _ hp)) (by rfl) ?_
      walk_at "rr"
      refine r_wipe (by with_unfolding_all rfl) ?_
      walk_at "rr"
      refine lc_add hDl hal (by omega) fun H6 w6 => ⟨same_wr s3 w6 hD, ?_⟩
      rw [List.take_succ, hq, List.map_append]
      have nfD : f ≠ D := fun e => by
        subst e
        rw [n1.same _ _ hf] at hD
        cases hD
      have fx := fix_off (P := fun c => c ≠ D) hDl w6 (fun c h => h)
      refine RpAll.snoc (pr.mono fx fun c h => h) ?_
      exact Rp.mono fx (fun c h => h) (.lst (s03 _ _ hf) nfD (by omega) ((tr.keep (Same.fix s03)).rp fun c h => absurd h (by simp)))
    · obtain ⟨s3, pr⟩ := p
      rw [hml2, List.take_length] at pr
      walk_at "rr"
      refine ⟨show 2 ≤ sizeLine by decide, fun t H4 n4 => ?_⟩
      refine k (.ref t) H4 (Same.trans n1.same (Same.trans s3 n4.same)) ?_
      unfold DUE
      rw [hb]
      exact .tup n4.now (show 2 ≤ sizeLine by decide) (.cons (.str _) (.cons (.lst (n4.same _ _ hDl) trivial (by omega) ((pr.same n4.same).all)) .nil))
  | cons z r =>
    obtain ⟨i, p⟩ := z
    have e : PyData.eqv (.list (((i, p) :: r).map badD)) (.list []) = false := rfl
    rw [e]
    walk_at "rr"
    rw [hb] at pb1
    cases pb1 with
    | cons m1 m2 =>
      obtain ⟨t1, e1, ht1⟩ := m1
      subst e1
      refine ixL0 (SqL.of hbl1) ?_
      walk_at "rr"
      refine ⟨show 2 ≤ sizeLine by decide, fun t H4 n4 => ?_⟩
      refine k (.ref t) H4 (Same.trans n1.same n4.same) ?_
      unfold DUE
      rw [hb]
      exact .tup n4.now (show 2 ≤ sizeLine by decide) (.cons (.str _) (.cons (.tup (n4.same _ _ ht1) (show 2 ≤ sizeLine by decide) (.cons (.int _) (.cons (.int _) .nil))) .nil))
end
end K24
end
section
set_option maxHeartbeats 4000000
/-! Lw12: a turn of the law, its middle. -/
/-- one step of a reading that needs no choice; all of them -/
local macro_rules | `(tactic| walk_at "r") => `(tactic| (first
  | (with_reducible refine Lw.r_seq ?_) | (with_reducible refine Lw.r_asg ?_) | (with_reducible refine Lw.r_ret ?_) | (with_reducible refine Lw.r_retN ?_) | (with_reducible refine Lw.r_drop ?_)
  | (with_reducible refine Lw.r_name ?_) | (with_reducible refine Lw.r_gsub ?_) | (with_reducible refine Lw.r_gcons ?_) | (with_reducible refine Lw.r_gnil ?_)
  | (with_reducible refine Lw.r_next ?_) | (with_reducible refine Lw.r_cont ?_) | (with_reducible refine Lw.r_brk ?_) | (with_reducible refine Lw.r_ifS ?_) | (with_reducible refine Lw.r_par ?_) | (with_reducible refine Lw.r_two ?_) | (with_reducible refine Lw.r_par3 ?_) | (with_reducible refine Lw.r_three ?_)
  | (with_reducible refine Lw.r_var (by with_unfolding_all rfl) ?_) | (with_reducible refine Lw.r_c ?_) | (with_reducible refine Lw.r_op ?_) | (with_reducible refine Lw.r_un ?_)
  | (with_reducible refine Lw.r_I0 ?_) | (with_reducible refine Lw.r_test ?_) | (with_reducible refine Lw.r_tB ?_) | (with_reducible refine Lw.r_bl ?_)
  | (with_reducible refine Lw.r_tand ?_) | (with_reducible refine Lw.r_tor ?_) | (with_reducible refine Lw.r_tnot ?_) | (with_reducible refine Lw.r_andV ?_) | (with_reducible refine Lw.r_orV ?_) | (with_reducible refine Lw.r_notV ?_) | (with_reducible refine Lw.r_tif ?_)
  | (with_reducible refine Lw.r_cb ?_) | (with_reducible refine Lw.r_cons ?_) | (with_reducible refine Lw.r_nil ?_) | (with_reducible refine Lw.r_call ?_) | (with_reducible refine Lw.r_lc ?_) | (with_reducible refine Lw.r_tyes ?_) | (with_reducible refine Lw.r_sl ?_) | (with_reducible refine Lw.r_part ?_) | (with_reducible refine Lw.r_nopart ?_) | (with_reducible refine Lw.r_inS ?_) | ((with_reducible refine Lw.r_lenS (by assumption) ?_); (try rw [SX.S_len])) | (with_reducible refine Lw.r_eqSS ?_) | (with_reducible refine Lw.r_neSS ?_) | (with_reducible refine Lw.r_for ?_) | (with_reducible refine Lw.r_iList ?_) | (with_reducible refine Lw.r_iTup ?_) | (with_reducible refine Lw.r_iKeys ?_) | (with_reducible refine Lw.r_iRng1 ?_) | (with_reducible refine Lw.r_iRng2 ?_) | (with_reducible refine Lw.r_callS ?_) | (with_reducible refine Lw.r_iStr ?_) | (with_reducible refine Lw.r_iEnumS ?_) | (with_reducible refine Lw.r_zipA ?_) | (with_reducible refine Lw.r_liIt ?_) | (with_reducible refine Lw.r_lst ?_) | (with_reducible refine Lw.r_tup ?_)
  | (with_reducible refine Lw.r_bm ?_) | (with_reducible refine Lw.r_bm0 ?_) | (with_reducible refine Lw.r_tyS ?_)
  | (with_reducible refine Lw.r_ixL (L2.SqL.of (by assumption)) (by with_unfolding_all rfl) ?_) | (with_reducible refine Lw.r_ixT (L2.SqT.of (by assumption)) (by with_unfolding_all rfl) ?_)
  | (with_reducible refine Lw.r_eqI ?_) | (with_reducible refine Lw.r_neI ?_) | (with_reducible refine Lw.r_eqS ?_) | (with_reducible refine Lw.r_neS ?_) | (with_reducible refine Lw.r_eqB ?_) | (with_reducible refine Lw.r_neB ?_)
  | (with_reducible refine ⟨_, fun _ _ h => h, ?_⟩) | (with_reducible refine ⟨_, rfl, ?_⟩) | (with_reducible refine Or.inl ⟨_, rfl, ?_⟩)
  | (with_reducible refine Lw.r_ifnf ?_) | (with_reducible refine Lw.r_ifnt ?_) | (with_reducible refine L2.iteT ?_) | (with_reducible refine L2.iteF ?_)))
local macro_rules | `(tactic| walk_at "rr") => `(tactic| ((try dsimp only []); (repeat (walk_at "r"; (try dsimp only [])))))
namespace K24
open PySem PySem.Spec PyProof.Rows L2 Lw SX
/-- something but a table lies there -/
def Is (H : Hp) (c : Addr) : Prop := ∃ o, H c = some o ∧ ∀ ps, o ≠ .tbl ps
theorem Is.en {H H' : Hp} {c : Addr} (i : Is H c) (k : LamX.ExtN H H') : Is H' c := by
  obtain ⟨o, h, t⟩ := i
  exact ⟨o, k _ _ h t, t⟩
theorem Is.ne {H : Hp} {c : Addr} (i : Is H c) (h : H c = none) : False := by
  obtain ⟨o, e, _⟩ := i
  rw [h] at e
  cases e
theorem is_lst {H : Hp} {c : Addr} {xs : List V} (h : H c = some (.lst xs)) : Is H c := ⟨_, h, fun ps z => by cases z⟩
mutual
theorem rp_is {P : Addr → Prop} {H : Hp} : ∀ {v : V} {d : PyData}, Rp P H v d → Rp (Is H) H v d
  | _, _, .non => .non
  | _, _, .bl b => .bl b
  | _, _, .int i => .int i
  | _, _, .str x => .str x
  | _, _, .lst h p l r => .lst h (is_lst h) l (rpAll_is r)
  | _, _, .tup h l r => .tup h l (rpAll_is r)
  | _, _, .dct h p l n r => .dct h ⟨_, h, fun ps z => by cases z⟩ l n (rpKv_is r)
theorem rpAll_is {P : Addr → Prop} {H : Hp} : ∀ {vs : List V} {ds : List PyData}, RpAll P H vs ds → RpAll (Is H) H vs ds
  | _, _, .nil => .nil
  | _, _, .cons h r => .cons (rp_is h) (rpAll_is r)
theorem rpKv_is {P : Addr → Prop} {H : Hp} : ∀ {vs : List (Key × V)} {ds : List (PyData × PyData)}, RpKv P H vs ds → RpKv (Is H) H vs ds
  | _, _, .nil => .nil
  | _, _, .cons h r => .cons (rp_is h) (rpKv_is r)
end
/-- what was met: its datum; told: its lists lie where nothing of B was -/
def MetF (B H : Hp) (v : V) (ls : List (List PyData × Option Nat)) : Prop := Rp (fun _ => True) H v (DUE ls) ∧
  (badsL 0 ls = [] → ∃ p tv ns, v = .ref p ∧ H p = some (.tup [.str (Str.ofString "told"), tv]) ∧ Tr H tv (.list (ls.map fun q => .list q.1)) ns ∧ ns.Nodup ∧ ∀ a ∈ ns, ¬ Is B a)
theorem MetRes.f {B H H' : Hp} {v : V} {ls : List (List PyData × Option Nat)} (m : MetRes H H' v ls) (k : LamX.ExtN B H) : MetF B H' v ls := ⟨m.1.all, fun h => by
  obtain ⟨p, tv, ns, e1, e2, e3, e4, e5⟩ := m.2 h
  exact ⟨p, tv, ns, e1, e2, e3, e4, fun a ha i => (i.en k).ne (e5 a ha)⟩⟩
theorem MetF.en {B H H' : Hp} {v : V} {ls : List (List PyData × Option Nat)} (m : MetF B H v ls) (k : LamX.ExtN H H') : MetF B H' v ls := ⟨m.1.en k, fun h => by
  obtain ⟨p, tv, ns, e1, e2, e3, e4, e5⟩ := m.2 h
  exact ⟨p, tv, ns, e1, en_tup k e2, e3.en k, e4, e5⟩⟩
theorem lex_hgt {p : Nat} {r : List Nat} {ds : List PyData} {o : Option Nat} (h : Lex p r ds o) : hgtAll ds ≤ 1 := by
  induction h with
  | nil p => exact Nat.zero_le _
  | sp h ih => exact ih
  | bad h1 h2 => exact Nat.zero_le _
  | @tok p c n r d ds b h1 h2 h3 ih =>
    have hd : hgt d = 1 := by
      unfold tok1 at h2
      split at h2
      · cases h2; rfl
      · split at h2
        · cases h2; rfl
        · split at h2
          · cases h2
          · split at h2
            · cases h2; rfl
            · split at h2
              · cases h2; rfl
              · cases h2
    show max (hgt d) (hgtAll ds) ≤ 1
    omega
theorem lexs_hgt : ∀ {rows : List (List Nat)} {ls : List (List PyData × Option Nat)}, Paired LexQ rows ls → hgtAll (ls.map fun q => PyData.list q.1) ≤ 2
  | _, _, .nil => Nat.zero_le _
  | _, _, .cons (b := q) h r => by
    have h1 := lex_hgt h
    have h2 := lexs_hgt r
    show max (hgtAll q.1 + 1) _ ≤ 2
    omega
theorem due_hgt {rows : List (List Nat)} {ls : List (List PyData × Option Nat)} (h : Paired LexQ rows ls) : hgt (DUE ls) ≤ 4 := by
  unfold DUE
  have h2 := lexs_hgt h
  cases badsL 0 ls with
  | nil =>
    show max 0 (max (hgtAll _ + 1) 0) + 1 ≤ 4
    omega
  | cons z r =>
    obtain ⟨i, p⟩ := z
    show max 0 (max (max 0 (max 0 0) + 1) 0) + 1 ≤ 4
    decide
section
variable {K : PySem.W.Frag} {T : List (Addr × Str)} {CN CU a b : Addr} {D : Ends}
theorem r_lam {TT : (XK → Hp → VK → Prop) → Hp → VK → Prop} {t : XK → TE} {σ : L2.St} {H : Hp} {Q : VK} (tb : LamX.Tabs T H) (h : ∀ H1, LamX.ExtN H H1 → LamX.Tabs T H1 → TT (fun E H' Q' => t E σ H' Q') H1 Q) : LamX.tLam T TT t σ H Q := ⟨tb, h⟩
theorem r_callK0 {sp : Sp} {gV : List V → List V → List V} {E : L2.St → XK} {tk : TA} {σ : L2.St} {H : Hp} {Q : VK} (h : tk σ H fun zs H2 => sp (gV [] zs) H2 Q (E σ)) : Lw.tCallK0 sp gV E tk σ H Q := h
/-- the text as it is, and what is due -/
structure TxOk (l : List Nat) (ls : List (List PyData × Option Nat)) : Prop where
  short : l.length ≤ 100000
  rows : ∃ rows, TL.spl [10] 0 [] l = rows ∧ (∀ r ∈ rows, r.length ≤ 640) ∧ Paired LexQ rows ls
theorem lam_text {σ : L2.St} {H : Hp} {Q : VK} {l : List Nat} {ls : List (List PyData × Option Nat)} (h5 : σ[5]? = some (some (.str (S l)))) (ok : TxOk l ls) (tb : LamX.Tabs T H) (k : ∀ v H1 H', LamX.ExtN H H1 → Same H1 H' → LamX.Tabs T H' → MetRes H1 H' v ls → Q v H') :
    LamX.tLam T (TMet CN CU) (fun E => tCallS (spTokens CN CU) (fun σ => WE (fun cls d x H => E cls d H) σ) (tCons (tVar 5) tNil)) σ H Q := by
  refine r_lam tb fun H1 e1 tb1 => ?_
  obtain ⟨rows, hr, h6, hp⟩ := ok.rows
  refine r_callS (r_cons (r_var h5 (r_nil ?_)))
  exact met_core ok.short hr h6 hp fun v H' s m => k v H1 H' e1 s (tabs_nl tb1 (nl_same s)) m
theorem lam_textK {σ : L2.St} {H : Hp} {Q : VK} {l : List Nat} {ls : List (List PyData × Option Nat)} (h5 : σ[5]? = some (some (.str (S l)))) (ok : TxOk l ls) (tb : LamX.Tabs T H) (k : ∀ v H1 H', LamX.ExtN H H1 → Same H1 H' → LamX.Tabs T H' → MetRes H1 H' v ls → Q v H') :
    LamX.tLam T (TMet CN CU) (fun E => tCallK0 (spTokens CN CU) (fun vs zs => vs ++ zs) (fun σ => WE (fun cls d x H => E cls d H) σ) (tCons (tVar 5) tNil)) σ H Q := by
  refine r_lam tb fun H1 e1 tb1 => ?_
  obtain ⟨rows, hr, h6, hp⟩ := ok.rows
  refine r_callK0 (r_cons (r_var h5 (r_nil ?_)))
  exact met_core ok.short hr h6 hp fun v H' s m => k v H1 H' e1 s (tabs_nl tb1 (nl_same s)) m
/-- found = [met]; found.append(met); if not same: return False -/
theorem p567 {H : Hp} {l : List Nat} {ls : List (List PyData × Option Nat)} {dv : V} {u : TS} {x0 x1 v2 v3 v4 v6 v7 v8 v9 v10 v12 v13 v14 v15 v16 : Option V} (ok : TxOk l ls) (tb : LamX.Tabs T H) (hd : Rp (fun _ => True) H dv (DUE ls))
    (k : ∀ fl w1 w2 H', LamX.ExtN H H' → LamX.Tabs T H' → H' fl = some (.lst [w1, w2]) → MetF H H' w1 ls → u D [x0, x1, v2, v3, v4, some (.str (S l)), v6, v7, v8, v9, v10, some dv, some (.ref fl), v13, v14, v15, v16] H') :
    tSeq (b5 K T CN CU) (tSeq (b6 K T CN CU) (tSeq (b7 K T CN CU) u)) D [x0, x1, v2, v3, v4, some (.str (S l)), v6, v7, v8, v9, v10, some dv, v12, v13, v14, v15, v16] H := by
  unfold b5 b6 b7
  obtain ⟨rows, _, _, hpr⟩ := ok.rows
  have hgd := due_hgt hpr
  walk_at "rr"
  refine lam_text rfl ok tb fun w1 H1 H2 e1 s1 tb2 m1 => ?_
  walk_at "rr"
  refine ⟨show 1 ≤ sizeLine by decide, fun fl H3 n3 => ?_⟩
  have e3 : LamX.ExtN H H3 := e1.trans (en_same (Same.trans s1 n3.same))
  have f1 := (MetRes.f m1 e1).en (en_same n3.same)
  walk_at "rr"
  refine r_tyL (SqL.of n3.now) ?_
  walk_at "rr"
  refine lam_textK rfl ok (tabs_nl tb2 (nl_same n3.same)) fun w2 H4 H5 e4 s5 tb5 m2 => ?_
  walk_at "rr"
  have e5 : LamX.ExtN H3 H5 := e4.trans (en_same s5)
  have hfl := en_lst e5 n3.now
  refine r_app hfl (show 1 < sizeLine by decide) fun H6 w6 => ?_
  walk_at "rr"
  refine ⟨show 2 ≤ sizeLine by decide, fun dl H7 n7 => ?_⟩
  walk_at "rr"
  -- what lies at fl is not of what was met, nor of what is due
  have nIs : ¬ Is H fl := fun i => ((i.en e1).en (en_same s1)).ne n3.was
  have d5 : Rp (Is H) H5 dv (DUE ls) := (rp_is hd).en (e3.trans e5)
  have d6 : Rp (Is H) H6 dv (DUE ls) := d5.mono (fix_off hfl w6 fun c i e => nIs (e ▸ i)) fun c i => i
  have w1r : Rp (fun c => c ≠ fl) H3 w1 (DUE ls) := by
    have r2 : Rp (Is H2) H2 w1 (DUE ls) := rp_is m1.1
    refine (r2.same n3.same).mono (fun c o h _ => h) fun c i e => ?_
    rw [e] at i
    exact i.ne n3.was
  have w1r6 : Rp (fun c => c ≠ fl) H6 w1 (DUE ls) := (w1r.en e5).mono (fix_off hfl w6 fun c i => i) fun c i => i
  have w2r : Rp (fun c => c ≠ fl) H5 w2 (DUE ls) := m2.1.mono (fun c o h _ => h) fun c i e => by
    rw [e] at i
    rw [en_lst e4 n3.now] at i
    cases i
  have w2r6 : Rp (fun c => c ≠ fl) H6 w2 (DUE ls) := w2r.mono (fix_off hfl w6 fun c i => i) fun c i => i
  refine ⟨fun _ => True, fun _ => True, .ref fl, .ref dl, .list [DUE ls, DUE ls], rfl, ?_, ?_, ?_, fun H8 s8 => ?_⟩
  · exact .lst (n7.same _ _ w6.now) trivial (show 2 ≤ sizeLine by decide) (.cons (w1r6.same n7.same).all (.cons (w2r6.same n7.same).all .nil))
  · exact .lst n7.now trivial (show 2 ≤ sizeLine by decide) (.cons (d6.same n7.same).all (.cons (d6.same n7.same).all .nil))
  · show max (hgt (DUE ls)) (max (hgt (DUE ls)) 0) + 1 < 12
    omega
  walk_at "rr"
  have e68 : Same H6 H8 := Same.trans n7.same s8
  have eH6 : LamX.ExtN H H6 := fun c o h t => by
    have h5 := (e3.trans e5) c o h t
    rw [w6.off c fun e => nIs (e ▸ ⟨o, h, t⟩)]
    exact h5
  refine k fl w1 w2 H8 (eH6.trans (en_same e68)) (tabs_nl (tabs_nl (tabs_nl tb5 (nl_wr hfl w6)) (nl_same n7.same)) (nl_same s8)) (e68 _ _ w6.now) ?_
  -- the first stays as it was met
  refine MetF.en (H := H6) ⟨w1r6.all, fun hb => ?_⟩ (en_same e68)
  obtain ⟨p, tv, ns, q1, q2, q3, q4, q5⟩ := (MetRes.f m1 e1).2 hb
  have e25 : LamX.ExtN H2 H5 := (en_same n3.same).trans e5
  refine ⟨p, tv, ns, q1, ?_, (q3.en e25).keep ?_, q4, q5⟩
  · rw [w6.off p fun e => ?_]
    · exact en_tup e25 q2
    · rw [e, n3.was] at q2
      cases q2
  · refine fix_off hfl w6 fun c hc e => ?_
    obtain ⟨zs, hz⟩ := q3.isL c hc
    rw [e, n3.was] at hz
    cases hz
/-- if bads == []: spoilt(found[0][1]) -/
theorem p8 {H0 H : Hp} {n : Nat} {rows : List (List Nat)} {ls : List (List PyData × Option Nat)} {bl fl : Addr} {bs : List V} {w1 w2 dv : V} {x0 x1 v2 v3 v4 x5 v6 v8 v9 v10 v13 v14 v15 v16 : Option V} (hpr : Paired LexQ rows ls) (tb : LamX.Tabs T H) (hbl : H bl = some (.lst bs)) (pb : Paired (BadV H) bs (badsL 0 ls))
    (hfl : H fl = some (.lst [w1, w2])) (mf : MetF H0 H w1 ls) (st : StreamAt H a b n) (ia : Is H0 a) (ib : Is H0 b) (hd : Rp (Is H0) H dv (DUE ls))
    (k : ∀ H', LamX.Tabs T H' → StreamAt H' a b n → Rp (fun _ => True) H' dv (DUE ls) → D.nx [x0, x1, v2, v3, v4, x5, v6, some (.ref bl), v8, v9, v10, some dv, some (.ref fl), v13, v14, v15, v16] H') :
    b8 K T CN CU D [x0, x1, v2, v3, v4, x5, v6, some (.ref bl), v8, v9, v10, some dv, some (.ref fl), v13, v14, v15, v16] H := by
  unfold b8
  walk_at "rr"
  refine ⟨show 0 ≤ sizeLine by decide, fun p1 H1 n1 => ?_⟩
  walk_at "rr"
  have s1 := n1.same
  refine r_ed (.lst (SqL.of (s1 _ _ hbl)) (bads_dp (Paired.imp (fun v q m => m.same s1) pb))) (.lst (SqL.of n1.now) .nil) (bads_shaped _) rfl ?_
  walk_at "rr"
  cases hb : badsL 0 ls with
  | nil =>
    have e : PyData.eqv (.list (([] : List (Nat × Nat)).map badD)) (.list []) = true := rfl
    rw [e]
    obtain ⟨p, tv, ns, q1, q2, q3, q4, q5⟩ := (mf.en (en_same s1)).2 hb
    subst q1
    walk_at "rr"
    refine ixL0 (SqL.of (s1 _ _ hfl)) ?_
    walk_at "rr"
    have hh := lexs_hgt hpr
    refine ⟨tv, _, ns, rfl, q3, q4, ?_, fun H' kp => ?_⟩
    · show hgtAll _ + 1 < 8
      omega
    · refine k H' (tabs_nl (tabs_nl tb (nl_same s1)) (nl_kp kp fun c hc o ho => ?_)) ((st.at s1).kn (Kp.kn kp) (fun z => q5 _ z ia) (fun z => q5 _ z ib)) ?_
      · obtain ⟨zs, hz⟩ := q3.isL c hc
        rw [hz] at ho
        exact ⟨zs, (Option.some.inj ho).symm⟩
      · exact ((hd.same s1).kn (fun c i z => q5 c z i) (fun c xs z h => by
          obtain ⟨zs, hz⟩ := q3.isL c z
          rw [hz] at h
          cases h) (Kp.kn kp)).all
  | cons z r =>
    have e : PyData.eqv (.list ((z :: r).map badD)) (.list []) = false := rfl
    rw [e]
    walk_at "rr"
    exact k H1 (tabs_nl tb (nl_same s1)) (st.at s1) (hd.same s1).all
theorem p9 {H : Hp} {n : Nat} {l : List Nat} {ls : List (List PyData × Option Nat)} {dv : V} {x0 x1 v2 v3 v4 v6 v7 v8 v9 v10 v12 v13 v14 v15 v16 : Option V} (ok : TxOk l ls) (tb : LamX.Tabs T H) (st : StreamAt H a b n) (hd : Rp (fun _ => True) H dv (DUE ls))
    (k : ∀ H', LamX.Tabs T H' → StreamAt H' a b n → D.nx [x0, x1, v2, v3, v4, some (.str (S l)), v6, v7, v8, v9, v10, some dv, v12, v13, v14, v15, v16] H') :
    b9 K T CN CU D [x0, x1, v2, v3, v4, some (.str (S l)), v6, v7, v8, v9, v10, some dv, v12, v13, v14, v15, v16] H := by
  unfold b9
  obtain ⟨rows, _, _, hpr⟩ := ok.rows
  have hgd := due_hgt hpr
  walk_at "rr"
  refine lam_text rfl ok tb fun w1 H1 H2 e1 s1 tb2 m1 => ?_
  walk_at "rr"
  refine ⟨_, fun _ => True, w1, dv, DUE ls, rfl, m1.1, (hd.en e1).same s1, by omega, fun H3 s3 => ?_⟩
  walk_at "rr"
  exact k H3 (tabs_nl tb2 (nl_same s3)) (((st.en e1).at s1).at s3)
end
end K24
end
section
set_option maxHeartbeats 4000000
/-! Lw13: a turn of the law, its end. -/
/-- one step of a reading that needs no choice; all of them -/
local macro_rules | `(tactic| walk_at "r") => `(tactic| (first
  | (with_reducible refine Lw.r_seq ?_) | (with_reducible refine Lw.r_asg ?_) | (with_reducible refine Lw.r_ret ?_) | (with_reducible refine Lw.r_retN ?_) | (with_reducible refine Lw.r_drop ?_)
  | (with_reducible refine Lw.r_name ?_) | (with_reducible refine Lw.r_gsub ?_) | (with_reducible refine Lw.r_gcons ?_) | (with_reducible refine Lw.r_gnil ?_)
  | (with_reducible refine Lw.r_next ?_) | (with_reducible refine Lw.r_cont ?_) | (with_reducible refine Lw.r_brk ?_) | (with_reducible refine Lw.r_ifS ?_) | (with_reducible refine Lw.r_par ?_) | (with_reducible refine Lw.r_two ?_) | (with_reducible refine Lw.r_par3 ?_) | (with_reducible refine Lw.r_three ?_)
  | (with_reducible refine Lw.r_var (by with_unfolding_all rfl) ?_) | (with_reducible refine Lw.r_c ?_) | (with_reducible refine Lw.r_op ?_) | (with_reducible refine Lw.r_un ?_)
  | (with_reducible refine Lw.r_I0 ?_) | (with_reducible refine Lw.r_test ?_) | (with_reducible refine Lw.r_tB ?_) | (with_reducible refine Lw.r_bl ?_)
  | (with_reducible refine Lw.r_tand ?_) | (with_reducible refine Lw.r_tor ?_) | (with_reducible refine Lw.r_tnot ?_) | (with_reducible refine Lw.r_andV ?_) | (with_reducible refine Lw.r_orV ?_) | (with_reducible refine Lw.r_notV ?_) | (with_reducible refine Lw.r_tif ?_)
  | (with_reducible refine Lw.r_cb ?_) | (with_reducible refine Lw.r_cons ?_) | (with_reducible refine Lw.r_nil ?_) | (with_reducible refine Lw.r_call ?_) | (with_reducible refine Lw.r_lc ?_) | (with_reducible refine Lw.r_tyes ?_) | (with_reducible refine Lw.r_sl ?_) | (with_reducible refine Lw.r_part ?_) | (with_reducible refine Lw.r_nopart ?_) | (with_reducible refine Lw.r_inS ?_) | ((with_reducible refine Lw.r_lenS (by assumption) ?_); (try rw [SX.S_len])) | (with_reducible refine Lw.r_eqSS ?_) | (with_reducible refine Lw.r_neSS ?_) | (with_reducible refine Lw.r_for ?_) | (with_reducible refine Lw.r_iList ?_) | (with_reducible refine Lw.r_iTup ?_) | (with_reducible refine Lw.r_iKeys ?_) | (with_reducible refine Lw.r_iRng1 ?_) | (with_reducible refine Lw.r_iRng2 ?_) | (with_reducible refine Lw.r_callS ?_) | (with_reducible refine Lw.r_iStr ?_) | (with_reducible refine Lw.r_iEnumS ?_) | (with_reducible refine Lw.r_zipA ?_) | (with_reducible refine Lw.r_liIt ?_) | (with_reducible refine Lw.r_lst ?_) | (with_reducible refine Lw.r_tup ?_)
  | (with_reducible refine Lw.r_bm ?_) | (with_reducible refine Lw.r_bm0 ?_) | (with_reducible refine Lw.r_tyS ?_)
  | (with_reducible refine Lw.r_ixL (L2.SqL.of (by assumption)) (by with_unfolding_all rfl) ?_) | (with_reducible refine Lw.r_ixT (L2.SqT.of (by assumption)) (by with_unfolding_all rfl) ?_)
  | (with_reducible refine Lw.r_eqI ?_) | (with_reducible refine Lw.r_neI ?_) | (with_reducible refine Lw.r_eqS ?_) | (with_reducible refine Lw.r_neS ?_) | (with_reducible refine Lw.r_eqB ?_) | (with_reducible refine Lw.r_neB ?_)
  | (with_reducible refine ⟨_, fun _ _ h => h, ?_⟩) | (with_reducible refine ⟨_, rfl, ?_⟩) | (with_reducible refine Or.inl ⟨_, rfl, ?_⟩)
  | (with_reducible refine Lw.r_ifnf ?_) | (with_reducible refine Lw.r_ifnt ?_) | (with_reducible refine L2.iteT ?_) | (with_reducible refine L2.iteF ?_)))
local macro_rules | `(tactic| walk_at "rr") => `(tactic| ((try dsimp only []); (repeat (walk_at "r"; (try dsimp only [])))))
namespace K24
open PySem PySem.Spec PyProof.Rows L2 Lw SX
mutual
theorem rp_isP {P : Addr → Prop} {H : Hp} : ∀ {v : V} {d : PyData}, Rp P H v d → Rp (fun c => P c ∧ Is H c) H v d
  | _, _, .non => .non
  | _, _, .bl b => .bl b
  | _, _, .int i => .int i
  | _, _, .str x => .str x
  | _, _, .lst h p l r => .lst h ⟨p, is_lst h⟩ l (rpAll_isP r)
  | _, _, .tup h l r => .tup h l (rpAll_isP r)
  | _, _, .dct h p l n r => .dct h ⟨p, _, h, fun ps z => by cases z⟩ l n (rpKv_isP r)
theorem rpAll_isP {P : Addr → Prop} {H : Hp} : ∀ {vs : List V} {ds : List PyData}, RpAll P H vs ds → RpAll (fun c => P c ∧ Is H c) H vs ds
  | _, _, .nil => .nil
  | _, _, .cons h r => .cons (rp_isP h) (rpAll_isP r)
theorem rpKv_isP {P : Addr → Prop} {H : Hp} : ∀ {kvs : List (Key × V)} {ds : List (PyData × PyData)}, RpKv P H kvs ds → RpKv (fun c => P c ∧ Is H c) H kvs ds
  | _, _, .nil => .nil
  | _, _, .cons h r => .cons (rp_isP h) (rpKv_isP r)
end
section
variable {K : PySem.W.Frag} {T : List (Addr × Str)} {CN CU a b : Addr} {D : Ends}
def Thing (d : PyData) : Prop := d = .none ∨ d = .int 5 ∨ d = .bool true ∨ d = .list [] ∨ d = .list [.str (Str.ofString "letters a")] ∨ d = .tuple [.str (Str.ofString "a")] ∨ d = .dict [] ∨ d = .int (-1)
theorem Thing.nstr {d : PyData} (h : Thing d) : ∀ z, d ≠ .str z := by
  intro z e
  rcases h with h | h | h | h | h | h | h | h <;> (rw [h] at e; cases e)
theorem Thing.hgt {d : PyData} (h : Thing d) : hgt d < 8 := by
  rcases h with h | h | h | h | h | h | h | h <;> (rw [h]; decide)
theorem Thing.bare {d : PyData} (h : Thing d) : bare d = true := by
  rcases h with h | h | h | h | h | h | h | h <;> (rw [h]; simp [Lw.bare])
theorem p10 {H : Hp} {n : Nat} {x0 v2 v3 v4 v5 v6 v7 v8 v9 v10 v11 v12 v13 v14 v15 v16 : Option V} (st : StreamAt H a b (n + 1)) (tb : LamX.Tabs T H)
    (k : ∀ tv d H', Thing d → Rp (fun _ => True) H' tv d → StreamAt H' a b n → LamX.Tabs T H' → D.nx [x0, some (.ref a), v2, v3, v4, v5, v6, v7, v8, v9, v10, v11, v12, some tv, v14, v15, v16] H') :
    b10 K T CN CU D [x0, some (.ref a), v2, v3, v4, v5, v6, v7, v8, v9, v10, v11, v12, v13, v14, v15, v16] H := by
  unfold b10
  walk_at "rr"
  refine ⟨show 0 ≤ sizeLine by decide, fun q1 H1 n1 => ?_⟩
  walk_at "rr"
  refine ⟨show 1 ≤ sizeLine by decide, fun q2 H2 n2 => ?_⟩
  walk_at "rr"
  refine ⟨show 1 ≤ sizeLine by decide, fun q3 H3 n3 => ?_⟩
  walk_at "rr"
  intro q4 hq4
  have n4 := new_upd (o := HO.dK []) hq4
  generalize upd H3 q4 _ = H4 at n4 ⊢
  walk_at "rr"
  refine ⟨1, rfl, ?_⟩
  walk_at "rr"
  refine ⟨show 8 ≤ sizeLine by decide, fun q5 H5 n5 => ?_⟩
  walk_at "rr"
  have s15 : Same H1 H5 := Same.trans n2.same (Same.trans n3.same (Same.trans n4.same n5.same))
  have s25 : Same H2 H5 := Same.trans n3.same (Same.trans n4.same n5.same)
  have s35 : Same H3 H5 := Same.trans n4.same n5.same
  have s05 : Same H H5 := Same.trans n1.same s15
  have st5 := st.at s05
  have fr : ∀ {q : Addr} {Hq : Hp}, Same H Hq → Hq q = none → ¬ Two a b q := fun s h => st.two (fresh_up s h)
  refine ⟨a, b, q5, n, _, rfl, st5, n5.now, fr (Same.trans n1.same (Same.trans n2.same (Same.trans n3.same n4.same))) n5.was, show 0 < 8 by decide, show 8 < 1000000 by decide, fun v hv H6 kp6 st6 => ?_⟩
  have tb6 := tabs_nl (tabs_nl tb (nl_same s05)) (nl_stream st5 kp6)
  walk_at "rr"
  have h1 := kp6 _ _ (fr (Same.refl H) n1.was) (s15 _ _ n1.now)
  have h2 := kp6 _ _ (fr n1.same n2.was) (s25 _ _ n2.now)
  have h3 := kp6 _ _ (fr (Same.trans n1.same n2.same) n3.was) (s35 _ _ n3.now)
  have h4 := kp6 _ _ (fr (Same.trans n1.same (Same.trans n2.same n3.same)) n4.was) (n5.same _ _ n4.now)
  simp only [List.mem_cons, List.not_mem_nil, or_false] at hv
  rcases hv with e | e | e | e | e | e | e | e
  · subst e; exact k _ .none H6 (by unfold Thing; simp) .non st6 tb6
  · subst e; exact k _ (.int 5) H6 (by unfold Thing; simp) (.int 5) st6 tb6
  · subst e; exact k _ (.bool true) H6 (by unfold Thing; simp) (.bl true) st6 tb6
  · subst e; exact k _ (.list []) H6 (by unfold Thing; simp) (.lst h1 trivial (show 0 ≤ sizeLine by decide) .nil) st6 tb6
  · subst e; exact k _ (.list [.str (Str.ofString "letters a")]) H6 (by unfold Thing; simp) (.lst h2 trivial (show 1 ≤ sizeLine by decide) (.cons (.str _) .nil)) st6 tb6
  · subst e; exact k _ (.tuple [.str (Str.ofString "a")]) H6 (by unfold Thing; simp) (.tup h3 (show 1 ≤ sizeLine by decide) (.cons (.str _) .nil)) st6 tb6
  · subst e; exact k _ (.dict []) H6 (by unfold Thing; simp) (.dct h4 trivial (show 0 ≤ sizeLine by decide) .nil .nil) st6 tb6
  · subst e; exact k _ (.int (-1)) H6 (by unfold Thing; simp) (.int (-1)) st6 tb6
theorem lam_mine {σ : L2.St} {H : Hp} {Q : VK} {mv : V} {d : PyData} {P : Addr → Prop} (h14 : σ[14]? = some (some mv)) (hd : Rp P H mv d) (hs : ∀ z, d ≠ .str z) (tb : LamX.Tabs T H) (k : ∀ p H', LamX.ExtN H H' → LamX.Tabs T H' → H' p = some (.tup [.str (Str.ofString "text"), mv]) → Q (.ref p) H') :
    LamX.tLam T (TMet CN CU) (fun E => tCallS (spTokens CN CU) (fun σ => WE (fun cls d x H => E cls d H) σ) (tCons (tVar 14) tNil)) σ H Q := by
  refine r_lam tb fun H1 e1 tb1 => ?_
  refine r_callS (r_cons (r_var h14 (r_nil ?_)))
  exact ⟨mv, rfl, .inl ⟨P, d, hd.en e1, hs, fun dx H' s _ hdx => .inl ⟨rfl, dx, mv, rfl, hdx, fun p H2 n => k p H2 (e1.trans (en_same (Same.trans s n.same))) (tabs_nl tb1 (nl_same (Same.trans s n.same))) n.now⟩⟩⟩
theorem lam_mineK {σ : L2.St} {H : Hp} {Q : VK} {mv : V} {d : PyData} {P : Addr → Prop} (h14 : σ[14]? = some (some mv)) (hd : Rp P H mv d) (hs : ∀ z, d ≠ .str z) (tb : LamX.Tabs T H) (k : ∀ p H', LamX.ExtN H H' → LamX.Tabs T H' → H' p = some (.tup [.str (Str.ofString "text"), mv]) → Q (.ref p) H') :
    LamX.tLam T (TMet CN CU) (fun E => tCallK0 (spTokens CN CU) (fun vs zs => vs ++ zs) (fun σ => WE (fun cls d x H => E cls d H) σ) (tCons (tVar 14) tNil)) σ H Q := by
  refine r_lam tb fun H1 e1 tb1 => ?_
  refine r_callK0 (r_cons (r_var h14 (r_nil ?_)))
  exact ⟨mv, rfl, .inl ⟨P, d, hd.en e1, hs, fun dx H' s _ hdx => .inl ⟨rfl, dx, mv, rfl, hdx, fun p H2 n => k p H2 (e1.trans (en_same (Same.trans s n.same))) (tabs_nl tb1 (nl_same (Same.trans s n.same))) n.now⟩⟩⟩
theorem p11 {H : Hp} {n : Nat} {tv : V} {d : PyData} {u : TS} {x0 x1 v2 v3 v4 v5 v6 v7 v8 v9 v10 v11 v12 v14 v15 v16 : Option V} (ht : Thing d) (hd : Rp (fun _ => True) H tv d) (st : StreamAt H a b n) (tb : LamX.Tabs T H)
    (k : ∀ mv fl p1 p2 H', Rp (fun c => ¬ Two a b c ∧ c ≠ fl) H' mv d → StreamAt H' a b n → LamX.Tabs T H' → H' fl = some (.lst [.ref p1, .ref p2]) → H' p1 = some (.tup [.str (Str.ofString "text"), mv]) → H' p2 = some (.tup [.str (Str.ofString "text"), mv]) → ¬ Two a b fl →
      u D [x0, x1, v2, v3, v4, v5, v6, v7, v8, v9, v10, v11, v12, some tv, some mv, some (.ref fl), v16] H') :
    tSeq (b11 K T CN CU) (tSeq (b12 K T CN CU) (tSeq (b13 K T CN CU) u)) D [x0, x1, v2, v3, v4, v5, v6, v7, v8, v9, v10, v11, v12, some tv, v14, v15, v16] H := by
  unfold b11 b12 b13
  walk_at "rr"
  refine ⟨_, tv, d, rfl, hd, ht.hgt, ht.bare, fun mv H1 s1 r1 => ?_⟩
  have st1 := st.at s1
  walk_at "rr"
  refine lam_mine rfl r1 ht.nstr (tabs_nl tb (nl_same s1)) fun p1 H2 e2 tb2 hp1 => ?_
  walk_at "rr"
  refine ⟨show 1 ≤ sizeLine by decide, fun fl H3 n3 => ?_⟩
  have r3 : Rp (fun c => ¬ Two a b c ∧ c ≠ fl) H3 mv d := ((rp_isP (r1.en e2)).same n3.same).mono (fun c o h _ => h) (fun c i => ⟨st.two i.1, fun e => by
    have i2 := i.2
    rw [e] at i2
    exact i2.ne n3.was⟩)
  walk_at "rr"
  refine r_tyL (SqL.of n3.now) ?_
  walk_at "rr"
  refine lam_mineK rfl r3 ht.nstr (tabs_nl tb2 (nl_same n3.same)) fun p2 H4 e4 tb4 hp2 => ?_
  walk_at "rr"
  have hfl := en_lst e4 n3.now
  refine r_app hfl (show 1 < sizeLine by decide) fun H5 w5 => ?_
  walk_at "rr"
  have st4 := ((st1.en e2).at n3.same).en e4
  have nfl : ¬ Two a b fl := (st1.en e2).two n3.was
  have np : ∀ {p : Addr} {xs : List V}, H4 p = some (.tup xs) → H5 p = some (.tup xs) := fun {p xs} h => by
    rw [w5.off p fun e => ?_]
    · exact h
    · rw [e, hfl] at h
      cases h
  refine k mv fl p1 p2 H5 ((r3.en e4).mono (fix_off hfl w5 fun c i => i.2) fun c i => i) (st4.kn (S := (· = fl)) (Kp.kn (w5.kp rfl)) (fun e => nfl (.inl e.symm)) (fun e => nfl (.inr e.symm))) (tabs_nl tb4 (nl_wr hfl w5)) w5.now (np (en_tup e4 (n3.same _ _ hp1))) (np hp2) nfl
/-- if isinstance(mine, list): mine.append('late') -/
theorem p14 {H : Hp} {n : Nat} {mv : V} {d : PyData} {fl p1 p2 : Addr} {x0 x1 v2 v3 v4 v5 v6 v7 v8 v9 v10 v11 v12 v13 v16 : Option V} (ht : Thing d) (hd : Rp (fun c => ¬ Two a b c ∧ c ≠ fl) H mv d) (st : StreamAt H a b n) (tb : LamX.Tabs T H)
    (hfl : H fl = some (.lst [.ref p1, .ref p2])) (h1 : H p1 = some (.tup [.str (Str.ofString "text"), mv])) (h2 : H p2 = some (.tup [.str (Str.ofString "text"), mv]))
    (k : ∀ e H', Rp (fun _ => True) H' mv e → hgt e < 8 → StreamAt H' a b n → LamX.Tabs T H' → H' fl = some (.lst [.ref p1, .ref p2]) → H' p1 = some (.tup [.str (Str.ofString "text"), mv]) → H' p2 = some (.tup [.str (Str.ofString "text"), mv]) →
      D.nx [x0, x1, v2, v3, v4, v5, v6, v7, v8, v9, v10, v11, v12, v13, some mv, some (.ref fl), v16] H') :
    b14 K T CN CU D [x0, x1, v2, v3, v4, v5, v6, v7, v8, v9, v10, v11, v12, v13, some mv, some (.ref fl), v16] H := by
  unfold b14
  walk_at "rr"
  have no : kitB (tyN d) "list" = some false → rIsi K [mv, .ty "list"] H fun x H1 => ∃ k_1, x = V.bl k_1 ∧
      if k_1 = true then tDrop (tBM K "list" rAppend (tVar 14) (tCons (tC (V.str (Str.ofString "late"))) tNil)) D [x0, x1, v2, v3, v4, v5, v6, v7, v8, v9, v10, v11, v12, v13, some mv, some (.ref fl), v16] H1
      else tNext D [x0, x1, v2, v3, v4, v5, v6, v7, v8, v9, v10, v11, v12, v13, some mv, some (.ref fl), v16] H1 := fun e => by
    refine isi_no hd e ?_
    walk_at "rr"
    exact k d H hd.all ht.hgt st tb hfl h1 h2
  have yes : ∀ (m : Addr) (xs : List V) (ds : List PyData), mv = .ref m → H m = some (.lst xs) → xs.length ≤ 1 → ¬ Two a b m → m ≠ fl → (∀ H', RpAll (fun _ => True) H' xs ds) → hgtAll ds = 0 → rIsi K [mv, .ty "list"] H fun x H1 => ∃ k_1, x = V.bl k_1 ∧
      if k_1 = true then tDrop (tBM K "list" rAppend (tVar 14) (tCons (tC (V.str (Str.ofString "late"))) tNil)) D [x0, x1, v2, v3, v4, v5, v6, v7, v8, v9, v10, v11, v12, v13, some mv, some (.ref fl), v16] H1
      else tNext D [x0, x1, v2, v3, v4, v5, v6, v7, v8, v9, v10, v11, v12, v13, some mv, some (.ref fl), v16] H1 := fun m xs ds e hm hx nt nf ra hg => by
    subst e
    have hSz : 1 < sizeLine := by decide
    refine isi_lyes hm ?_
    walk_at "rr"
    refine r_tyL (SqL.of hm) ?_
    walk_at "rr"
    refine r_app hm (by omega) fun H1 w1 => ?_
    have np : ∀ {p : Addr} {xs : List V}, H p = some (.tup xs) → H1 p = some (.tup xs) := fun {p xs} h => by
      rw [w1.off p fun e => ?_]
      · exact h
      · rw [e, hm] at h
        cases h
    refine k (.list (ds ++ [.str (Str.ofString "late")])) H1 (.lst w1.now trivial (by rw [List.length_append]; simp only [List.length_cons, List.length_nil]; omega) (RpAll.snoc (ra H1) (.str _))) ?_ (st.kn (S := (· = m)) (Kp.kn (w1.kp rfl)) (fun e => nt (.inl e.symm)) (fun e => nt (.inr e.symm))) (tabs_nl tb (nl_wr hm w1)) ((w1.off fl (Ne.symm nf)).trans hfl) (np h1) (np h2)
    have happ : ∀ l : List PyData, hgtAll l = 0 → hgtAll (l ++ [.str (Str.ofString "late")]) = 0 := by
      intro l
      induction l with
      | nil => intro _; rfl
      | cons z r ih =>
        intro h
        have h' : max (hgt z) (hgtAll r) = 0 := h
        show max (hgt z) (hgtAll (r ++ [.str (Str.ofString "late")])) = 0
        rw [ih (by omega)]
        omega
    show hgtAll _ + 1 < 8
    rw [happ ds hg]
    decide
  rcases ht with h | h | h | h | h | h | h | h
  · exact no (by rw [h]; decide +kernel)
  · exact no (by rw [h]; decide +kernel)
  · exact no (by rw [h]; decide +kernel)
  · rw [h] at hd
    cases hd with
    | lst hm pm lm ra =>
      cases ra
      exact yes _ [] [] rfl hm (by decide) pm.1 pm.2 (fun _ => .nil) rfl
  · rw [h] at hd
    cases hd with
    | lst hm pm lm ra =>
      cases ra with
      | cons r1 r2 =>
        cases r2
        cases r1
        exact yes _ _ [.str (Str.ofString "letters a")] rfl hm (by simp) pm.1 pm.2 (fun _ => .cons (.str _) .nil) rfl
  · exact no (by rw [h]; decide +kernel)
  · exact no (by rw [h]; decide +kernel)
  · exact no (by rw [h]; decide +kernel)
theorem p15 {H : Hp} {n : Nat} {mv : V} {e : PyData} {fl p1 p2 : Addr} {x0 x1 v2 v3 v4 v5 v6 v7 v8 v9 v10 v11 v12 v13 v16 : Option V} (hd : Rp (fun _ => True) H mv e) (he : hgt e < 8) (st : StreamAt H a b n) (tb : LamX.Tabs T H)
    (hfl : H fl = some (.lst [.ref p1, .ref p2])) (h1 : H p1 = some (.tup [.str (Str.ofString "text"), mv])) (h2 : H p2 = some (.tup [.str (Str.ofString "text"), mv]))
    (k : ∀ H', StreamAt H' a b n → LamX.Tabs T H' → D.nx [x0, x1, v2, v3, v4, v5, v6, v7, v8, v9, v10, v11, v12, v13, some mv, some (.ref fl), v16] H') :
    b15 K T CN CU D [x0, x1, v2, v3, v4, v5, v6, v7, v8, v9, v10, v11, v12, v13, some mv, some (.ref fl), v16] H := by
  unfold b15
  walk_at "rr"
  refine ⟨show 2 ≤ sizeLine by decide, fun t H1 n1 => ?_⟩
  walk_at "rr"
  refine ⟨show 1 ≤ sizeLine by decide, fun l H2 n2 => ?_⟩
  walk_at "rr"
  refine ⟨l, 2, _, rfl, rfl, n2.now, by decide, by decide, show 1 * 2 ≤ sizeLine by decide, fun l2 hl2 => ?_⟩
  have n3 := new_upd (o := HO.lst (List.replicate (2 : Int).toNat [V.ref t]).flatten) hl2
  generalize upd H2 l2 _ = H3 at n3 ⊢
  walk_at "rr"
  have s3 : Same H H3 := Same.trans n1.same (Same.trans n2.same n3.same)
  have d3 := hd.same s3
  have tt : ∀ {p : Addr}, H3 p = some (.tup [.str (Str.ofString "text"), mv]) → Rp (fun _ => True) H3 (.ref p) (.tuple [.str (Str.ofString "text"), e]) := fun h => .tup h (show 2 ≤ sizeLine by decide) (.cons (.str _) (.cons d3 .nil))
  have ht := n3.same _ _ (n2.same _ _ n1.now)
  refine ⟨fun _ => True, fun _ => True, .ref fl, .ref l2, .list [.tuple [.str (Str.ofString "text"), e], .tuple [.str (Str.ofString "text"), e]], rfl, .lst (s3 _ _ hfl) trivial (show 2 ≤ sizeLine by decide) (.cons (tt (s3 _ _ h1)) (.cons (tt (s3 _ _ h2)) .nil)), .lst n3.now trivial (show 2 ≤ sizeLine by decide) (.cons (tt ht) (.cons (tt ht) .nil)), ?_, fun H4 s4 => ?_⟩
  · show max (max 0 (max (hgt e) 0) + 1) (max (max 0 (max (hgt e) 0) + 1) 0) + 1 < 12
    omega
  walk_at "rr"
  exact k H4 (st.at (Same.trans s3 s4)) (tabs_nl tb (nl_same (Same.trans s3 s4)))
end
end K24
end
section
set_option maxHeartbeats 4000000
/-! Lw14: the law. -/
/-- one step of a reading that needs no choice; all of them -/
local macro_rules | `(tactic| walk_at "r") => `(tactic| (first
  | (with_reducible refine Lw.r_seq ?_) | (with_reducible refine Lw.r_asg ?_) | (with_reducible refine Lw.r_ret ?_) | (with_reducible refine Lw.r_retN ?_) | (with_reducible refine Lw.r_drop ?_)
  | (with_reducible refine Lw.r_name ?_) | (with_reducible refine Lw.r_gsub ?_) | (with_reducible refine Lw.r_gcons ?_) | (with_reducible refine Lw.r_gnil ?_)
  | (with_reducible refine Lw.r_next ?_) | (with_reducible refine Lw.r_cont ?_) | (with_reducible refine Lw.r_brk ?_) | (with_reducible refine Lw.r_ifS ?_) | (with_reducible refine Lw.r_par ?_) | (with_reducible refine Lw.r_two ?_) | (with_reducible refine Lw.r_par3 ?_) | (with_reducible refine Lw.r_three ?_)
  | (with_reducible refine Lw.r_var (by with_unfolding_all rfl) ?_) | (with_reducible refine Lw.r_c ?_) | (with_reducible refine Lw.r_op ?_) | (with_reducible refine Lw.r_un ?_)
  | (with_reducible refine Lw.r_I0 ?_) | (with_reducible refine Lw.r_test ?_) | (with_reducible refine Lw.r_tB ?_) | (with_reducible refine Lw.r_bl ?_)
  | (with_reducible refine Lw.r_tand ?_) | (with_reducible refine Lw.r_tor ?_) | (with_reducible refine Lw.r_tnot ?_) | (with_reducible refine Lw.r_andV ?_) | (with_reducible refine Lw.r_orV ?_) | (with_reducible refine Lw.r_notV ?_) | (with_reducible refine Lw.r_tif ?_)
  | (with_reducible refine Lw.r_cb ?_) | (with_reducible refine Lw.r_cons ?_) | (with_reducible refine Lw.r_nil ?_) | (with_reducible refine Lw.r_call ?_) | (with_reducible refine Lw.r_lc ?_) | (with_reducible refine Lw.r_tyes ?_) | (with_reducible refine Lw.r_sl ?_) | (with_reducible refine Lw.r_part ?_) | (with_reducible refine Lw.r_nopart ?_) | (with_reducible refine Lw.r_inS ?_) | ((with_reducible refine Lw.r_lenS (by assumption) ?_); (try rw [SX.S_len])) | (with_reducible refine Lw.r_eqSS ?_) | (with_reducible refine Lw.r_neSS ?_) | (with_reducible refine Lw.r_for ?_) | (with_reducible refine Lw.r_iList ?_) | (with_reducible refine Lw.r_iTup ?_) | (with_reducible refine Lw.r_iKeys ?_) | (with_reducible refine Lw.r_iRng1 ?_) | (with_reducible refine Lw.r_iRng2 ?_) | (with_reducible refine Lw.r_callS ?_) | (with_reducible refine Lw.r_iStr ?_) | (with_reducible refine Lw.r_iEnumS ?_) | (with_reducible refine Lw.r_zipA ?_) | (with_reducible refine Lw.r_liIt ?_) | (with_reducible refine Lw.r_lst ?_) | (with_reducible refine Lw.r_tup ?_)
  | (with_reducible refine Lw.r_bm ?_) | (with_reducible refine Lw.r_bm0 ?_) | (with_reducible refine Lw.r_tyS ?_)
  | (with_reducible refine Lw.r_ixL (L2.SqL.of (by assumption)) (by with_unfolding_all rfl) ?_) | (with_reducible refine Lw.r_ixT (L2.SqT.of (by assumption)) (by with_unfolding_all rfl) ?_)
  | (with_reducible refine Lw.r_eqI ?_) | (with_reducible refine Lw.r_neI ?_) | (with_reducible refine Lw.r_eqS ?_) | (with_reducible refine Lw.r_neS ?_) | (with_reducible refine Lw.r_eqB ?_) | (with_reducible refine Lw.r_neB ?_)
  | (with_reducible refine ⟨_, fun _ _ h => h, ?_⟩) | (with_reducible refine ⟨_, rfl, ?_⟩) | (with_reducible refine Or.inl ⟨_, rfl, ?_⟩)
  | (with_reducible refine Lw.r_ifnf ?_) | (with_reducible refine Lw.r_ifnt ?_) | (with_reducible refine L2.iteT ?_) | (with_reducible refine L2.iteF ?_)))
local macro_rules | `(tactic| walk_at "rr") => `(tactic| ((try dsimp only []); (repeat (walk_at "r"; (try dsimp only [])))))
namespace K24
open PySem PySem.Spec PyProof.Rows L2 Lw SX
section
variable {K : PySem.W.Frag} {T : List (Addr × Str)} {CN CU a b : Addr} {D : Ends}
theorem stream_is {H : Hp} {n : Nat} (st : StreamAt H a b n) : Is H a ∧ Is H b := by
  obtain ⟨cs, c, t, s, h1, h2, h3, _⟩ := st
  exact ⟨is_lst h2, is_lst h3⟩
theorem rd_turn {H : Hp} {n : Nat} {x0 v2 v3 v4 v5 v6 v7 v8 v9 v10 v11 v12 v13 v14 v15 v16 : Option V} (st : StreamAt H a b (n + 102)) (tb : LamX.Tabs T H)
    (k : ∀ v2 v3 v4 v5 v6 v7 v8 v9 v10 v11 v12 v13 v14 v15 v16 H', StreamAt H' a b n → LamX.Tabs T H' → D.nx [x0, some (.ref a), v2, v3, v4, v5, v6, v7, v8, v9, v10, v11, v12, v13, v14, v15, v16] H') :
    t_turn K T CN CU D [x0, some (.ref a), v2, v3, v4, v5, v6, v7, v8, v9, v10, v11, v12, v13, v14, v15, v16] H := by
  unfold t_turn
  refine r_seq (p1 (K := K) (T := T) (CN := CN) (CU := CU) (n := n + 1) st tb fun rows dl H1 r1 r5 hok hdl st1 tb1 => ?_)
  refine r_seq (p2 (K := K) (T := T) (CN := CN) (CU := CU) r1 r5 hok hdl fun ls ml ms H2 hls hml pm s2 => ?_)
  have hll : ls.length ≤ 5 := by rw [← Paired.len hls]; exact r5
  refine r_seq (p3 (K := K) (T := T) (CN := CN) (CU := CU) hll hml pm fun bl bs H3 hbl pb s3 => ?_)
  refine r_seq (p4 (K := K) (T := T) (CN := CN) (CU := CU) hll (s3 _ _ hml) (Paired.imp (fun v q m => m.same s3) pm) hbl pb fun dv H4 s4 hd4 => ?_)
  have s14 : Same H1 H4 := Same.trans s2 (Same.trans s3 s4)
  have st4 := st1.at s14
  have tb4 := tabs_nl tb1 (nl_same s14)
  have ok : TxOk (TL.joinL [10] rows) ls := ⟨by have := joinL_len hok; omega, rows, spl_join (by intro e; rw [e] at r1; simp at r1) (fun p hp => (hok p hp).2), fun r hr => by have := (hok r hr).1; omega, hls⟩
  refine p567 (K := K) (T := T) (CN := CN) (CU := CU) ok tb4 hd4 fun fl w1 w2 H5 e5 tb5 hfl mf => ?_
  obtain ⟨ia, ib⟩ := stream_is st4
  refine r_seq (p8 (K := K) (T := T) (CN := CN) (CU := CU) (n := n + 1) hls tb5 (en_lst e5 (s4 _ _ hbl)) (Paired.imp (fun v q m => ?_) pb) hfl mf (st4.en e5) ia ib ((rp_is hd4).en e5) fun H6 tb6 st6 hd6 => ?_)
  · obtain ⟨t, e, h⟩ := m
    exact ⟨t, e, en_tup e5 (s4 _ _ h)⟩
  refine r_seq (p9 (K := K) (T := T) (CN := CN) (CU := CU) ok tb6 st6 hd6 fun H7 tb7 st7 => ?_)
  refine r_seq (p10 (K := K) (T := T) (CN := CN) (CU := CU) st7 tb7 fun tv d H8 ht hd8 st8 tb8 => ?_)
  refine p11 (K := K) (T := T) (CN := CN) (CU := CU) ht hd8 st8 tb8 fun mv fl2 q1 q2 H9 hd9 st9 tb9 hfl9 h1 h2 _ => ?_
  refine r_seq (p14 (K := K) (T := T) (CN := CN) (CU := CU) ht hd9 st9 tb9 hfl9 h1 h2 fun e H10 hd10 he st10 tb10 hfl10 h1 h2 => ?_)
  exact p15 (K := K) (T := T) (CN := CN) (CU := CU) hd10 he st10 tb10 hfl10 h1 h2 fun H11 st11 tb11 => k _ _ _ _ _ _ _ _ _ _ _ _ _ _ _ H11 st11 tb11
/-! ### data, written out -/
def EvD (te : TE) (σ : L2.St) (d : PyData) : Prop := ∀ (H : Hp) (Q : VK), (∀ v H', Same H H' → Rp (fun c => H c = none) H' v d → Q v H') → te σ H Q
def EvsD (ts : TA) (σ : L2.St) (ds : List PyData) : Prop := ∀ (H : Hp) (Q : List V → Hp → Prop), (∀ vs H', Same H H' → RpAll (fun c => H c = none) H' vs ds → Q vs H') → ts σ H Q
section
variable {σ : L2.St} {te ta tc : TE} {ts : TA} {d : PyData} {ds es : List PyData}
theorem evs_nil : EvsD tNil σ [] := fun H Q k => k [] H (Same.refl H) .nil
theorem evs_cons (h : EvD te σ d) (r : EvsD ts σ ds) : EvsD (tCons te ts) σ (d :: ds) := fun H Q k => h H _ fun v H1 s1 r1 => r H1 _ fun vs H2 s2 r2 => k (v :: vs) H2 (Same.trans s1 s2) (.cons (r1.same s2) (r2.mono (fun c o h _ => h) fun c h => fresh_up s1 h))
theorem ev_str (z : Str) : EvD (tC (.str z)) σ (.str z) := fun H Q k => k _ H (Same.refl H) (.str z)
theorem ev_int (i : Int) : EvD (tC (.int i)) σ (.int i) := fun H Q k => k _ H (Same.refl H) (.int i)
theorem ev_lst (h : EvsD ts σ ds) (hl : ds.length ≤ sizeLine) : EvD (tLst ts) σ (.list ds) := fun H Q k => r_lst (h H _ fun vs H1 s1 r1 => ⟨by rw [r1.length]; exact hl, fun p H2 n2 => k _ H2 (Same.trans s1 n2.same) (.lst n2.now (fresh_up s1 n2.was) (by rw [r1.length]; exact hl) (r1.same n2.same))⟩)
theorem ev_tup (h : EvsD ts σ ds) (hl : ds.length ≤ sizeLine) : EvD (tTup ts) σ (.tuple ds) := fun H Q k => r_tup (h H _ fun vs H1 s1 r1 => ⟨by rw [r1.length]; exact hl, fun p H2 n2 => k _ H2 (Same.trans s1 n2.same) (.tup n2.now (by rw [r1.length]; exact hl) (r1.same n2.same))⟩)
theorem ev_cat (h : EvD ta σ (.list ds)) (g : EvD tc σ (.list es)) (hl : ds.length + es.length ≤ sizeLine) : EvD (tOp rCat ta tc) σ (.list (ds ++ es)) := fun H Q k => r_op (h H _ fun v H1 s1 r1 => g H1 _ fun w H2 s2 r2 => by
  have r12 := r1.same s2
  cases r12 with
  | @lst a xs _ ha pa la ra =>
  cases r2 with
  | @lst b ys _ hb pb lb rb =>
    refine ⟨a, b, xs, ys, rfl, rfl, ha, hb, by rw [ra.length, rb.length]; exact hl, fun p hp => ?_⟩
    have n3 := new_upd (o := HO.lst (xs ++ ys)) hp
    have s3 := Same.trans s1 s2
    exact k _ _ (Same.trans s3 n3.same) (.lst n3.now (fresh_up s3 hp) (by rw [List.length_append, ra.length, rb.length]; exact hl) (RpAll.app (ra.same n3.same) ((rb.same n3.same).mono (fun c o h _ => h) fun c h => fresh_up s1 h))))
theorem ev_mul {z : Str} {n : Int} (ok : MulOk z n) : EvD (tOp Lw.rMulS (tC (.str z)) (tC (.int n))) σ (.str (Txt.mul z n)) := fun H Q k => r_op (r_c (r_c ⟨z, n, rfl, rfl, ok, k _ H (Same.refl H) (.str _)⟩))
end
/-- the rows' tokens, computed -/
def lexRows : List (List Nat) → Option (List (List PyData))
  | [] => some []
  | r :: rs => match lexF (r.length + 1) 0 (bef 35 r), lexRows rs with
    | some (ds, none), some dss => some (ds :: dss)
    | _, _ => none
theorem lexRows_ok : ∀ {rows : List (List Nat)} {dss : List (List PyData)}, lexRows rows = some dss → Paired LexQ rows (dss.map fun ds => (ds, none))
  | [], _, h => by cases h; exact .nil
  | r :: rs, dss, h => by
    rw [lexRows] at h
    split at h
    · next ds dss' h1 h2 =>
      cases h
      exact .cons (lexF_ok h1) (lexRows_ok h2)
    · cases h
theorem ev_tok {E : L2.St → XK} {te : TE} {σ : L2.St} {z : Str} {dss : List (List PyData)} (hz : EvD te σ (.str z)) (hl : (z.cps.toList.length ≤ 100000 ∧ ((TL.spl [10] 0 [] z.cps.toList).all fun r => decide (r.length ≤ 640)) = true)) (h : lexRows (TL.spl [10] 0 [] z.cps.toList) = some dss) :
    EvD (tCallS (spTokens CN CU) E (tCons te tNil)) σ (.list (dss.map PyData.list)) := fun H Q k => r_callS (r_cons (hz H _ fun v H1 s1 r1 => r_nil (by
  cases r1
  refine ⟨_, rfl, .inr ⟨z.cps.toList, _, dss.map fun ds => (ds, none), by rw [S_tl], hl.1, rfl, fun r hr => of_decide_eq_true (List.all_eq_true.mp hl.2 r hr), lexRows_ok h, fun _ v ns H' s t nd fr => ?_, fun i ds p hi _ => ?_⟩⟩
  · refine k v H' (Same.trans s1 s) ?_
    rw [List.map_map] at t
    exact t.rp fun c hc => fresh_up s1 (fr c hc)
  · rw [List.getElem?_map] at hi
    cases e : dss[i]? with
    | none => rw [e] at hi; cases hi
    | some z => rw [e] at hi; cases hi)))
end
end K24
end
section
set_option maxHeartbeats 4000000
/-! Lw15: the law's end. -/
/-- one step of a reading that needs no choice; all of them -/
local macro_rules | `(tactic| walk_at "r") => `(tactic| (first
  | (with_reducible refine Lw.r_seq ?_) | (with_reducible refine Lw.r_asg ?_) | (with_reducible refine Lw.r_ret ?_) | (with_reducible refine Lw.r_retN ?_) | (with_reducible refine Lw.r_drop ?_)
  | (with_reducible refine Lw.r_name ?_) | (with_reducible refine Lw.r_gsub ?_) | (with_reducible refine Lw.r_gcons ?_) | (with_reducible refine Lw.r_gnil ?_)
  | (with_reducible refine Lw.r_next ?_) | (with_reducible refine Lw.r_cont ?_) | (with_reducible refine Lw.r_brk ?_) | (with_reducible refine Lw.r_ifS ?_) | (with_reducible refine Lw.r_par ?_) | (with_reducible refine Lw.r_two ?_) | (with_reducible refine Lw.r_par3 ?_) | (with_reducible refine Lw.r_three ?_)
  | (with_reducible refine Lw.r_var (by with_unfolding_all rfl) ?_) | (with_reducible refine Lw.r_c ?_) | (with_reducible refine Lw.r_op ?_) | (with_reducible refine Lw.r_un ?_)
  | (with_reducible refine Lw.r_I0 ?_) | (with_reducible refine Lw.r_test ?_) | (with_reducible refine Lw.r_tB ?_) | (with_reducible refine Lw.r_bl ?_)
  | (with_reducible refine Lw.r_tand ?_) | (with_reducible refine Lw.r_tor ?_) | (with_reducible refine Lw.r_tnot ?_) | (with_reducible refine Lw.r_andV ?_) | (with_reducible refine Lw.r_orV ?_) | (with_reducible refine Lw.r_notV ?_) | (with_reducible refine Lw.r_tif ?_)
  | (with_reducible refine Lw.r_cb ?_) | (with_reducible refine Lw.r_cons ?_) | (with_reducible refine Lw.r_nil ?_) | (with_reducible refine Lw.r_call ?_) | (with_reducible refine Lw.r_lc ?_) | (with_reducible refine Lw.r_tyes ?_) | (with_reducible refine Lw.r_sl ?_) | (with_reducible refine Lw.r_part ?_) | (with_reducible refine Lw.r_nopart ?_) | (with_reducible refine Lw.r_inS ?_) | ((with_reducible refine Lw.r_lenS (by assumption) ?_); (try rw [SX.S_len])) | (with_reducible refine Lw.r_eqSS ?_) | (with_reducible refine Lw.r_neSS ?_) | (with_reducible refine Lw.r_for ?_) | (with_reducible refine Lw.r_iList ?_) | (with_reducible refine Lw.r_iTup ?_) | (with_reducible refine Lw.r_iKeys ?_) | (with_reducible refine Lw.r_iRng1 ?_) | (with_reducible refine Lw.r_iRng2 ?_) | (with_reducible refine Lw.r_callS ?_) | (with_reducible refine Lw.r_iStr ?_) | (with_reducible refine Lw.r_iEnumS ?_) | (with_reducible refine Lw.r_zipA ?_) | (with_reducible refine Lw.r_liIt ?_) | (with_reducible refine Lw.r_lst ?_) | (with_reducible refine Lw.r_tup ?_)
  | (with_reducible refine Lw.r_bm ?_) | (with_reducible refine Lw.r_bm0 ?_) | (with_reducible refine Lw.r_tyS ?_)
  | (with_reducible refine Lw.r_ixL (L2.SqL.of (by assumption)) (by with_unfolding_all rfl) ?_) | (with_reducible refine Lw.r_ixT (L2.SqT.of (by assumption)) (by with_unfolding_all rfl) ?_)
  | (with_reducible refine Lw.r_eqI ?_) | (with_reducible refine Lw.r_neI ?_) | (with_reducible refine Lw.r_eqS ?_) | (with_reducible refine Lw.r_neS ?_) | (with_reducible refine Lw.r_eqB ?_) | (with_reducible refine Lw.r_neB ?_)
  | (with_reducible refine ⟨_, fun _ _ h => h, ?_⟩) | (with_reducible refine ⟨_, rfl, ?_⟩) | (with_reducible refine Or.inl ⟨_, rfl, ?_⟩)
  | (with_reducible refine Lw.r_ifnf ?_) | (with_reducible refine Lw.r_ifnt ?_) | (with_reducible refine L2.iteT ?_) | (with_reducible refine L2.iteF ?_)))
local macro_rules | `(tactic| walk_at "rr") => `(tactic| ((try dsimp only []); (repeat (walk_at "r"; (try dsimp only [])))))
namespace K24
open PySem PySem.Spec PyProof.Rows L2 Lw SX
section
variable {K : PySem.W.Frag} {T : List (Addr × Str)} {CN CU a b : Addr} {D : Ends}
abbrev tk (x : String) (v : PyData) (p : Int) : PyData := .tuple [.str (Str.ofString x), v, .int p]
abbrev ts (z : String) : PyData := .str (Str.ofString z)
def E1 : List (List PyData) := [[]]
def E2 : List (List PyData) := [[tk "word" (ts "let") 0, tk "quote" (ts "be") 4, tk "word" (ts "be") 8, tk "word" (ts "a") 11], []]
def E3 : List (List PyData) := [[], [], []]
def signs (n : Nat) : List PyData := (List.range n).map fun (j : Nat) => tk "sign" (ts "(") (150 + (j : Int))
def E4 : List (List PyData) := [[tk "word" (.str (Txt.mul (Str.ofString "a") 150)) 0] ++ signs 50]
def E5 : List (List PyData) := [[tk "number" (.int 1) 0, tk "sign" (ts ",") 2, tk "number" (.int 2) 3]]
def E6 : List (List PyData) := [[tk "word" (ts "can") 0, tk "word" (ts "ann") 4, tk "sign" (ts ":") 7, tk "word" (ts "b") 8]]
abbrev dl (e : List (List PyData)) : PyData := .list (e.map PyData.list)
theorem mul_a : MulOk (Str.ofString "a") 150 := by
  refine ⟨by decide +kernel, fun _ _ => by decide +kernel, fun _ _ => by decide +kernel⟩
theorem mul_p : MulOk (Str.ofString "(") 50 := by
  refine ⟨by decide +kernel, fun _ _ => by decide +kernel, fun _ _ => by decide +kernel⟩
theorem ev_signs {x0 x1 v2 v3 v4 v5 v6 v7 v8 v9 v10 v11 v12 v13 v14 v15 v16 : Option V} : EvD (tLc (iRng1 (tCons (tC (V.int 50)) tNil)) (gName 16) tYes (tTup (tCons (tC (V.str (Str.ofString "sign"))) (tCons (tC (V.str (Str.ofString "("))) (tCons (tOp (rI0 fun i j => V.int (i + j)) (tC (V.int 150)) (tVar 16)) tNil)))) (List.map (fun x => x.snd) [(Str.ofString "at", 16)]))
    [x0, x1, v2, v3, v4, v5, v6, v7, v8, v9, v10, v11, v12, v13, v14, v15, v16] (.list (signs 50)) := fun H Q k => by
  walk_at "rr"
  refine ⟨by decide, by decide, ?_⟩
  refine lc_in walk_range (fun D i acc H' => Same H H' ∧ RpAll (fun c => H c = none ∧ c ≠ D) H' acc (signs i)) (fun D H1 n1 => ⟨n1.same, .nil⟩) (fun _ _ _ _ _ _ _ => trivial) (fun D i acc x H1 H2 hD hi hal hDl p y => ?_) (fun D acc H1 hD hl hDl p => ?_)
  · obtain ⟨rfl, rfl⟩ := y
    walk_at "rr"
    refine r_wipe (by with_unfolding_all rfl) ?_
    walk_at "rr"
    refine ⟨show 3 ≤ sizeLine by decide, fun t H3 n3 => ?_⟩
    have hSz : 100 < sizeLine := by decide
    have hi50 : i < 50 := hi
    refine lc_add (n3.same _ _ hDl) hal (by omega) fun H4 w4 => ⟨same_wr (Same.trans p.1 n3.same) w4 hD, ?_⟩
    have fx := fix_off (P := fun c => H c = none ∧ c ≠ D) (n3.same _ _ hDl) w4 (fun c h => h.2)
    unfold signs
    rw [List.range_succ, List.map_append]
    refine RpAll.snoc ((p.2.same n3.same).mono fx fun c h => h) ?_
    refine Rp.mono fx (fun c h => h) (.tup n3.now (show 3 ≤ sizeLine by decide) (.cons (.str _) (.cons (.str _) (.cons ?_ .nil))))
    have e : (0 : Int) + (i : Int) = (i : Int) := by omega
    rw [e]
    exact .int _
  · refine k (.ref D) H1 p.1 (.lst hDl hD ?_ (p.2.mono (fun c o h _ => h) fun c h => h.1))
    have h2 := p.2.length
    rw [h2]
    unfold signs
    rw [List.length_map, List.length_range]
    decide
end
section
variable {K : PySem.W.Frag} {T : List (Addr × Str)} {CN CU a b : Addr} {D : Ends}
theorem ev_c1 {σ : L2.St} {E : L2.St → XK} : EvsD (tCons (tCallS (spTokens CN CU) E (tCons (tC (V.str (Str.ofString ""))) tNil)) (tCons (tCallS (spTokens CN CU) E (tCons (tC (V.str (Str.ofString "let 'be be a# x\n"))) tNil)) (tCons (tCallS (spTokens CN CU) E (tCons (tC (V.str (Str.ofString "\n\n"))) tNil))
    (tCons (tCallS (spTokens CN CU) E (tCons (tOp (fun x y H Q => ∃ i j, x = V.str i ∧ y = V.str j ∧ i.length + j.length ≤ sizeLine ∧ Q (V.str (i ++ j)) H) (tOp Lw.rMulS (tC (V.str (Str.ofString "a"))) (tC (V.int 150))) (tOp Lw.rMulS (tC (V.str (Str.ofString "("))) (tC (V.int 50)))) tNil))
    (tCons (tCallS (spTokens CN CU) E (tCons (tC (V.str (Str.ofString "01,2"))) tNil)) (tCons (tCallS (spTokens CN CU) E (tCons (tC (V.str (Str.ofString "can ann:b"))) tNil)) tNil)))))) σ [dl E1, dl E2, dl E3, dl E4, dl E5, dl E6] := by
  refine evs_cons (ev_tok (ev_str _) (by decide +kernel) (by kernel_rfl)) (evs_cons (ev_tok (ev_str _) (by decide +kernel) (by kernel_rfl)) (evs_cons (ev_tok (ev_str _) (by decide +kernel) (by kernel_rfl)) (evs_cons (ev_tok (z := Txt.mul (Str.ofString "a") 150 ++ Txt.mul (Str.ofString "(") 50) ?_ (by decide +kernel) (by kernel_rfl)) (evs_cons (ev_tok (ev_str _) (by decide +kernel) (by kernel_rfl)) (evs_cons (ev_tok (ev_str _) (by decide +kernel) (by kernel_rfl)) evs_nil)))))
  exact fun H Q k => r_op (ev_mul mul_a H _ fun v H1 s1 r1 => ev_mul mul_p H1 _ fun w H2 s2 r2 => by
    cases r1
    cases r2
    exact ⟨_, _, rfl, rfl, by decide +kernel, k _ H2 (Same.trans s1 s2) (.str _)⟩)
end
local macro_rules | `(tactic| walk_at "ev") => `(tactic| (repeat' (first | exact evs_nil | exact ev_str _ | exact ev_int _ | refine evs_cons ?_ ?_ | refine ev_lst ?_ (by decide +kernel) | refine ev_tup ?_ (by decide +kernel))))
section
variable {K : PySem.W.Frag} {T : List (Addr × Str)} {CN CU a b : Addr} {D : Ends}
theorem due_data : [dl E1, dl E2, dl E3] ++ [dl E4] ++ [dl E5, dl E6] = [dl E1, dl E2, dl E3, dl E4, dl E5, dl E6] := rfl
theorem rd_tail {H : Hp} {x0 x1 v2 v3 v4 v5 v6 v7 v8 v9 v10 v11 v12 v13 v14 v15 v16 : Option V} (k : ∀ H', D.rt (.bl true) H') :
    t_tail K T CN CU D [x0, x1, v2, v3, v4, v5, v6, v7, v8, v9, v10, v11, v12, v13, v14, v15, v16] H := by
  unfold t_tail
  have hSz : 100 < sizeLine := by decide
  refine r_seq ?_
  unfold c1
  refine r_asg (ev_lst ev_c1 (show 6 ≤ sizeLine by decide) H _ fun sv H1 s1 r1 => r_name ?_)
  dsimp only []
  refine r_seq ?_
  unfold c2
  refine r_asg (r_lst ?_)
  have evs2 : ∀ σ, EvsD (tCons (tLst (tCons (tLst tNil) tNil)) (tCons (tLst (tCons (tLst (tCons (tTup (tCons (tC (V.str (Str.ofString "word"))) (tCons (tC (V.str (Str.ofString "let"))) (tCons (tC (V.int 0)) tNil)))) (tCons (tTup (tCons (tC (V.str (Str.ofString "quote"))) (tCons (tC (V.str (Str.ofString "be"))) (tCons (tC (V.int 4)) tNil)))) (tCons (tTup (tCons (tC (V.str (Str.ofString "word"))) (tCons (tC (V.str (Str.ofString "be"))) (tCons (tC (V.int 8)) tNil)))) (tCons (tTup (tCons (tC (V.str (Str.ofString "word"))) (tCons (tC (V.str (Str.ofString "a"))) (tCons (tC (V.int 11)) tNil)))) tNil))))) (tCons (tLst tNil) tNil))) (tCons (tLst (tCons (tLst tNil) (tCons (tLst tNil) (tCons (tLst tNil) tNil)))) tNil))) σ [dl E1, dl E2, dl E3] := by
    intro σ
    walk_at "ev"
  refine evs2 _ H1 _ fun vs H2 s2 r2 => ⟨by rw [r2.length]; exact (show 3 ≤ sizeLine by decide), fun d H3 n3 => r_name ?_⟩
  have r13 : Rp (fun _ => True) H3 sv (.list [dl E1, dl E2, dl E3, dl E4, dl E5, dl E6]) := ((r1.same s2).same n3.same).all
  have r1d : Rp (fun c => c ≠ d) H3 sv (.list [dl E1, dl E2, dl E3, dl E4, dl E5, dl E6]) := ((rp_is (r1.same s2)).same n3.same).mono (fun c o h _ => h) fun c i e => by
    rw [e] at i
    exact i.ne n3.was
  have r2d : RpAll (fun c => c ≠ d) H3 vs [dl E1, dl E2, dl E3] := ((rpAll_is r2).same n3.same).mono (fun c o h _ => h) fun c i e => by
    rw [e] at i
    exact i.ne n3.was
  have hd3 := n3.now
  have l2 : vs.length = 3 := r2.length
  clear r1 r2 r13 n3 s2 s1
  dsimp only []
  refine r_seq ?_
  unfold c3
  walk_at "rr"
  refine r_tyL (SqL.of hd3) ?_
  have ev4 : ∀ {x0 x1 v2 v3 v4 v5 v6 v7 v8 v9 v10 v11 v12 v13 v14 v15 v16 : Option V}, EvD (tLst (tCons (tOp rCat (tLst (tCons (tTup (tCons (tC (V.str (Str.ofString "word"))) (tCons (tOp Lw.rMulS (tC (V.str (Str.ofString "a"))) (tC (V.int 150))) (tCons (tC (V.int 0)) tNil)))) tNil)) (tLc (iRng1 (tCons (tC (V.int 50)) tNil)) (gName 16) tYes (tTup (tCons (tC (V.str (Str.ofString "sign"))) (tCons (tC (V.str (Str.ofString "("))) (tCons (tOp (rI0 fun i j => V.int (i + j)) (tC (V.int 150)) (tVar 16)) tNil)))) (List.map (fun x => x.snd) [(Str.ofString "at", 16)]))) tNil))
      [x0, x1, v2, v3, v4, v5, v6, v7, v8, v9, v10, v11, v12, v13, v14, v15, v16] (dl E4) := by
    intro x0 x1 v2 v3 v4 v5 v6 v7 v8 v9 v10 v11 v12 v13 v14 v15 v16
    exact ev_lst (evs_cons (ev_cat (ev_lst (evs_cons (ev_tup (evs_cons (ev_str _) (evs_cons (ev_mul mul_a) (evs_cons (ev_int _) evs_nil))) (show 3 ≤ sizeLine by decide)) evs_nil) (show 1 ≤ sizeLine by decide)) ev_signs (by decide +kernel)) evs_nil) (show 1 ≤ sizeLine by decide)
  refine r_cons (ev4 H3 _ fun v4' H4 s4 r4 => r_nil ?_)
  have hd4 := s4 _ _ hd3
  refine r_app hd4 (by omega) fun H5 w5 => ?_
  have fx5 := fix_off (P := fun c => c ≠ d) hd4 w5 fun c h => h
  have r5 : RpAll (fun c => c ≠ d) H5 (vs ++ [v4']) ([dl E1, dl E2, dl E3] ++ [dl E4]) := RpAll.snoc ((r2d.same s4).mono fx5 fun c h => h) (r4.mono (fun c o h _ => h) (fun c h e => by
    rw [e, hd3] at h
    cases h) |>.mono fx5 fun c h => h)
  have r15 := (r1d.same s4).mono fx5 fun c h => h
  have hd5 := w5.now
  clear r4 r2d r1d hd4 hd3 s4 w5 fx5
  (try dsimp only [])
  refine r_seq ?_
  unfold c4
  walk_at "rr"
  refine r_tyL (SqL.of hd5) ?_
  have ev6 : ∀ σ, EvD (tLst (tCons (tLst (tCons (tLst (tCons (tTup (tCons (tC (V.str (Str.ofString "number"))) (tCons (tC (V.int 1)) (tCons (tC (V.int 0)) tNil)))) (tCons (tTup (tCons (tC (V.str (Str.ofString "sign"))) (tCons (tC (V.str (Str.ofString ","))) (tCons (tC (V.int 2)) tNil)))) (tCons (tTup (tCons (tC (V.str (Str.ofString "number"))) (tCons (tC (V.int 2)) (tCons (tC (V.int 3)) tNil)))) tNil)))) tNil)) (tCons (tLst (tCons (tLst (tCons (tTup (tCons (tC (V.str (Str.ofString "word"))) (tCons (tC (V.str (Str.ofString "can"))) (tCons (tC (V.int 0)) tNil)))) (tCons (tTup (tCons (tC (V.str (Str.ofString "word"))) (tCons (tC (V.str (Str.ofString "ann"))) (tCons (tC (V.int 4)) tNil)))) (tCons (tTup (tCons (tC (V.str (Str.ofString "sign"))) (tCons (tC (V.str (Str.ofString ":"))) (tCons (tC (V.int 7)) tNil)))) (tCons (tTup (tCons (tC (V.str (Str.ofString "word"))) (tCons (tC (V.str (Str.ofString "b"))) (tCons (tC (V.int 8)) tNil)))) tNil))))) tNil)) tNil))) σ (.list [dl E5, dl E6]) := by
    intro σ
    walk_at "ev"
  refine r_cons (ev6 _ H5 _ fun v6' H6 s6 r6 => r_nil ?_)
  cases r6 with
  | @lst l6 zs _ h6 p6 l6' ra6 =>
    have hd6 := s6 _ _ hd5
    have lz := ra6.length
    refine ⟨d, l6, _, zs, rfl, rfl, hd6, h6, by rw [List.length_append, lz]; simp only [List.length_cons, List.length_nil]; omega, ?_⟩
    have w7 : Wr H6 d (.lst (vs ++ [v4'] ++ zs)) (upd H6 d (.lst (vs ++ [v4'] ++ zs))) := wr_upd
    generalize upd H6 d (.lst (vs ++ [v4'] ++ zs)) = H7 at w7 ⊢
    have fx7 := fix_off (P := fun c => c ≠ d) hd6 w7 fun c h => h
    have r7 := RpAll.app ((r5.same s6).mono fx7 fun c h => h) ((ra6.mono (fun c o h _ => h) (P' := fun c => c ≠ d) (fun c h e => by
      rw [e, hd5] at h
      cases h)).mono fx7 fun c h => h)
    have r17 := (r15.same s6).mono fx7 fun c h => h
    (try dsimp only [])
    unfold c5
    walk_at "rr"
    refine ⟨_, fun _ => True, sv, .ref d, .list [dl E1, dl E2, dl E3, dl E4, dl E5, dl E6], rfl, r17, .lst w7.now trivial (by rw [List.length_append, List.length_append, lz]; simp only [List.length_cons, List.length_nil]; omega) r7.all, by decide +kernel, fun H8 s8 => k H8⟩
/-- the law's promise -/
def spLaw (K : PySem.W.Frag) (T : List (Addr × Str)) : Sp := fun vs H Q _ => ∃ (s : Addr) (cs : List Int), vs = [.ref s] ∧ SqL K H s (cs.map V.int) ∧ cs.length ≤ sizeLine ∧ LamX.Tabs T H ∧ ∀ H', Q (.bl true) H'
theorem rd_law (vs : List V) (H : Hp) (Q : VK) (E : XK) (h : spLaw K T vs H Q E) : t_law K T CN CU { nx := fun _ H' => Q .non H', rt := Q } (start ["script", "stream", "turn", "drawn", "row", "text", "made", "bads", "line", "some", "bad", "due", "found", "thing", "mine", "met", "at"] vs) H := by
  obtain ⟨s, cs, rfl, hs, hl, tb, k⟩ := h
  unfold t_law
  walk_at "rr"
  refine ⟨s, cs, rfl, hs, hl, fun a b H1 s1 ha hb st1 => ?_⟩
  walk_at "rr"
  refine ⟨by decide, by decide, ?_⟩
  refine for_in walk_range (fun i σ H' => ∃ v2 v3 v4 v5 v6 v7 v8 v9 v10 v11 v12 v13 v14 v15 v16 : Option V, σ = [some (.ref s), some (.ref a), v2, v3, v4, v5, v6, v7, v8, v9, v10, v11, v12, v13, v14, v15, v16] ∧ StreamAt H' a b (1000000 - 102 * i) ∧ LamX.Tabs T H')
    ⟨_, _, _, _, _, _, _, _, _, _, _, _, _, _, _, rfl, st1, tabs_nl tb (nl_same s1)⟩ (fun _ _ _ _ _ => trivial) ?_ ?_
  · rintro i x σ H2 H3 hi ⟨v2, v3, v4, v5, v6, v7, v8, v9, v10, v11, v12, v13, v14, v15, v16, rfl, st, tb⟩ ⟨rfl, rfl⟩
    have hi9 : i < 9 := hi
    have e : 1000000 - 102 * i = (1000000 - 102 * (i + 1)) + 102 := by omega
    rw [e] at st
    refine r_name ?_
    exact rd_turn (K := K) (CN := CN) (CU := CU) st tb fun v2 v3 v4 v5 v6 v7 v8 v9 v10 v11 v12 v13 v14 v15 v16 H4 st4 tb4 => ⟨v2, v3, v4, v5, v6, v7, v8, v9, v10, v11, v12, v13, v14, v15, v16, rfl, st4, tb4⟩
  · rintro σ H2 ⟨v2, v3, v4, v5, v6, v7, v8, v9, v10, v11, v12, v13, v14, v15, v16, rfl, st, tb⟩
    exact rd_tail k
end
end K24
end
section
set_option maxHeartbeats 8000000
/-! Lw16: each def keeps its promise. -/
namespace K24
open PySem PySem.Spec PyProof.Rows L2 Lw SX
structure Txt (mg : Str → Option Value) : Prop where
  b_isinstance : mg "isinstance" = none
  b_list : mg "list" = none
  b_range : mg "range" = none
  b_enumerate : mg "enumerate" = none
  b_len : mg "len" = none
  b_int : mg "int" = none
  b_str : mg "str" = none
  b_abs : mg "abs" = none
  b_tuple : mg "tuple" = none
  b_dict : mg "dict" = none
  b_all : mg "all" = none
  b_zip : mg "zip" = none
  b_bool : mg "bool" = none
  c_LETTERS : ∃ t, mg "LETTERS" = some (.str "abcdefghijklmnopqrstuvwxyz" t)
  c_FIGURES : ∃ t, mg "FIGURES" = some (.str "0123456789" t)
  c_SIGNS : ∃ t, mg "SIGNS" = some (.str "(),:" t)
section
variable {P : Program} {w : World} {K : PySem.W.Frag} {mg : Str → Option Value} {base : Heap}
abbrev s_run_end : Stmt := top 10
theorem sc_run_end : FnScope ["row", "place", "signs"] ["row", "place", "signs"] (defScope s_run_end) := ⟨rfl, rfl, rfl, by decide +kernel, rfl, by decide +kernel, by decide +kernel⟩
theorem ok_run_end  {f : Addr} {fd : FuncData} (Tx : Txt mg) (F : FnP K "run_end" s_run_end f fd)   : FnOk P w K mg base C8.CX0 (1) f fd ["row", "place", "signs"] spRun := by
  refine F.ok sc_run_end (fun vs H Q E h => by obtain ⟨l, p, sg, rfl, _⟩ := h; rfl) (fun cdv A outer s H vs Q E hr h => ⟨t_run_end K, PSs.nox (?_), rd_run_end K vs H Q E h⟩)
  have hu64 := hr.units
  have hu := hu_of hr
  exact (pss_cons (ps_while PassesOwn.never (PW.pt (pw_and (pt_cmpR op_lt (pv 1) (pe_callB call_len_str (by rfl) (Tx.b_len) PySem.boot_len (pa_cons (pv 0) pa_nil)) (nomark _)) (pw_and1 (pt_cmpR op_in_sign (pe_ix ix_str (pv 0) (pv 1) (fun _ _ => rfl)) (pv 2) (by rfl)))))
  (pss_one (ps_set (i := 1) sc_run_end.nd rfl (Or.inl rfl) (pe_op op_add (pv 1) pe_int))))
(pss_one (ps_ret (pv 1))))
abbrev s_token_at : Stmt := top 11
theorem sc_token_at : FnScope ["row", "place", "end"] ["row", "place"] (defScope s_token_at) := ⟨rfl, rfl, rfl, by decide +kernel, rfl, by decide +kernel, by decide +kernel⟩
theorem ok_token_at  {f : Addr} {fd : FuncData} (Tx : Txt mg) (F : FnP K "token_at" s_token_at f fd) (C_run_end : C8.Cal P w K mg base 1 "run_end" spRun [])  : FnOk P w K mg base C8.CX0 (2) f fd ["row", "place"] spTok := by
  obtain ⟨tL, hL⟩ := Tx.c_LETTERS
  obtain ⟨tF, hF⟩ := Tx.c_FIGURES
  obtain ⟨tS, hS⟩ := Tx.c_SIGNS
  refine F.ok sc_token_at (fun vs H Q E h => by obtain ⟨l, p, rfl, _⟩ := h; rfl) (fun cdv A outer s H vs Q E hr h => ⟨t_token_at K spRun, PSs.nox (?_), rd_token_at K vs H Q E h⟩)
  have hu64 := hr.units
  have hu := hu_of hr
  exact (pss_cons (ps_set (i := 2) sc_token_at.nd rfl (Or.inl rfl) (C8.pe_c C_run_end hr (by decide) (by rfl) (pa_cons (pv 0) (pa_cons (pv 1) (pa_cons (pe_gstr (by rfl) hL) pa_nil)))))
(pss_cons (ps_if (pt_cmpR op_gt (pv 2) (pv 1) (nomark _))
  (pss_one (ps_ret (pe_tup (pa_cons (pe_tup (pa_cons pe_str (pa_cons (pe_slice sl_str (pv 0) (po_some (pv 1)) (po_some (pv 2))) (pa_cons (pv 1) pa_nil)))) (pa_cons (pv 2) pa_nil)))))
  pss_nil)
(pss_cons (ps_set (i := 2) sc_token_at.nd rfl (Or.inl rfl) (C8.pe_c C_run_end hr (by decide) (by rfl) (pa_cons (pv 0) (pa_cons (pv 1) (pa_cons (pe_gstr (by rfl) hF) pa_nil)))))
(pss_cons (ps_if (pt_cmpR op_gt (pv 2) (pv 1) (nomark _))
  (pss_one (ps_ret (pe_tup (pa_cons (pe_tup (pa_cons pe_str (pa_cons (pe_callTy call_int_str (by rfl) (Tx.b_int) (by decide +kernel) (pa_cons (pe_slice sl_str (pv 0) (po_some (pv 1)) (po_some (pv 2))) pa_nil)) (pa_cons (pv 1) pa_nil)))) (pa_cons (pv 2) pa_nil)))))
  pss_nil)
(pss_cons (ps_if (pt_cmpR op_in_sign (pe_ix ix_str (pv 0) (pv 1) (fun _ _ => rfl)) (pe_gstr (by rfl) hS) (by rfl))
  (pss_one (ps_ret (pe_tup (pa_cons (pe_tup (pa_cons pe_str (pa_cons (pe_ix ix_str (pv 0) (pv 1) (fun _ _ => rfl)) (pa_cons (pv 1) pa_nil)))) (pa_cons (pe_op op_add (pv 1) pe_int) pa_nil)))))
  pss_nil)
(pss_cons (ps_set (i := 2) sc_token_at.nd rfl (Or.inl rfl) (C8.pe_c C_run_end hr (by decide) (by rfl) (pa_cons (pv 0) (pa_cons (pe_op op_add (pv 1) pe_int) (pa_cons (pe_gstr (by rfl) hL) pa_nil)))))
(pss_one (ps_ret (pe_ifExp (PW.pt (pw_and (pt_cmpR op_eq (pe_ix ix_str (pv 0) (pv 1) (fun _ _ => rfl)) pe_str (nomark _)) (pw_and1 (pt_cmpR op_gt (pv 2) (pe_op op_add (pv 1) pe_int) (nomark _))))) (pe_tup (pa_cons (pe_tup (pa_cons pe_str (pa_cons (pe_slice sl_str (pv 0) (po_some (pe_op op_add (pv 1) pe_int)) (po_some (pv 2))) (pa_cons (pv 1) pa_nil)))) (pa_cons (pv 2) pa_nil))) pe_non)))))))))
abbrev s_row_tokens : Stmt := top 12
theorem sc_row_tokens : FnScope ["row", "found", "place", "told"] ["row"] (defScope s_row_tokens) := ⟨rfl, rfl, rfl, by decide +kernel, rfl, by decide +kernel, by decide +kernel⟩
theorem ok_row_tokens  {f : Addr} {fd : FuncData} (Tx : Txt mg) (F : FnP K "row_tokens" s_row_tokens f fd) (C_token_at : C8.Cal P w K mg base 2 "token_at" spTok [])  : FnOk P w K mg base C8.CX0 (3) f fd ["row"] spRow := by
  refine F.ok sc_row_tokens (fun vs H Q E h => by obtain ⟨l, rfl, _⟩ := h; rfl) (fun cdv A outer s H vs Q E hr h => ⟨t_row_tokens K spTok, PSs.nox (?_), rd_row_tokens K vs H Q E h⟩)
  have hu64 := hr.units
  have hu := hu_of hr
  exact (pss_cons (ps_par3 (i := 1) (j := 2) (l := 0) (by rfl) sc_row_tokens.nd rfl rfl rfl (by decide) (by decide) (by decide) rfl rfl rfl (pa_cons (pe_lst pa_nil) (pa_cons pe_int (pa_cons (pe_ix ix_list (pe_bm PySem.F.plainAttrs_str PySem.F.slot_str_split PySem.F.type_str_split mt_split (pv 0) (pa_cons pe_str pa_nil)) pe_int (fun _ _ => rfl)) pa_nil))) (by rfl))
(pss_cons (ps_while PassesOwn.never (pt_cmpR op_lt (pv 2) (pe_callB call_len_str (by rfl) (Tx.b_len) PySem.boot_len (pa_cons (pv 0) pa_nil)) (nomark _))
  (pss_cons (ps_if (pt_cmpR op_eq (pe_ix ix_str (pv 0) (pv 2) (fun _ _ => rfl)) pe_str (nomark _))
    (pss_cons (ps_set (i := 2) sc_row_tokens.nd rfl (Or.inl rfl) (pe_op op_add (pv 2) pe_int))
    (pss_one ps_continue))
    pss_nil)
  (pss_cons (ps_set (i := 3) sc_row_tokens.nd rfl (Or.inl rfl) (C8.pe_c C_token_at hr (by decide) (by rfl) (pa_cons (pv 0) (pa_cons (pv 2) pa_nil))))
  (pss_cons (ps_if (pt_cmpR op_isN (pv 3) pe_non (nomark _))
    (pss_one (ps_ret (pe_tup (pa_cons (pv 1) (pa_cons (pv 2) pa_nil)))))
    pss_nil)
  (pss_cons (ps_expr (pe_bm PySem.F.plainAttrs_list PySem.F.slot_list_append PySem.F.type_list_append mt_append (pv 1) (pa_cons (pe_ix ix_tup (pv 3) pe_int (fun _ _ => rfl)) pa_nil)))
  (pss_one (ps_set (i := 2) sc_row_tokens.nd rfl (Or.inl rfl) (pe_ix ix_tup (pv 3) pe_int (fun _ _ => rfl)))))))))
(pss_one (ps_ret (pe_tup (pa_cons (pv 1) (pa_cons pe_non pa_nil)))))))
abbrev s_law_stream : Stmt := top 15
theorem sc_law_stream : FnScope ["script"] ["script"] (defScope s_law_stream) := ⟨rfl, rfl, rfl, by decide +kernel, rfl, by decide +kernel, by decide +kernel⟩
theorem ok_law_stream  {f : Addr} {fd : FuncData} (Tx : Txt mg) (F : FnP K "_law_stream" s_law_stream f fd)   : FnOk P w K mg base C8.CX0 (1) f fd ["script"] (spStream K) := by
  refine F.ok sc_law_stream (fun vs H Q E h => by obtain ⟨s, cs, rfl, _⟩ := h; rfl) (fun cdv A outer s H vs Q E hr h => ⟨t_stream K, PSs.nox (?_), rd_stream K vs H Q E h⟩)
  have hu64 := hr.units
  have hu := hu_of hr
  exact (pss_one (ps_ret (pe_lst (pa_cons (pe_callTy call_list_of (by rfl) (Tx.b_list) (by decide +kernel) (pa_cons (pv 0) pa_nil)) (pa_cons pe_int (pa_cons pe_int (pa_cons pe_int pa_nil)))))))
abbrev s_law_draw : Stmt := top 16
theorem sc_law_draw : FnScope ["stream", "many", "cell", "digit", "mixed"] ["stream", "many"] (defScope s_law_draw) := ⟨rfl, rfl, rfl, by decide +kernel, rfl, by decide +kernel, by decide +kernel⟩
theorem ok_law_draw  {f : Addr} {fd : FuncData} (Tx : Txt mg) (F : FnP K "_law_draw" s_law_draw f fd)   : FnOk P w K mg base C8.CX0 (1) f fd ["stream", "many"] spDraw := by
  refine F.ok sc_law_draw (fun vs H Q E h => by obtain ⟨a, b, m, n, rfl, _⟩ := h; rfl) (fun cdv A outer s H vs Q E hr h => ⟨t_draw K, PSs.nox (?_), rd_draw K vs H Q E h⟩)
  have hu64 := hr.units
  have hu := hu_of hr
  exact (pss_cons (ps_asg (pe_op op_add (pe_ix ix_list (pv 0) pe_int (fun _ _ => rfl)) pe_int) (pg_sub (pv 0) pe_int set_list))
(pss_cons (ps_while PassesOwn.never (PW.pt (pw_and (pt_cmpR op_eq (pe_ix ix_list (pv 0) pe_int (fun _ _ => rfl)) pe_int (nomark _)) (pw_and1 (pt_cmpR (op_neD hu64) (pe_ix ix_list (pv 0) pe_int (fun _ _ => rfl)) (pe_lst pa_nil) (nomark _)))))
  (pss_cons (ps_set (i := 2) sc_law_draw.nd rfl (Or.inl rfl) (pe_callB call_abs (by rfl) (Tx.b_abs) (by decide +kernel) (pa_cons (pe_bm PySem.F.plainAttrs_list PySem.F.slot_list_pop PySem.F.type_list_pop mt_popAt (pe_ix ix_list (pv 0) pe_int (fun _ _ => rfl)) (pa_cons pe_int pa_nil)) pa_nil)))
  (pss_cons (ps_asg (pe_op op_mod (pe_callTy call_int1 (by rfl) (Tx.b_int) (by decide +kernel) (pa_cons (pe_op op_add (pe_op op_add (pe_op op_mul (pe_ix ix_list (pv 0) pe_int (fun _ _ => rfl)) pe_int) (pv 2)) pe_int) pa_nil)) pe_int) (pg_sub (pv 0) pe_int set_list))
  (pss_one (ps_asg (pe_ifExp (pt_cmpR op_ge (pv 2) (pe_op op_pow pe_int pe_int) (nomark _)) (pv 2) pe_int) (pg_sub (pv 0) pe_int set_list))))))
(pss_cons (ps_if (pt_cmpR op_gt (pe_ix ix_list (pv 0) pe_int (fun _ _ => rfl)) pe_int (nomark _))
  (pss_cons (ps_set (i := 3) sc_law_draw.nd rfl (Or.inl rfl) (pe_op op_mod (pe_callTy call_int1 (by rfl) (Tx.b_int) (by decide +kernel) (pa_cons (pe_ix ix_list (pv 0) pe_int (fun _ _ => rfl)) pa_nil)) (pv 1)))
  (pss_cons (ps_asg (pe_op op_fdiv (pe_ix ix_list (pv 0) pe_int (fun _ _ => rfl)) (pv 1)) (pg_sub (pv 0) pe_int set_list))
  (pss_one (ps_ret (pv 3)))))
  pss_nil)
(pss_cons (ps_set (i := 4) sc_law_draw.nd rfl (Or.inl rfl) (pe_op op_mod (pe_callTy call_int1 (by rfl) (Tx.b_int) (by decide +kernel) (pa_cons (pe_op op_pow (pe_op op_add (pe_op op_add (pe_ix ix_list (pv 0) pe_int (fun _ _ => rfl)) (pe_op op_mul pe_int (pe_ix ix_list (pv 0) pe_int (fun _ _ => rfl)))) pe_int) pe_int) pa_nil)) pe_int))
(pss_one (ps_ret (pe_op op_mod (pe_op op_mod (pe_callTy call_int1 (by rfl) (Tx.b_int) (by decide +kernel) (pa_cons (pe_op op_pow (pe_op op_add (pe_op op_add (pe_op op_mul (pv 4) pe_int) (pe_op op_mul pe_int (pe_ix ix_list (pv 0) pe_int (fun _ _ => rfl)))) pe_int) pe_int) pa_nil)) pe_int) (pv 1))))))))
abbrev s_law_pick : Stmt := top 17
theorem sc_law_pick : FnScope ["stream", "things"] ["stream", "things"] (defScope s_law_pick) := ⟨rfl, rfl, rfl, by decide +kernel, rfl, by decide +kernel, by decide +kernel⟩
theorem ok_law_pick  {f : Addr} {fd : FuncData} (Tx : Txt mg) (F : FnP K "_law_pick" s_law_pick f fd) (C__law_draw : C8.Cal P w K mg base 1 "_law_draw" spDraw [])  : FnOk P w K mg base C8.CX0 (2) f fd ["stream", "things"] spPick := by
  refine F.ok sc_law_pick (fun vs H Q E h => by obtain ⟨a, b, q, n, xs, rfl, _⟩ := h; rfl) (fun cdv A outer s H vs Q E hr h => ⟨t_pick K spDraw, PSs.nox (?_), rd_pick K vs H Q E h⟩)
  have hu64 := hr.units
  have hu := hu_of hr
  exact (pss_one (ps_ret (pe_ix ix_list (pv 1) (C8.pe_c C__law_draw hr (by decide) (by rfl) (pa_cons (pv 0) (pa_cons (pe_callB call_len_seq (by rfl) (Tx.b_len) PySem.boot_len (pa_cons (pv 1) pa_nil)) pa_nil))) (fun _ _ => rfl))))
abbrev s_law_copied : Stmt := top 18
theorem sc_law_copied : FnScope ["thing", "some", "one", "key"] ["thing"] (defScope s_law_copied) := ⟨rfl, rfl, rfl, by decide +kernel, rfl, by decide +kernel, by decide +kernel⟩
theorem ok_law_copied {n : Nat} {f : Addr} {fd : FuncData} (Tx : Txt mg) (F : FnP K "_law_copied" s_law_copied f fd) (C__law_copied : C8.Cal P w K mg base n "_law_copied" (spCopied n) [])  : FnOk P w K mg base C8.CX0 (n + 1) f fd ["thing"] (spCopied (n + 1)) := by
  refine F.ok sc_law_copied (fun vs H Q E h => by obtain ⟨P, x, d, rfl, _⟩ := h; rfl) (fun cdv A outer s H vs Q E hr h => ⟨t_copied K (spCopied n), PSs.nox (?_), rd_copied K n vs H Q E h⟩)
  have hu64 := hr.units
  have hu := hu_of hr
  exact (pss_cons (ps_if (pt_val (pe_callB call_isiT (by rfl) (Tx.b_isinstance) (by decide +kernel) (pa_cons (pv 0) (pa_cons (pe_tup (pa_cons (pe_bltn (v := .ty "list") (by rfl) (Tx.b_list) (by decide +kernel) rfl) (pa_cons (pe_bltn (v := .ty "tuple") (by rfl) (Tx.b_tuple) (by decide +kernel) rfl) pa_nil))) pa_nil))))
  (pss_cons (ps_setLc (i := 1) (own := [("one", 2)]) (g := (gName 2)) (tt := tYes) (by rfl) sc_law_copied.nd rfl rfl (sw_true rfl rfl rfl (by kernel_rfl)) (pi_or (pi_list (pv 0)) (pi_tup (pv 0))) (blkOk_by (by kernel_rfl)) (fun _ _ _ _ _ => (pg_name (i := 2) sc_law_copied.nd rfl (Or.inl rfl))) (fun _ _ _ _ _ => pts_nil) (fun _ _ _ _ _ => (C8.pe_c C__law_copied hr (Nat.le_refl n) (by rfl) (pa_cons (pv 2) pa_nil))))
  (pss_one (ps_ret (pe_ifExp (pt_val (pe_callB call_isi (by rfl) (Tx.b_isinstance) (by decide +kernel) (pa_cons (pv 0) (pa_cons (pe_bltn (v := .ty "list") (by rfl) (Tx.b_list) (by decide +kernel) rfl) pa_nil)))) (pv 1) (pe_callTy call_tuple_of (by rfl) (Tx.b_tuple) (by decide +kernel) (pa_cons (pv 1) pa_nil))))))
  pss_nil)
(pss_cons (ps_if (pt_val (pe_callB call_isi (by rfl) (Tx.b_isinstance) (by decide +kernel) (pa_cons (pv 0) (pa_cons (pe_bltn (v := .ty "dict") (by rfl) (Tx.b_dict) (by decide +kernel) rfl) pa_nil))))
  (pss_one (ps_ret (pe_callTy (call_dictP rfl) (by rfl) (Tx.b_dict) (by decide +kernel) (pa_cons (pe_lock (pe_lc (own := [("key", 3)]) (g := (gName 3)) (tt := tYes) (by rfl) sc_law_copied.nd (pi_keys (pv 0)) (blkOk_by (by kernel_rfl)) (fun _ _ _ _ _ => (pg_name (i := 3) sc_law_copied.nd rfl (Or.inl rfl))) (fun _ _ _ _ _ => pts_nil) (fun _ _ _ _ _ => (pe_tup (pa_cons (pv 3) (pa_cons (C8.pe_c C__law_copied hr (Nat.le_refl n) (by rfl) (pa_cons (pe_dget hu (pv 0) (pv 3) (fun _ _ => rfl)) pa_nil)) pa_nil)))))) pa_nil))))
  pss_nil)
(pss_one (ps_ret (pv 0)))))
abbrev s_law_same : Stmt := top 19
theorem sc_law_same : FnScope ["found", "due", "mine", "theirs"] ["found", "due"] (defScope s_law_same) := ⟨rfl, rfl, rfl, by decide +kernel, rfl, by decide +kernel, by decide +kernel⟩
theorem ok_law_same {n : Nat} {f : Addr} {fd : FuncData} (Tx : Txt mg) (F : FnP K "_law_same" s_law_same f fd) (C__law_same : C8.Cal P w K mg base n "_law_same" (spSame n) [])  : FnOk P w K mg base C8.CX0 (n + 1) f fd ["found", "due"] (spSame (n + 1)) := by
  refine F.ok sc_law_same (fun vs H Q E h => by obtain ⟨P1, P2, x, y, d, rfl, _⟩ := h; rfl) (fun cdv A outer s H vs Q E hr h => ⟨t_same K (spSame n), PSs.nox (?_), rd_same K n vs H Q E h⟩)
  have hu64 := hr.units
  have hu := hu_of hr
  exact (pss_cons (ps_if (pt_val (pe_callB call_isiT (by rfl) (Tx.b_isinstance) (by decide +kernel) (pa_cons (pv 1) (pa_cons (pe_tup (pa_cons (pe_bltn (v := .ty "list") (by rfl) (Tx.b_list) (by decide +kernel) rfl) (pa_cons (pe_bltn (v := .ty "tuple") (by rfl) (Tx.b_tuple) (by decide +kernel) rfl) pa_nil))) pa_nil))))
  (pss_cons (ps_if (PW.pt (pw_or (pt_cmpR op_ne (pe_callB call_isi (by rfl) (Tx.b_isinstance) (by decide +kernel) (pa_cons (pv 0) (pa_cons (pe_bltn (v := .ty "list") (by rfl) (Tx.b_list) (by decide +kernel) rfl) pa_nil))) (pe_callB call_isi (by rfl) (Tx.b_isinstance) (by decide +kernel) (pa_cons (pv 1) (pa_cons (pe_bltn (v := .ty "list") (by rfl) (Tx.b_list) (by decide +kernel) rfl) pa_nil))) (nomark _)) (pw_or1 (pt_cmpR op_ne (pe_callB call_isi (by rfl) (Tx.b_isinstance) (by decide +kernel) (pa_cons (pv 0) (pa_cons (pe_bltn (v := .ty "tuple") (by rfl) (Tx.b_tuple) (by decide +kernel) rfl) pa_nil))) (pe_callB call_isi (by rfl) (Tx.b_isinstance) (by decide +kernel) (pa_cons (pv 1) (pa_cons (pe_bltn (v := .ty "tuple") (by rfl) (Tx.b_tuple) (by decide +kernel) rfl) pa_nil))) (nomark _)))))
    (pss_one (ps_ret pe_bl))
    pss_nil)
  (pss_one (ps_ret (pe_and (pe_cmpR op_eq (pe_callB call_len_seq (by rfl) (Tx.b_len) PySem.boot_len (pa_cons (pv 0) pa_nil)) (pe_callB call_len_seq (by rfl) (Tx.b_len) PySem.boot_len (pa_cons (pv 1) pa_nil)) (nomark _)) (pe_one (pe_callB (cr_all rfl) (by rfl) (Tx.b_all) (by decide +kernel) (pa_cons (pe_lc (own := [("mine", 2), ("theirs", 3)]) (g := (gTup _ 2 (gCons (gName 2) (gCons (gName 3) gNil)))) (tt := tYes) (by rfl) sc_law_same.nd (RZ.pi_zipA (by rfl) (Tx.b_zip) (pa_cons (pv 0) (pa_cons (pv 1) pa_nil))) (blkOk_by (by kernel_rfl)) (fun _ _ _ _ _ => (pg_tup (by rfl) (pgs_cons (pg_name (i := 2) sc_law_same.nd rfl (Or.inl rfl)) (pgs_cons (pg_name (i := 3) sc_law_same.nd rfl (Or.inl rfl)) pgs_nil)))) (fun _ _ _ _ _ => pts_nil) (fun _ _ _ _ _ => (C8.pe_c C__law_same hr (Nat.le_refl n) (by rfl) (pa_cons (pv 2) (pa_cons (pv 3) pa_nil))))) pa_nil)))))))
  pss_nil)
(pss_cons (ps_if (pt_val (pe_callB call_isi (by rfl) (Tx.b_isinstance) (by decide +kernel) (pa_cons (pv 1) (pa_cons (pe_bltn (v := .ty "dict") (by rfl) (Tx.b_dict) (by decide +kernel) rfl) pa_nil))))
  (pss_one (ps_ret (pe_and (pe_callB call_isi (by rfl) (Tx.b_isinstance) (by decide +kernel) (pa_cons (pv 0) (pa_cons (pe_bltn (v := .ty "dict") (by rfl) (Tx.b_dict) (by decide +kernel) rfl) pa_nil))) (pe_one (C8.pe_c C__law_same hr (Nat.le_refl n) (by rfl) (pa_cons (LiI.pe_listItems (by rfl) (pv 0) (by rfl) (Tx.b_list) (by decide +kernel)) (pa_cons (LiI.pe_listItems (by rfl) (pv 1) (by rfl) (Tx.b_list) (by decide +kernel)) pa_nil)))))))
  pss_nil)
(pss_cons (ps_if (PW.pt (pw_or (pt_val (pe_callB call_isi (by rfl) (Tx.b_isinstance) (by decide +kernel) (pa_cons (pv 1) (pa_cons (pe_bltn (v := .ty "bool") (by rfl) (Tx.b_bool) (by decide +kernel) rfl) pa_nil)))) (pw_or1 (pt_val (pe_callB call_isi (by rfl) (Tx.b_isinstance) (by decide +kernel) (pa_cons (pv 0) (pa_cons (pe_bltn (v := .ty "bool") (by rfl) (Tx.b_bool) (by decide +kernel) rfl) pa_nil)))))))
  (pss_one (ps_ret (pe_and (pe_callB call_isi (by rfl) (Tx.b_isinstance) (by decide +kernel) (pa_cons (pv 1) (pa_cons (pe_bltn (v := .ty "bool") (by rfl) (Tx.b_bool) (by decide +kernel) rfl) pa_nil))) (pe_and (pe_callB call_isi (by rfl) (Tx.b_isinstance) (by decide +kernel) (pa_cons (pv 0) (pa_cons (pe_bltn (v := .ty "bool") (by rfl) (Tx.b_bool) (by decide +kernel) rfl) pa_nil))) (pe_one (pe_cmpR op_eq (pv 0) (pv 1) (nomark _)))))))
  pss_nil)
(pss_cons (ps_if (PW.pt (pw_or (pt_cmpR op_isN (pv 1) pe_non (nomark _)) (pw_or1 (pt_cmpR op_isN (pv 0) pe_non (nomark _)))))
  (pss_one (ps_ret (pe_and (pe_cmpR op_isN (pv 1) pe_non (nomark _)) (pe_one (pe_cmpR op_isN (pv 0) pe_non (nomark _))))))
  pss_nil)
(pss_cons (ps_if (PW.pt (pw_or (pt_cmpR op_ne (pe_callB call_isi (by rfl) (Tx.b_isinstance) (by decide +kernel) (pa_cons (pv 1) (pa_cons (pe_bltn (v := .ty "int") (by rfl) (Tx.b_int) (by decide +kernel) rfl) pa_nil))) (pe_callB call_isi (by rfl) (Tx.b_isinstance) (by decide +kernel) (pa_cons (pv 0) (pa_cons (pe_bltn (v := .ty "int") (by rfl) (Tx.b_int) (by decide +kernel) rfl) pa_nil))) (nomark _)) (pw_or1 (pt_cmpR op_ne (pe_callB call_isi (by rfl) (Tx.b_isinstance) (by decide +kernel) (pa_cons (pv 1) (pa_cons (pe_bltn (v := .ty "str") (by rfl) (Tx.b_str) (by decide +kernel) rfl) pa_nil))) (pe_callB call_isi (by rfl) (Tx.b_isinstance) (by decide +kernel) (pa_cons (pv 0) (pa_cons (pe_bltn (v := .ty "str") (by rfl) (Tx.b_str) (by decide +kernel) rfl) pa_nil))) (nomark _)))))
  (pss_one (ps_ret pe_bl))
  pss_nil)
(pss_one (ps_ret (pe_and (pe_not (pe_callB call_isiT (by rfl) (Tx.b_isinstance) (by decide +kernel) (pa_cons (pv 0) (pa_cons (pe_tup (pa_cons (pe_bltn (v := .ty "list") (by rfl) (Tx.b_list) (by decide +kernel) rfl) (pa_cons (pe_bltn (v := .ty "tuple") (by rfl) (Tx.b_tuple) (by decide +kernel) rfl) (pa_cons (pe_bltn (v := .ty "dict") (by rfl) (Tx.b_dict) (by decide +kernel) rfl) pa_nil)))) pa_nil)))) (pe_one (pe_cmpR op_eq (pv 0) (pv 1) (nomark _)))))))))))
abbrev s_law_spoilt : Stmt := top 20
theorem sc_law_spoilt : FnScope ["thing", "key", "part"] ["thing"] (defScope s_law_spoilt) := ⟨rfl, rfl, rfl, by decide +kernel, rfl, by decide +kernel, by decide +kernel⟩
theorem ok_law_spoilt {n : Nat} {f : Addr} {fd : FuncData} (Tx : Txt mg) (F : FnP K "_law_spoilt" s_law_spoilt f fd) (C__law_spoilt : C8.Cal P w K mg base n "_law_spoilt" (spSpoilt n) [])  : FnOk P w K mg base C8.CX0 (n + 1) f fd ["thing"] (spSpoilt (n + 1)) := by
  refine F.ok sc_law_spoilt (fun vs H Q E h => by obtain ⟨x, d, ns, rfl, _⟩ := h; rfl) (fun cdv A outer s H vs Q E hr h => ⟨t_spoilt K (spSpoilt n), PSs.nox (?_), rd_spoilt K n vs H Q E h⟩)
  have hu64 := hr.units
  have hu := hu_of hr
  exact (pss_cons (ps_if (pt_val (pe_callB call_isi (by rfl) (Tx.b_isinstance) (by decide +kernel) (pa_cons (pv 0) (pa_cons (pe_bltn (v := .ty "dict") (by rfl) (Tx.b_dict) (by decide +kernel) rfl) pa_nil))))
  (pss_cons (ps_for PassesOwn.never rfl (pi_list (pe_callTy (call_list_dK (by rfl)) (by rfl) (Tx.b_list) (by decide +kernel) (pa_cons (pv 0) pa_nil))) (pg_name (i := 1) sc_law_spoilt.nd rfl (Or.inl rfl))
    (pss_one (ps_expr (C8.pe_c C__law_spoilt hr (Nat.le_refl n) (by rfl) (pa_cons (pe_dget hu (pv 0) (pv 1) (fun _ _ => rfl)) pa_nil)))))
  (pss_one (ps_dput hu (pv 0) pe_str pe_int rfl)))
  pss_nil)
(pss_cons (ps_if (pt_val (pe_callB call_isiT (by rfl) (Tx.b_isinstance) (by decide +kernel) (pa_cons (pv 0) (pa_cons (pe_tup (pa_cons (pe_bltn (v := .ty "list") (by rfl) (Tx.b_list) (by decide +kernel) rfl) (pa_cons (pe_bltn (v := .ty "tuple") (by rfl) (Tx.b_tuple) (by decide +kernel) rfl) pa_nil))) pa_nil))))
  (pss_one (ps_for PassesOwn.never rfl (pi_or (pi_list (pv 0)) (pi_tup (pv 0))) (pg_name (i := 2) sc_law_spoilt.nd rfl (Or.inl rfl))
    (pss_one (ps_expr (C8.pe_c C__law_spoilt hr (Nat.le_refl n) (by rfl) (pa_cons (pv 2) pa_nil))))))
  pss_nil)
(pss_one (ps_if (pt_val (pe_callB call_isi (by rfl) (Tx.b_isinstance) (by decide +kernel) (pa_cons (pv 0) (pa_cons (pe_bltn (v := .ty "list") (by rfl) (Tx.b_list) (by decide +kernel) rfl) pa_nil))))
  (pss_one (ps_expr (pe_bm PySem.F.plainAttrs_list PySem.F.slot_list_append PySem.F.type_list_append mt_append (pv 0) (pa_cons pe_str pa_nil))))
  pss_nil))))
abbrev s_law_span : Stmt := top 21
theorem sc_law_span : FnScope ["row", "place", "signs", "found", "sign"] ["row", "place", "signs"] (defScope s_law_span) := ⟨rfl, rfl, rfl, by decide +kernel, rfl, by decide +kernel, by decide +kernel⟩
theorem ok_law_span  {f : Addr} {fd : FuncData} (Tx : Txt mg) (F : FnP K "_law_span" s_law_span f fd)   : FnOk P w K mg base C8.CX0 (1) f fd ["row", "place", "signs"] spSpan := by
  refine F.ok sc_law_span (fun vs H Q E h => by obtain ⟨l, p, sg, rfl, _⟩ := h; rfl) (fun cdv A outer s H vs Q E hr h => ⟨t_span K, PSs.nox (?_), rd_span K vs H Q E h⟩)
  have hu64 := hr.units
  have hu := hu_of hr
  exact (pss_cons (ps_set (i := 3) sc_law_span.nd rfl (Or.inl rfl) pe_int)
(pss_cons (ps_for PassesOwn.never rfl (pi_str (pe_slice sl_str (pv 0) (po_some (pv 1)) po_none)) (pg_name (i := 4) sc_law_span.nd rfl (Or.inl rfl))
  (pss_cons (ps_if (pt_cmpR op_notIn_sign (pv 4) (pv 2) (by rfl))
    (pss_one (ps_ret (pv 3)))
    pss_nil)
  (pss_one (ps_set (i := 3) sc_law_span.nd rfl (Or.inl rfl) (pe_op op_add (pv 3) pe_int)))))
(pss_one (ps_ret (pv 3)))))
abbrev s_law_row_tokens : Stmt := top 22
theorem sc_law_row_tokens : FnScope ["row", "found", "skip", "place", "sign", "word", "figures", "quoted"] ["row"] (defScope s_law_row_tokens) := ⟨rfl, rfl, rfl, by decide +kernel, rfl, by decide +kernel, by decide +kernel⟩
theorem ok_law_row_tokens  {f : Addr} {fd : FuncData} (Tx : Txt mg) (F : FnP K "_law_row_tokens" s_law_row_tokens f fd) (C__law_span : C8.Cal P w K mg base 1 "_law_span" spSpan [])  : FnOk P w K mg base C8.CX0 (2) f fd ["row"] spRow := by
  refine F.ok sc_law_row_tokens (fun vs H Q E h => by obtain ⟨l, rfl, _⟩ := h; rfl) (fun cdv A outer s H vs Q E hr h => ⟨t_lrow K spSpan, PSs.nox (?_), rd_lrow K vs H Q E h⟩)
  have hu64 := hr.units
  have hu := hu_of hr
  exact (pss_cons (ps_par3 (i := 0) (j := 1) (l := 2) (by rfl) sc_law_row_tokens.nd rfl rfl rfl (by decide) (by decide) (by decide) rfl rfl rfl (pa_cons (pe_ifExp (pt_cmpR op_in_sign pe_str (pv 0) (by rfl)) (pe_slice sl_str (pv 0) po_none (po_some (pe_bm PySem.F.plainAttrs_str PySem.F.slot_str_index PySem.F.type_str_index mt_sindex (pv 0) (pa_cons pe_str pa_nil)))) (pv 0)) (pa_cons (pe_lst pa_nil) (pa_cons pe_int pa_nil))) (by rfl))
(pss_cons (ps_for PassesOwn.never rfl (pi_enumS (by rfl) (Tx.b_enumerate) (pa_cons (pv 0) pa_nil)) (pg_tup (by rfl) (pgs_cons (pg_name (i := 3) sc_law_row_tokens.nd rfl (Or.inl rfl)) (pgs_cons (pg_name (i := 4) sc_law_row_tokens.nd rfl (Or.inl rfl)) pgs_nil)))
  (pss_cons (ps_par (i := 5) (j := 6) (by rfl) sc_law_row_tokens.nd rfl rfl (by decide) rfl rfl (pa_cons (C8.pe_c C__law_span hr (by decide) (by rfl) (pa_cons (pv 0) (pa_cons (pv 3) (pa_cons pe_str pa_nil)))) (pa_cons (C8.pe_c C__law_span hr (by decide) (by rfl) (pa_cons (pv 0) (pa_cons (pv 3) (pa_cons pe_str pa_nil)))) pa_nil)) (by rfl))
  (pss_cons (ps_set (i := 7) sc_law_row_tokens.nd rfl (Or.inl rfl) (pe_ifExp (pt_cmpR op_eq (pv 4) pe_str (nomark _)) (C8.pe_c C__law_span hr (by decide) (by rfl) (pa_cons (pv 0) (pa_cons (pe_op op_add (pv 3) pe_int) (pa_cons pe_str pa_nil)))) pe_int))
  (pss_one (ps_if (pt_cmpR op_gt (pv 2) pe_int (nomark _))
    (pss_one (ps_set (i := 2) sc_law_row_tokens.nd rfl (Or.inl rfl) (pe_op op_sub (pv 2) pe_int)))
    (pss_one (ps_if (pt_cmpR op_gt (pv 5) pe_int (nomark _))
      (pss_cons (ps_expr (pe_bm PySem.F.plainAttrs_list PySem.F.slot_list_append PySem.F.type_list_append mt_append (pv 1) (pa_cons (pe_tup (pa_cons pe_str (pa_cons (pe_slice sl_str (pv 0) (po_some (pv 3)) (po_some (pe_op op_add (pv 3) (pv 5)))) (pa_cons (pv 3) pa_nil)))) pa_nil)))
      (pss_one (ps_set (i := 2) sc_law_row_tokens.nd rfl (Or.inl rfl) (pe_op op_sub (pv 5) pe_int))))
      (pss_one (ps_if (pt_cmpR op_gt (pv 6) pe_int (nomark _))
        (pss_cons (ps_expr (pe_bm PySem.F.plainAttrs_list PySem.F.slot_list_append PySem.F.type_list_append mt_append (pv 1) (pa_cons (pe_tup (pa_cons pe_str (pa_cons (pe_callTy call_int_str (by rfl) (Tx.b_int) (by decide +kernel) (pa_cons (pe_slice sl_str (pv 0) (po_some (pv 3)) (po_some (pe_op op_add (pv 3) (pv 6)))) pa_nil)) (pa_cons (pv 3) pa_nil)))) pa_nil)))
        (pss_one (ps_set (i := 2) sc_law_row_tokens.nd rfl (Or.inl rfl) (pe_op op_sub (pv 6) pe_int))))
        (pss_one (ps_if (pt_cmpR op_gt (pv 7) pe_int (nomark _))
          (pss_cons (ps_expr (pe_bm PySem.F.plainAttrs_list PySem.F.slot_list_append PySem.F.type_list_append mt_append (pv 1) (pa_cons (pe_tup (pa_cons pe_str (pa_cons (pe_slice sl_str (pv 0) (po_some (pe_op op_add (pv 3) pe_int)) (po_some (pe_op op_add (pe_op op_add (pv 3) pe_int) (pv 7)))) (pa_cons (pv 3) pa_nil)))) pa_nil)))
          (pss_one (ps_set (i := 2) sc_law_row_tokens.nd rfl (Or.inl rfl) (pv 7))))
          (pss_one (ps_if (pt_cmpR op_in_sign (pv 4) pe_str (by rfl))
            (pss_one (ps_expr (pe_bm PySem.F.plainAttrs_list PySem.F.slot_list_append PySem.F.type_list_append mt_append (pv 1) (pa_cons (pe_tup (pa_cons pe_str (pa_cons (pv 4) (pa_cons (pv 3) pa_nil)))) pa_nil))))
            (pss_one (ps_if (pt_cmpR op_ne (pv 4) pe_str (nomark _))
              (pss_one (ps_ret (pe_tup (pa_cons (pv 1) (pa_cons (pv 3) pa_nil)))))
              pss_nil)))))))))))))))
(pss_one (ps_ret (pe_tup (pa_cons (pv 1) (pa_cons pe_non pa_nil)))))))
abbrev s_law_drawn_row : Stmt := top 23
theorem sc_law_drawn_row : FnScope ["stream", "found", "some", "turn", "piece", "tail", "at", "odd"] ["stream"] (defScope s_law_drawn_row) := ⟨rfl, rfl, rfl, by decide +kernel, rfl, by decide +kernel, by decide +kernel⟩
theorem ok_law_drawn_row  {f : Addr} {fd : FuncData} (Tx : Txt mg) (F : FnP K "_law_drawn_row" s_law_drawn_row f fd) (C__law_draw : C8.Cal P w K mg base 1 "_law_draw" spDraw []) (C__law_pick : C8.Cal P w K mg base 2 "_law_pick" spPick [])  : FnOk P w K mg base C8.CX0 (3) f fd ["stream"] spDrawn := by
  refine F.ok sc_law_drawn_row (fun vs H Q E h => by obtain ⟨a, b, n, rfl, _⟩ := h; rfl) (fun cdv A outer s H vs Q E hr h => ⟨t_drawn_row K spDraw spPick, PSs.nox (?_), rd_drawn K vs H Q E h⟩)
  have hu64 := hr.units
  have hu := hu_of hr
  exact (pss_cons (ps_par (i := 1) (j := 2) (by rfl) sc_law_drawn_row.nd rfl rfl (by decide) rfl rfl (pa_cons pe_str (pa_cons (pe_lst (pa_cons pe_str (pa_cons pe_str (pa_cons pe_str (pa_cons pe_str (pa_cons pe_str (pa_cons pe_str (pa_cons pe_str (pa_cons pe_str (pa_cons pe_str (pa_cons pe_str (pa_cons pe_str (pa_cons pe_str (pa_cons pe_str (pa_cons pe_str pa_nil))))))))))))))) pa_nil)) (by rfl))
(pss_cons (ps_for PassesOwn.never rfl (pi_range1 (by rfl) (Tx.b_range) (pa_cons (C8.pe_c C__law_draw hr (by decide) (by rfl) (pa_cons (pv 0) (pa_cons pe_int pa_nil))) pa_nil)) (pg_name (i := 3) sc_law_drawn_row.nd rfl (Or.inl rfl))
  (pss_cons (ps_set (i := 4) sc_law_drawn_row.nd rfl (Or.inl rfl) (C8.pe_c C__law_pick hr (by decide) (by rfl) (pa_cons (pv 0) (pa_cons (pe_op op_cat (pe_op op_cat (pv 2) (pe_callTy (call_list_signs rfl) (by rfl) (Tx.b_list) (by decide +kernel) (pa_cons pe_str pa_nil))) (pe_lst (pa_cons pe_str (pa_cons pe_str (pa_cons pe_str (pa_cons pe_str pa_nil)))))) pa_nil))))
  (pss_cons (ps_set (i := 5) sc_law_drawn_row.nd rfl (Or.inl rfl) (pe_op op_sub (pe_callB call_len_str (by rfl) (Tx.b_len) PySem.boot_len (pa_cons (pv 1) pa_nil)) (pe_callB call_len_str (by rfl) (Tx.b_len) PySem.boot_len (pa_cons (pe_bm PySem.F.plainAttrs_str PySem.F.slot_str_rstrip PySem.F.type_str_rstrip mt_rstripChars (pv 1) (pa_cons pe_str pa_nil)) pa_nil))))
  (pss_one (ps_set (i := 1) sc_law_drawn_row.nd rfl (Or.inl rfl) (pe_op op_add_str (pv 1) (pe_ifExp (PW.pt (pw_and (pt_val (pe_bm0 PySem.F.plainAttrs_str PySem.F.slot_str_isdigit PySem.F.type_str_isdigit mt_isdigit (pv 4))) (pw_and1 (pt_cmpR op_gt (pe_op op_add (pv 5) (pe_callB call_len_str (by rfl) (Tx.b_len) PySem.boot_len (pa_cons (pv 4) pa_nil))) pe_int (nomark _))))) (pe_op op_add_str pe_str (pv 4)) (pv 4))))))))
(pss_cons (ps_if (pt_cmpR op_eq (C8.pe_c C__law_draw hr (by decide) (by rfl) (pa_cons (pv 0) (pa_cons pe_int pa_nil))) pe_int (nomark _))
  (pss_cons (ps_set (i := 6) sc_law_drawn_row.nd rfl (Or.inl rfl) (C8.pe_c C__law_draw hr (by decide) (by rfl) (pa_cons (pv 0) (pa_cons (pe_op op_add (pe_callB call_len_str (by rfl) (Tx.b_len) PySem.boot_len (pa_cons (pv 1) pa_nil)) pe_int) pa_nil))))
  (pss_cons (ps_set (i := 7) sc_law_drawn_row.nd rfl (Or.inl rfl) (C8.pe_c C__law_pick hr (by decide) (by rfl) (pa_cons (pv 0) (pa_cons (pe_op op_cat (pe_callTy (call_list_signs rfl) (by rfl) (Tx.b_list) (by decide +kernel) (pa_cons pe_str pa_nil)) (pe_lst (pa_cons pe_str (pa_cons pe_str (pa_cons pe_str (pa_cons pe_str (pa_cons pe_str (pa_cons pe_str pa_nil)))))))) pa_nil))))
  (pss_one (ps_set (i := 1) sc_law_drawn_row.nd rfl (Or.inl rfl) (pe_op op_add_str (pe_op op_add_str (pe_slice sl_str (pv 1) po_none (po_some (pv 6))) (pv 7)) (pe_slice sl_str (pv 1) (po_some (pv 6)) po_none))))))
  pss_nil)
(pss_one (ps_ret (pe_op op_add_str (pv 1) (pe_ifExp (pt_cmpR op_eq (C8.pe_c C__law_draw hr (by decide) (by rfl) (pa_cons (pv 0) (pa_cons pe_int pa_nil))) pe_int (nomark _)) (C8.pe_c C__law_pick hr (by decide) (by rfl) (pa_cons (pv 0) (pa_cons (pe_lst (pa_cons pe_str (pa_cons pe_str (pa_cons pe_str pa_nil)))) pa_nil))) pe_str)))))))
abbrev s_check_text : Stmt := top 9
theorem sc_check_text : FnScope ["text"] ["text"] (defScope s_check_text) := ⟨rfl, rfl, rfl, by decide +kernel, rfl, by decide +kernel, by decide +kernel⟩
theorem ok_check_text {CN fN : Addr} {fdN : FuncData} {f : Addr} {fd : FuncData} (Tx : Txt mg) (F : FnP K "check_text" s_check_text f fd)  (TN : ExC K mg "NoText" CN fN "text") (FN : FnOk P w K mg base C8.CX0 1 fN fdN ["self", "text"] (spInit CN "text")) (bN : L2.Binds K fdN ["self", "text"] []) : FnOk P w K mg base (L2.CX P w) (3) f fd ["text"] (spCheck CN) := by
  refine F.ok sc_check_text (fun vs H Q E h => by obtain ⟨x, rfl, _⟩ := h; rfl) (fun cdv A outer s H vs Q E hr h => ⟨t_check K CN E, ?_, rd_check K CN vs H Q E h⟩)
  have hu64 := hr.units
  have hu := hu_of hr
  exact (pss_cons (ps_if (pt_not (pt_val (pe_callB call_isi (by rfl) (Tx.b_isinstance) (by decide +kernel) (pa_cons (pv 0) (pa_cons (pe_bltn (v := .ty "str") (by rfl) (Tx.b_str) (by decide +kernel) rfl) pa_nil)))))
  (pss_one (ps_raiseE rfl (takes_of rfl rfl rfl rfl) TN FN hr bN (by rfl) (pa_cons (pv 0) pa_nil)))
  pss_nil)
(pss_one (ps_ret (pv 0))))
abbrev s_tokens : Stmt := top 13
theorem sc_tokens : FnScope ["text", "found", "line", "row", "some", "bad"] ["text"] (defScope s_tokens) := ⟨rfl, rfl, rfl, by decide +kernel, rfl, by decide +kernel, by decide +kernel⟩
theorem ok_tokens {CN CU fU fc : Addr} {fdU fdc : FuncData} {f : Addr} {fd : FuncData} (Tx : Txt mg) (F : FnP K "tokens" s_tokens f fd) (C_row_tokens : C8.Cal P w K mg base 3 "row_tokens" spRow []) (TU : ExC K mg "Unread" CU fU "at") (FU : FnOk P w K mg base C8.CX0 1 fU fdU ["self", "at"] (spInit CU "at")) (bU : L2.Binds K fdU ["self", "at"] []) (GC : FnOk P w K mg base (L2.CX P w) 3 fc fdc ["text"] (spCheck CN)) (gc : mg "check_text" = some (.ref fc)) (kc : PySem.W.keepIn K (.ref fc) = true) (bc : L2.Binds K fdc ["text"] []) : FnOk P w K mg base (L2.CX P w) (5) f fd ["text"] (spTokens CN CU) := by
  refine F.ok sc_tokens (fun vs H Q E h => by obtain ⟨x, rfl, _⟩ := h; rfl) (fun cdv A outer s H vs Q E hr h => ⟨t_tokens K CU (spCheck CN) spRow E, ?_, rd_tokens K CN CU vs H Q E h⟩)
  have hu64 := hr.units
  have hu := hu_of hr
  exact (pss_cons (ps_set (i := 1) sc_tokens.nd rfl (Or.inl rfl) (pe_lst pa_nil))
(pss_cons (ps_for (passes_of rfl) rfl (pi_enum (by rfl) (Tx.b_enumerate) (pa_cons (pe_bm PySem.F.plainAttrs_str PySem.F.slot_str_split PySem.F.type_str_split mt_split (pe_callS GC (hr.mono (by decide)) (by rfl) gc kc bc (fun σ => passAt (takes_of rfl rfl rfl rfl) σ) (pa_cons (pv 0) pa_nil)) (pa_cons pe_str pa_nil)) pa_nil)) (pg_tup (by rfl) (pgs_cons (pg_name (i := 2) sc_tokens.nd rfl (Or.inl rfl)) (pgs_cons (pg_name (i := 3) sc_tokens.nd rfl (Or.inl rfl)) pgs_nil)))
  (pss_cons (ps_asg (C8.pe_c C_row_tokens hr (by decide) (by rfl) (pa_cons (pv 3) pa_nil)) (pg_tup (by rfl) (pgs_cons (pg_name (i := 4) sc_tokens.nd rfl (Or.inl rfl)) (pgs_cons (pg_name (i := 5) sc_tokens.nd rfl (Or.inl rfl)) pgs_nil))))
  (pss_cons (ps_if (pt_cmpR op_notN (pv 5) pe_non (nomark _))
    (pss_one (ps_raiseE rfl (takes_of rfl rfl rfl rfl) TU FU (hr.mono (by decide)) bU (by rfl) (pa_cons (pe_tup (pa_cons (pv 2) (pa_cons (pv 5) pa_nil))) pa_nil)))
    pss_nil)
  (pss_one (ps_expr (pe_bm PySem.F.plainAttrs_list PySem.F.slot_list_append PySem.F.type_list_append mt_append (pv 1) (pa_cons (pv 4) pa_nil)))))))
(pss_one (ps_ret (pv 1)))))

end
end K24
end
section
set_option maxHeartbeats 8000000
/-! Lw17: the whole. -/
namespace K24
open PySem PySem.Spec PyProof.Rows L2 Lw SX
/-! ### an own exception class, looked at -/
def oexB (K : PySem.W.Frag) (C : Addr) : Bool := (match K.lookup C with
  | some ⟨.type "type", _, .cls cd, sl⟩ => (match cd.mro, sl.toList with
    | .ref C' :: bm, [_, _, _, _, some (.builtin n), _] => C' == C && (n == "ValueError.__new__" && (!cd.hasDel && (cd.hasDict && PySem.HandSPX.refsVE bm)))
    | _, _ => false)
  | _ => false) && (PySem.W.keepIn K (.ref C) && (decide (PySem.W.findIn K (.ref C) "__setattr__" = some (some (.builtin "object.__setattr__"))) && (decide (PySem.W.subIn K (.ref C) (.type "BaseException") = some true) && decide (PySem.W.typeIn K (.ref C) = some (.type "type")))))
theorem oex_ok {K : PySem.W.Frag} {C : Addr} (h : oexB K C = true) : OexC K C := by
  unfold oexB at h
  rw [Bool.and_eq_true, Bool.and_eq_true, Bool.and_eq_true, Bool.and_eq_true] at h
  obtain ⟨q, h2, h3, h4, h5⟩ := h
  refine ⟨?_, of_decide_eq_true h3, of_decide_eq_true h4, of_decide_eq_true h5, h2⟩
  split at q
  · rename_i dd cd sl ho
    split at q
    · rename_i C' bm k0 k1 k2 k3 n k5 hm hs
      simp only [Bool.and_eq_true, beq_iff_eq, Bool.not_eq_true'] at q
      obtain ⟨rfl, rfl, hdel, hdict, hbm⟩ := q
      obtain ⟨nm, bs, mro, ns, qn, hd, sn, sub, ab, col, del⟩ := cd
      dsimp only at hm hdel hdict
      subst hm hdel hdict
      have hsl : sl = #[k0, k1, k2, k3, some (.builtin "ValueError.__new__"), k5] := by
        obtain ⟨l⟩ := sl
        simp only at hs
        rw [hs]
      subst hsl
      exact ⟨nm, qn, ns, bs, bm, sn, sub, ab, col, dd, k0, k1, k2, k3, k5, ho, hbm⟩
    · cases q
  · cases q
theorem fn_false {P : Program} {w : World} {K : PySem.W.Frag} {mg : Str → Option Value} {base : Heap} {CX : CXT} {k : Nat} {f : Addr} {fd : FuncData} {ps : List Str} {sp : Sp} (hn : ∀ vs H Q E, ¬ sp vs H Q E) : FnOk P w K mg base CX k f fd ps sp :=
  ⟨fun vs H Q E h => (hn _ _ _ _ h).elim, fun A outer s H args us vs Q E hr e0 hb r hsp => (hn _ _ _ _ hsp).elim⟩
section
variable {P : Program} {w : World} {K : PySem.W.Frag} {mg : Str → Option Value} {base : Heap}
theorem calOf {x : Str} {j k : Nat} {f : Addr} {fd : FuncData} {ps : List Str} {sp : Sp} {st : Stmt} (F : FnP K x st f fd) (G : FnOk P w K mg base C8.CX0 j f fd ps sp) (hk : j ≤ k) (g : mg x = some (.ref f)) (b : L2.Binds K fd ps []) : C8.Cal P w K mg base k x sp [] :=
  ⟨f, fd, ps, [], G.mono hk, g, F.kp, b, .nil⟩
theorem same_all (Tx : Txt mg) {f : Addr} {fd : FuncData} (F : FnP K "_law_same" s_law_same f fd) (g : mg "_law_same" = some (.ref f)) (b : L2.Binds K fd ["found", "due"] []) : ∀ n, FnOk P w K mg base C8.CX0 n f fd ["found", "due"] (spSame n)
  | 0 => fn_false fun vs H Q E h => by
    obtain ⟨_, _, _, _, _, _, _, _, h0, _⟩ := h
    exact absurd h0 (Nat.not_lt_zero _)
  | n + 1 => ok_law_same Tx F (calOf F (same_all Tx F g b n) (Nat.le_refl n) g b)
theorem copied_all (Tx : Txt mg) {f : Addr} {fd : FuncData} (F : FnP K "_law_copied" s_law_copied f fd) (g : mg "_law_copied" = some (.ref f)) (b : L2.Binds K fd ["thing"] []) : ∀ n, FnOk P w K mg base C8.CX0 n f fd ["thing"] (spCopied n)
  | 0 => fn_false fun vs H Q E h => by
    obtain ⟨_, _, _, _, _, h0, _⟩ := h
    exact absurd h0 (Nat.not_lt_zero _)
  | n + 1 => ok_law_copied Tx F (calOf F (copied_all Tx F g b n) (Nat.le_refl n) g b)
theorem spoilt_all (Tx : Txt mg) {f : Addr} {fd : FuncData} (F : FnP K "_law_spoilt" s_law_spoilt f fd) (g : mg "_law_spoilt" = some (.ref f)) (b : L2.Binds K fd ["thing"] []) : ∀ n, FnOk P w K mg base C8.CX0 n f fd ["thing"] (spSpoilt n)
  | 0 => fn_false fun vs H Q E h => by
    obtain ⟨_, _, _, _, _, _, h0, _⟩ := h
    exact absurd h0 (Nat.not_lt_zero _)
  | n + 1 => ok_law_spoilt Tx F (calOf F (spoilt_all Tx F g b n) (Nat.le_refl n) g b)
abbrev s_law : Stmt := top 25
theorem sc_law : FnScope ["script", "stream", "turn", "drawn", "row", "text", "made", "bads", "line", "some", "bad", "due", "found", "thing", "mine", "met", "at"] ["script"] (defScope s_law) := ⟨rfl, rfl, rfl, by decide +kernel, rfl, by decide +kernel, by decide +kernel⟩
theorem ok_law (Tx : Txt mg) {f : Addr} {fd : FuncData} {CN fN CU fU : Addr} (TN : ExC K mg "NoText" CN fN "text") (TU : ExC K mg "Unread" CU fU "at") (hUN : PySem.W.exmOne K (.ref CU) (.ref CN) = some false) (F : FnP K "law" s_law f fd) {c Pt : Addr} (hc : fd.code = .ref c) (TBc : LamX.TabB base mg c Pt)
  {ft : Addr} {fdt : FuncData} (GT : FnOk P w K mg base (L2.CX P w) 6 ft fdt ["text"] (spTokens CN CU)) (gt : mg "tokens" = some (.ref ft)) (kt : PySem.W.keepIn K (.ref ft) = true) (bt : L2.Binds K fdt ["text"] []) (kbt : KBinds K fdt ["text"] ["text"] (fun us ws => us ++ ws) (fun vs zs => vs ++ zs))
  {fm : Addr} {dV kV doc pm cdv ct oc : Value} {an od : Option Addr} {osl : Array (Option Value)} (gM : mg "_law_met" = some (.ref fm)) (kM : PySem.W.keepIn K (.ref fm) = true)
  (lkM : K.lookup fm = some ⟨oc, od, .func (PySem.W.fnOf "_law_met" "_law_met" (defArgs s_law_met) (defBody s_law_met) (defScope s_law_met) dV kV doc pm an cdv ct), osl⟩) (hcM : PySem.W.codeIn K cdv "_law_met" = true) (bM : L2.Binds K (PySem.W.fnOf "_law_met" "_law_met" (defArgs s_law_met) (defBody s_law_met) (defScope s_law_met) dV kV doc pm an cdv ct) ["ask"] [])
  (C__law_stream : C8.Cal P w K mg base 30 "_law_stream" (spStream K) [])
  (C__law_pick : C8.Cal P w K mg base 30 "_law_pick" spPick [])
  (C__law_drawn_row : C8.Cal P w K mg base 30 "_law_drawn_row" spDrawn [])
  (C__law_row_tokens : C8.Cal P w K mg base 30 "_law_row_tokens" spRow [])
  (C__law_same : C8.Cal P w K mg base 30 "_law_same" (spSame 12) [])
  (C__law_spoilt : C8.Cal P w K mg base 30 "_law_spoilt" (spSpoilt 8) [])
  (C__law_copied : C8.Cal P w K mg base 30 "_law_copied" (spCopied 8) []) : FnOk P w K mg base C8.CX0 60 f fd ["script"] (spLaw K [(Pt, "law" ++ ".<locals>." ++ "<lambda>")]) := by
  refine fn_law F hc sc_law (fun vs H Q E h => by obtain ⟨s, cs, rfl, _⟩ := h; rfl) (fun A outer s H vs Q E hr h => ⟨t_law K [(Pt, "law" ++ ".<locals>." ++ "<lambda>")] CN CU, ?_, rd_law vs H Q E h⟩)
  have hu64 := hr.units
  have hu := hu_of hr
  exact (pss_cons (ps_set (i := 1) sc_law.nd rfl (Or.inr rfl) (C8.pe_c C__law_stream hr (by decide) (by rfl) (pa_cons (pv 0) pa_nil)))
(pss_cons (ps_for PassesOwn.never rfl (pi_range1 (by rfl) (Tx.b_range) (pa_cons pe_int pa_nil)) (pg_name (i := 2) sc_law.nd rfl (Or.inl rfl))
  (pss_cons (ps_setLc (i := 3) (own := [("row", 4)]) (g := (gName 4)) (tt := tYes) (by rfl) sc_law.nd rfl rfl (sw_true rfl rfl rfl (by kernel_rfl)) (pi_range1 (by rfl) (Tx.b_range) (pa_cons (C8.pe_c C__law_pick hr (by decide) (by rfl) (pa_cons (pv 1) (pa_cons (pe_lst (pa_cons pe_int (pa_cons pe_int (pa_cons pe_int (pa_cons pe_int (pa_cons pe_int pa_nil)))))) pa_nil))) pa_nil)) (blkOk_by (by kernel_rfl)) (fun _ _ _ _ _ => (pg_name (i := 4) sc_law.nd rfl (Or.inl rfl))) (fun _ _ _ _ _ => pts_nil) (fun _ _ _ _ _ => (C8.pe_c C__law_drawn_row hr (by decide) (by rfl) (pa_cons (pv 1) pa_nil))))
  (pss_cons (ps_asg (pe_tup (pa_cons (pe_bm PySem.F.plainAttrs_str PySem.F.slot_str_join PySem.F.type_str_join mt_join pe_str (pa_cons (pv 3) pa_nil)) (pa_cons (pe_lc (own := [("row", 4)]) (g := (gName 4)) (tt := tYes) (by rfl) sc_law.nd (pi_list (pv 3)) (blkOk_by (by kernel_rfl)) (fun _ _ _ _ _ => (pg_name (i := 4) sc_law.nd rfl (Or.inl rfl))) (fun _ _ _ _ _ => pts_nil) (fun _ _ _ _ _ => (C8.pe_c C__law_row_tokens hr (by decide) (by rfl) (pa_cons (pv 4) pa_nil)))) pa_nil))) (pg_tup (by rfl) (pgs_cons (pg_name (i := 5) sc_law.nd rfl (Or.inr rfl)) (pgs_cons (pg_name (i := 6) sc_law.nd rfl (Or.inl rfl)) pgs_nil))))
  (pss_cons (ps_setLc (i := 7) (own := [("line", 8), ("some", 9), ("bad", 10)]) (g := (gTup _ 2 (gCons (gName 8) (gCons (gTup _ 2 (gCons (gName 9) (gCons (gName 10) gNil))) gNil)))) (by rfl) sc_law.nd rfl rfl (sw_true rfl rfl rfl (by kernel_rfl)) (pi_enum (by rfl) (Tx.b_enumerate) (pa_cons (pv 6) pa_nil)) (blkOk_by (by kernel_rfl)) (fun _ _ _ _ _ => (pg_tup (by rfl) (pgs_cons (pg_name (i := 8) sc_law.nd rfl (Or.inl rfl)) (pgs_cons (pg_tup (by rfl) (pgs_cons (pg_name (i := 9) sc_law.nd rfl (Or.inl rfl)) (pgs_cons (pg_name (i := 10) sc_law.nd rfl (Or.inl rfl)) pgs_nil))) pgs_nil)))) (fun _ _ _ _ _ => (pts_one (pt_cmpR op_notN (pv 10) pe_non (nomark _)))) (fun _ _ _ _ _ => (pe_tup (pa_cons (pv 8) (pa_cons (pv 10) pa_nil)))))
  (pss_cons (ps_set (i := 11) sc_law.nd rfl (Or.inl rfl) (pe_ifExp (pt_cmpR (op_neD hu64) (pv 7) (pe_lst pa_nil) (nomark _)) (pe_tup (pa_cons pe_str (pa_cons (pe_ix ix_list (pv 7) pe_int (fun _ _ => rfl)) pa_nil))) (pe_tup (pa_cons pe_str (pa_cons (pe_lc (own := [("some", 9), ("bad", 10)]) (g := (gTup _ 2 (gCons (gName 9) (gCons (gName 10) gNil)))) (tt := tYes) (by rfl) sc_law.nd (pi_list (pv 6)) (blkOk_by (by kernel_rfl)) (fun _ _ _ _ _ => (pg_tup (by rfl) (pgs_cons (pg_name (i := 9) sc_law.nd rfl (Or.inl rfl)) (pgs_cons (pg_name (i := 10) sc_law.nd rfl (Or.inl rfl)) pgs_nil)))) (fun _ _ _ _ _ => pts_nil) (fun _ _ _ _ _ => (pv 9))) pa_nil)))))
  (pss_cons (ps_set (i := 12) sc_law.nd rfl (Or.inl rfl) (pe_lst (pa_cons (LamX.pe_lamcall (T := [(Pt, ("law" ++ ".<locals>." ++ "<lambda>" : Str))]) (k := 6) (by rfl) gM kM lkM hcM bM sc_law_met (by rfl) (Or.inl rfl) (met_gives TN TU hUN) TBc rfl (List.mem_singleton.mpr rfl) (fun p hp _ => by rw [List.mem_singleton] at hp; rw [hp]; rfl) (hr.mono (by decide)) (LamX.lamS_by (by kernel_rfl)) (by rfl) (fun _ _ _ _ _ => by rfl) (fun A outer s H E f c' hr2 => (pe_callS GT hr2 (by rfl) gt kt bt (fun σ => passAt (takes_of rfl rfl rfl rfl) σ) (pa_cons (pv 5) pa_nil)))) pa_nil)))
  (pss_cons (ps_expr (pe_bm PySem.F.plainAttrs_list PySem.F.slot_list_append PySem.F.type_list_append mt_append (pv 12) (pa_cons (LamX.pe_lamcall (T := [(Pt, ("law" ++ ".<locals>." ++ "<lambda>" : Str))]) (k := 6) (by rfl) gM kM lkM hcM bM sc_law_met (by rfl) (Or.inl rfl) (met_gives TN TU hUN) TBc rfl (List.mem_singleton.mpr rfl) (fun p hp _ => by rw [List.mem_singleton] at hp; rw [hp]; rfl) (hr.mono (by decide)) (LamX.lamS_by (by kernel_rfl)) (by rfl) (fun _ _ _ _ _ => by rfl) (fun A outer s H E f c' hr2 => (pe_callK0 GT hr2 (by rfl) gt kt kbt (fun σ => passAt (takes_of rfl rfl rfl rfl) σ) (pk_cons (pv 5) pk_nil)))) pa_nil)))
  (pss_cons (ps_if (pt_not (pt_val (C8.pe_c C__law_same hr (by decide) (by rfl) (pa_cons (pv 12) (pa_cons (pe_lst (pa_cons (pv 11) (pa_cons (pv 11) pa_nil))) pa_nil)))))
    (pss_one (ps_ret pe_bl))
    pss_nil)
  (pss_cons (ps_if (pt_cmpR (op_eqD hu64) (pv 7) (pe_lst pa_nil) (nomark _))
    (pss_one (ps_expr (C8.pe_c C__law_spoilt hr (by decide) (by rfl) (pa_cons (pe_ix ix_tup (pe_ix ix_list (pv 12) pe_int (fun _ _ => rfl)) pe_int (fun _ _ => rfl)) pa_nil))))
    pss_nil)
  (pss_cons (ps_if (pt_not (pt_val (C8.pe_c C__law_same hr (by decide) (by rfl) (pa_cons (LamX.pe_lamcall (T := [(Pt, ("law" ++ ".<locals>." ++ "<lambda>" : Str))]) (k := 6) (by rfl) gM kM lkM hcM bM sc_law_met (by rfl) (Or.inl rfl) (met_gives TN TU hUN) TBc rfl (List.mem_singleton.mpr rfl) (fun p hp _ => by rw [List.mem_singleton] at hp; rw [hp]; rfl) (hr.mono (by decide)) (LamX.lamS_by (by kernel_rfl)) (by rfl) (fun _ _ _ _ _ => by rfl) (fun A outer s H E f c' hr2 => (pe_callS GT hr2 (by rfl) gt kt bt (fun σ => passAt (takes_of rfl rfl rfl rfl) σ) (pa_cons (pv 5) pa_nil)))) (pa_cons (pv 11) pa_nil)))))
    (pss_one (ps_ret pe_bl))
    pss_nil)
  (pss_cons (ps_set (i := 13) sc_law.nd rfl (Or.inl rfl) (C8.pe_c C__law_pick hr (by decide) (by rfl) (pa_cons (pv 1) (pa_cons (pe_lst (pa_cons pe_non (pa_cons pe_int (pa_cons pe_bl (pa_cons (pe_lst pa_nil) (pa_cons (pe_lst (pa_cons pe_str pa_nil)) (pa_cons (pe_tup (pa_cons pe_str pa_nil)) (pa_cons pe_dnewK (pa_cons (pe_un un_neg pe_int) pa_nil))))))))) pa_nil))))
  (pss_cons (ps_set (i := 14) sc_law.nd rfl (Or.inr rfl) (C8.pe_c C__law_copied hr (by decide) (by rfl) (pa_cons (pv 13) pa_nil)))
  (pss_cons (ps_set (i := 15) sc_law.nd rfl (Or.inl rfl) (pe_lst (pa_cons (LamX.pe_lamcall (T := [(Pt, ("law" ++ ".<locals>." ++ "<lambda>" : Str))]) (k := 6) (by rfl) gM kM lkM hcM bM sc_law_met (by rfl) (Or.inl rfl) (met_gives TN TU hUN) TBc rfl (List.mem_singleton.mpr rfl) (fun p hp _ => by rw [List.mem_singleton] at hp; rw [hp]; rfl) (hr.mono (by decide)) (LamX.lamS_by (by kernel_rfl)) (by rfl) (fun _ _ _ _ _ => by rfl) (fun A outer s H E f c' hr2 => (pe_callS GT hr2 (by rfl) gt kt bt (fun σ => passAt (takes_of rfl rfl rfl rfl) σ) (pa_cons (pv 14) pa_nil)))) pa_nil)))
  (pss_cons (ps_expr (pe_bm PySem.F.plainAttrs_list PySem.F.slot_list_append PySem.F.type_list_append mt_append (pv 15) (pa_cons (LamX.pe_lamcall (T := [(Pt, ("law" ++ ".<locals>." ++ "<lambda>" : Str))]) (k := 6) (by rfl) gM kM lkM hcM bM sc_law_met (by rfl) (Or.inl rfl) (met_gives TN TU hUN) TBc rfl (List.mem_singleton.mpr rfl) (fun p hp _ => by rw [List.mem_singleton] at hp; rw [hp]; rfl) (hr.mono (by decide)) (LamX.lamS_by (by kernel_rfl)) (by rfl) (fun _ _ _ _ _ => by rfl) (fun A outer s H E f c' hr2 => (pe_callK0 GT hr2 (by rfl) gt kt kbt (fun σ => passAt (takes_of rfl rfl rfl rfl) σ) (pk_cons (pv 14) pk_nil)))) pa_nil)))
  (pss_cons (ps_if (pt_val (pe_callB call_isi (by rfl) (Tx.b_isinstance) (by decide +kernel) (pa_cons (pv 14) (pa_cons (pe_bltn (v := .ty "list") (by rfl) (Tx.b_list) (by decide +kernel) rfl) pa_nil))))
    (pss_one (ps_expr (pe_bm PySem.F.plainAttrs_list PySem.F.slot_list_append PySem.F.type_list_append mt_append (pv 14) (pa_cons pe_str pa_nil))))
    pss_nil)
  (pss_one (ps_if (pt_not (pt_val (C8.pe_c C__law_same hr (by decide) (by rfl) (pa_cons (pv 15) (pa_cons (pe_op op_rep (pe_lst (pa_cons (pe_tup (pa_cons pe_str (pa_cons (pv 14) pa_nil))) pa_nil)) pe_int) pa_nil)))))
    (pss_one (ps_ret pe_bl))
    pss_nil)))))))))))))))))
(pss_cons (ps_set (i := 9) sc_law.nd rfl (Or.inl rfl) (pe_lst (pa_cons (pe_callS GT (hr.mono (by decide)) (by rfl) gt kt bt (fun σ => passAt LamX.takes0 σ) (pa_cons pe_str pa_nil)) (pa_cons (pe_callS GT (hr.mono (by decide)) (by rfl) gt kt bt (fun σ => passAt LamX.takes0 σ) (pa_cons pe_str pa_nil)) (pa_cons (pe_callS GT (hr.mono (by decide)) (by rfl) gt kt bt (fun σ => passAt LamX.takes0 σ) (pa_cons pe_str pa_nil)) (pa_cons (pe_callS GT (hr.mono (by decide)) (by rfl) gt kt bt (fun σ => passAt LamX.takes0 σ) (pa_cons (pe_op op_add_str (pe_op op_mulS pe_str pe_int) (pe_op op_mulS pe_str pe_int)) pa_nil)) (pa_cons (pe_callS GT (hr.mono (by decide)) (by rfl) gt kt bt (fun σ => passAt LamX.takes0 σ) (pa_cons pe_str pa_nil)) (pa_cons (pe_callS GT (hr.mono (by decide)) (by rfl) gt kt bt (fun σ => passAt LamX.takes0 σ) (pa_cons pe_str pa_nil)) pa_nil))))))))
(pss_cons (ps_set (i := 11) sc_law.nd rfl (Or.inl rfl) (pe_lst (pa_cons (pe_lst (pa_cons (pe_lst pa_nil) pa_nil)) (pa_cons (pe_lst (pa_cons (pe_lst (pa_cons (pe_tup (pa_cons pe_str (pa_cons pe_str (pa_cons pe_int pa_nil)))) (pa_cons (pe_tup (pa_cons pe_str (pa_cons pe_str (pa_cons pe_int pa_nil)))) (pa_cons (pe_tup (pa_cons pe_str (pa_cons pe_str (pa_cons pe_int pa_nil)))) (pa_cons (pe_tup (pa_cons pe_str (pa_cons pe_str (pa_cons pe_int pa_nil)))) pa_nil))))) (pa_cons (pe_lst pa_nil) pa_nil))) (pa_cons (pe_lst (pa_cons (pe_lst pa_nil) (pa_cons (pe_lst pa_nil) (pa_cons (pe_lst pa_nil) pa_nil)))) pa_nil)))))
(pss_cons (ps_expr (pe_bm PySem.F.plainAttrs_list PySem.F.slot_list_append PySem.F.type_list_append mt_append (pv 11) (pa_cons (pe_lst (pa_cons (pe_op op_cat (pe_lst (pa_cons (pe_tup (pa_cons pe_str (pa_cons (pe_op op_mulS pe_str pe_int) (pa_cons pe_int pa_nil)))) pa_nil)) (pe_lc (own := [("at", 16)]) (g := (gName 16)) (tt := tYes) (by rfl) sc_law.nd (pi_range1 (by rfl) (Tx.b_range) (pa_cons pe_int pa_nil)) (blkOk_by (by kernel_rfl)) (fun _ _ _ _ _ => (pg_name (i := 16) sc_law.nd rfl (Or.inl rfl))) (fun _ _ _ _ _ => pts_nil) (fun _ _ _ _ _ => (pe_tup (pa_cons pe_str (pa_cons pe_str (pa_cons (pe_op op_add pe_int (pv 16)) pa_nil))))))) pa_nil)) pa_nil)))
(pss_cons (ps_expr (pe_bm PySem.F.plainAttrs_list PySem.F.slot_list_extend PySem.F.type_list_extend mt_extend (pv 11) (pa_cons (pe_lst (pa_cons (pe_lst (pa_cons (pe_lst (pa_cons (pe_tup (pa_cons pe_str (pa_cons pe_int (pa_cons pe_int pa_nil)))) (pa_cons (pe_tup (pa_cons pe_str (pa_cons pe_str (pa_cons pe_int pa_nil)))) (pa_cons (pe_tup (pa_cons pe_str (pa_cons pe_int (pa_cons pe_int pa_nil)))) pa_nil)))) pa_nil)) (pa_cons (pe_lst (pa_cons (pe_lst (pa_cons (pe_tup (pa_cons pe_str (pa_cons pe_str (pa_cons pe_int pa_nil)))) (pa_cons (pe_tup (pa_cons pe_str (pa_cons pe_str (pa_cons pe_int pa_nil)))) (pa_cons (pe_tup (pa_cons pe_str (pa_cons pe_str (pa_cons pe_int pa_nil)))) (pa_cons (pe_tup (pa_cons pe_str (pa_cons pe_str (pa_cons pe_int pa_nil)))) pa_nil))))) pa_nil)) pa_nil))) pa_nil)))
(pss_one (ps_ret (C8.pe_c C__law_same hr (by decide) (by rfl) (pa_cons (pv 9) (pa_cons (pv 11) pa_nil)))))))))))
end
end K24
end
section
set_option maxHeartbeats 0
/-! Lw18: the head, the end. -/
namespace K24
open PySem PySem.Spec PyProof.Rows L2 Lw SX
def dd (x : Str) (i : Nat) : He.DefD := ⟨(x, none), x, x, defArgs (top i), defBody (top i), defScope (top i), [], []⟩
def di (c q : Str) (i : Nat) : He.DefD := ⟨(c, some "__init__"), "__init__", q, defArgs (inClass (top i) 0), defBody (inClass (top i) 0), defScope (inClass (top i) 0), [], []⟩
def fn : List He.DefD := [dd "check_text" 9, dd "run_end" 10, dd "token_at" 11, dd "row_tokens" 12, dd "tokens" 13, dd "_law_stream" 15, dd "_law_draw" 16, dd "_law_pick" 17, dd "_law_copied" 18, dd "_law_same" 19, dd "_law_spoilt" 20, dd "_law_span" 21, dd "_law_row_tokens" 22, dd "_law_drawn_row" 23, dd "_law_met" 24, dd "law" 25, di "NoText" "NoText.__init__" 4, di "Unread" "Unread.__init__" 5]
def fa : List He.Fa := [.glo "check_text", .glo "run_end", .glo "token_at", .glo "row_tokens", .glo "tokens", .glo "_law_stream", .glo "_law_draw", .glo "_law_pick", .glo "_law_copied", .glo "_law_same", .glo "_law_spoilt", .glo "_law_span", .glo "_law_row_tokens", .glo "_law_drawn_row", .glo "_law_met", .glo "law", .glo "NoText", .glo "Unread",
  .free "isinstance", .free "list", .free "range", .free "enumerate", .free "len", .free "int", .free "str", .free "abs", .free "tuple", .free "dict", .free "all", .free "zip", .free "bool",
  .str "LETTERS" "abcdefghijklmnopqrstuvwxyz", .str "FIGURES" "0123456789", .str "SIGNS" "(),:",
  .noat "NoText" "text", .noat "Unread" "at", .meth "NoText" "__init__", .meth "Unread" "__init__", .exm "NoText" "NoText" true, .exm "Unread" "Unread" true, .exm "Unread" "NoText" false]
def ex (K : PySem.W.Frag) : Bool := (oexB K (He.ga K "NoText") && oexB K (He.ga K "Unread")) && (xfB K (He.ga K "NoText") && xfB K (He.ga K "Unread"))
def tf : List He.Defn := [("law", none)]
abbrev R : PySem.W.OpenRow := PySem.W.OpenLaw.row PySem.Challenge.rw_whobrings_k24_whole_tokens_of_texts
abbrev hk : PySem.W.Hook := He.hookX 5 fa fn [] tf ex
def ob (s : PySem.W.SharedT) : He.AlX := He.obsX 5 fa fn [] tf ex (HandSHeadRun.getT s)
theorem ob_eq (s : PySem.W.SharedT) : ob s = hk.obs s.abs := He.obsX_eq (HandSHeadRun.getT_eq s)
def loose : List Str := ["LETTERS", "PowerError", "NoText", "Unread", "SIGNS", "FIGURES", "check_text", "run_end", "token_at", "row_tokens", "tokens", "_law_stream", "_law_draw", "_law_pick", "_law_copied", "_law_same", "_law_spoilt", "_law_span", "_law_row_tokens", "_law_drawn_row", "_law_met"]
theorem run (w : World) : HandSHeadRun.RunEq R (PySem.W.view R.prog [25]) hk ob 4000 loose w := by
  intro os
  kernel_rfl
section
variable {P : Program} {w : World} {K : PySem.W.Frag} {mg : Str → Option Value} {h : Heap}
theorem excOf (X : K.In h) (G : h.Ns mainGlobals mg) (c : He.SaysX fa fn [] tf ex w h K) (x f : Str) (g1 : He.Fa.glo x ∈ fa) (g2 : He.Fa.noat x f ∈ fa) (g3 : He.Fa.meth x "__init__" ∈ fa) (g4 : He.Fa.exm x x true ∈ fa) (h1 : oexB K (He.ga K x) = true) (h2 : xfB K (He.ga K x) = true) :
    ExC K mg x (He.ga K x) (He.ma K (He.ga K x) "__init__") f := by
  have m := He.meth_ok (c.t.d.facts g3)
  exact ⟨He.glo_ok X G (c.t.d.facts g1), oex_ok h1, xfB_ok h2, He.noat_ok (c.t.d.facts g2), m.at_, beq_iff_eq.mp m.fn, He.exm_ok (c.t.d.facts g4)⟩
theorem sc_initN : FnScope ["self", "text"] ["self", "text"] (defScope (inClass (top 4) 0)) := ⟨rfl, rfl, rfl, by decide +kernel, rfl, by decide +kernel, by decide +kernel⟩
theorem sc_initU : FnScope ["self", "at"] ["self", "at"] (defScope (inClass (top 5) 0)) := ⟨rfl, rfl, rfl, by decide +kernel, rfl, by decide +kernel, by decide +kernel⟩
theorem ok_initN {base : Heap} {C f : Addr} {fd : FuncData} (F : FunD K "__init__" "NoText.__init__" (defArgs (inClass (top 4) 0)) (defBody (inClass (top 4) 0)) (defScope (inClass (top 4) 0)) [] [] f fd) (T : OexC K C) (no : PySem.W.findIn K (.ref C) "text" = some none) : FnOk P w K mg base C8.CX0 1 f fd ["self", "text"] (spInit C "text") := by
  refine F.ok sc_initN (fun vs H Q E h => by obtain ⟨a, y, rfl, _⟩ := h; rfl) (fun cdv A outer s H vs Q E hr h => ⟨tOst K "text" (tVar 0) (tVar 1), PSs.nox ?_, rd_init T no rfl vs H Q E h⟩)
  exact pss_one (ps_ost (pv 0) (pv 1))
theorem ok_initU {base : Heap} {C f : Addr} {fd : FuncData} (F : FunD K "__init__" "Unread.__init__" (defArgs (inClass (top 5) 0)) (defBody (inClass (top 5) 0)) (defScope (inClass (top 5) 0)) [] [] f fd) (T : OexC K C) (no : PySem.W.findIn K (.ref C) "at" = some none) : FnOk P w K mg base C8.CX0 1 f fd ["self", "at"] (spInit C "at") := by
  refine F.ok sc_initU (fun vs H Q E h => by obtain ⟨a, y, rfl, _⟩ := h; rfl) (fun cdv A outer s H vs Q E hr h => ⟨tOst K "at" (tVar 0) (tVar 1), PSs.nox ?_, rd_init T no rfl vs H Q E h⟩)
  exact pss_one (ps_ost (pv 0) (pv 1))
theorem kb_tokens {f : Addr} {fd : FuncData} (F : FnP K "tokens" s_tokens f fd) : KBinds K fd ["text"] ["text"] (fun us ws => us ++ ws) (fun vs zs => vs ++ zs) := by
  obtain ⟨oc, od, dV, kV, doc, pm, an, cdv, ct, osl, rfl, lk, hcd, hD, hK⟩ := F.ex
  rcases hD with ⟨_, rfl⟩ | ⟨e, _⟩
  case inr => exact absurd rfl e
  refine ⟨fun s us ws X hl => ?_, fun r rz => r.append rz⟩
  match us, ws, hl with
  | [u], [], _ => exact .of_eq rfl
  | [], [v], _ => exact .of_eq rfl
theorem facts {fa' : Addr} (X : K.In h) (G : h.Ns mainGlobals mg) (hfa : mg ("law" : Str) = some (.ref fa')) (c : He.SaysX fa fn [] tf ex w h K) :
    LamX.LawAtS PySem.Challenge.rw_whobrings_k24_whole_tokens_of_texts w K C8.CX0 60 63 "script" mg fa' h := by
  have d := c.t.d
  have glo : ∀ x : Str, He.Fa.glo x ∈ fa → mg x = some (.ref (He.ga K x)) := fun x hx => He.glo_ok X G (d.facts hx)
  have fre : ∀ x : Str, He.Fa.free x ∈ fa → mg x = none := fun x hx => He.free_ok X G (d.facts hx)
  have Tx : Txt mg := ⟨fre _ (by simp [fa]), fre _ (by simp [fa]), fre _ (by simp [fa]), fre _ (by simp [fa]), fre _ (by simp [fa]), fre _ (by simp [fa]), fre _ (by simp [fa]), fre _ (by simp [fa]), fre _ (by simp [fa]), fre _ (by simp [fa]), fre _ (by simp [fa]), fre _ (by simp [fa]), fre _ (by simp [fa]),
    He.str_ok X G (d.facts (by simp [fa])), He.str_ok X G (d.facts (by simp [fa])), He.str_ok X G (d.facts (by simp [fa]))⟩
  obtain ⟨m1, m2⟩ := He.ba c.more
  obtain ⟨m3, m4⟩ := He.ba m1
  obtain ⟨m5, m6⟩ := He.ba m2
  have TN := excOf X G c "NoText" "text" (by simp [fa]) (by simp [fa]) (by simp [fa]) (by simp [fa]) m3 m5
  have TU := excOf X G c "Unread" "at" (by simp [fa]) (by simp [fa]) (by simp [fa]) (by simp [fa]) m4 m6
  have hUN := He.exm_ok (d.facts (show He.Fa.exm "Unread" "NoText" false ∈ fa by simp [fa]))
  obtain ⟨fd0, F0⟩ := d.def_ 0 (d := dd "check_text" 9) rfl
  obtain ⟨fd1, F1⟩ := d.def_ 1 (d := dd "run_end" 10) rfl
  obtain ⟨fd2, F2⟩ := d.def_ 2 (d := dd "token_at" 11) rfl
  obtain ⟨fd3, F3⟩ := d.def_ 3 (d := dd "row_tokens" 12) rfl
  obtain ⟨fd4, F4⟩ := d.def_ 4 (d := dd "tokens" 13) rfl
  obtain ⟨fd5, F5⟩ := d.def_ 5 (d := dd "_law_stream" 15) rfl
  obtain ⟨fd6, F6⟩ := d.def_ 6 (d := dd "_law_draw" 16) rfl
  obtain ⟨fd7, F7⟩ := d.def_ 7 (d := dd "_law_pick" 17) rfl
  obtain ⟨fd8, F8⟩ := d.def_ 8 (d := dd "_law_copied" 18) rfl
  obtain ⟨fd9, F9⟩ := d.def_ 9 (d := dd "_law_same" 19) rfl
  obtain ⟨fd10, F10⟩ := d.def_ 10 (d := dd "_law_spoilt" 20) rfl
  obtain ⟨fd11, F11⟩ := d.def_ 11 (d := dd "_law_span" 21) rfl
  obtain ⟨fd12, F12⟩ := d.def_ 12 (d := dd "_law_row_tokens" 22) rfl
  obtain ⟨fd13, F13⟩ := d.def_ 13 (d := dd "_law_drawn_row" 23) rfl
  obtain ⟨fd14, F14⟩ := d.def_ 14 (d := dd "_law_met" 24) rfl
  obtain ⟨fd15, F15⟩ := d.def_ 15 (d := dd "law" 25) rfl
  obtain ⟨fd16, F16⟩ := d.def_ 16 (d := di "NoText" "NoText.__init__" 4) rfl
  obtain ⟨fd17, F17⟩ := d.def_ 17 (d := di "Unread" "Unread.__init__" 5) rfl
  have F0 : FnP K "check_text" s_check_text (He.ga K "check_text") fd0 := F0
  have F1 : FnP K "run_end" s_run_end (He.ga K "run_end") fd1 := F1
  have F2 : FnP K "token_at" s_token_at (He.ga K "token_at") fd2 := F2
  have F3 : FnP K "row_tokens" s_row_tokens (He.ga K "row_tokens") fd3 := F3
  have F4 : FnP K "tokens" s_tokens (He.ga K "tokens") fd4 := F4
  have F5 : FnP K "_law_stream" s_law_stream (He.ga K "_law_stream") fd5 := F5
  have F6 : FnP K "_law_draw" s_law_draw (He.ga K "_law_draw") fd6 := F6
  have F7 : FnP K "_law_pick" s_law_pick (He.ga K "_law_pick") fd7 := F7
  have F8 : FnP K "_law_copied" s_law_copied (He.ga K "_law_copied") fd8 := F8
  have F9 : FnP K "_law_same" s_law_same (He.ga K "_law_same") fd9 := F9
  have F10 : FnP K "_law_spoilt" s_law_spoilt (He.ga K "_law_spoilt") fd10 := F10
  have F11 : FnP K "_law_span" s_law_span (He.ga K "_law_span") fd11 := F11
  have F12 : FnP K "_law_row_tokens" s_law_row_tokens (He.ga K "_law_row_tokens") fd12 := F12
  have F13 : FnP K "_law_drawn_row" s_law_drawn_row (He.ga K "_law_drawn_row") fd13 := F13
  have F14 : FnP K "_law_met" s_law_met (He.ga K "_law_met") fd14 := F14
  have F15 : FnP K "law" s_law (He.ga K "law") fd15 := F15
  have b0 : L2.Binds K fd0 ["text"] [] := FunD.bindsN F0 fun _ _ _ _ _ _ us hl => match us, hl with | [_], _ => rfl
  have b1 : L2.Binds K fd1 ["row", "place", "signs"] [] := FunD.bindsN F1 fun _ _ _ _ _ _ us hl => match us, hl with | [_, _, _], _ => rfl
  have b2 : L2.Binds K fd2 ["row", "place"] [] := FunD.bindsN F2 fun _ _ _ _ _ _ us hl => match us, hl with | [_, _], _ => rfl
  have b3 : L2.Binds K fd3 ["row"] [] := FunD.bindsN F3 fun _ _ _ _ _ _ us hl => match us, hl with | [_], _ => rfl
  have b4 : L2.Binds K fd4 ["text"] [] := FunD.bindsN F4 fun _ _ _ _ _ _ us hl => match us, hl with | [_], _ => rfl
  have b5 : L2.Binds K fd5 ["script"] [] := FunD.bindsN F5 fun _ _ _ _ _ _ us hl => match us, hl with | [_], _ => rfl
  have b6 : L2.Binds K fd6 ["stream", "many"] [] := FunD.bindsN F6 fun _ _ _ _ _ _ us hl => match us, hl with | [_, _], _ => rfl
  have b7 : L2.Binds K fd7 ["stream", "things"] [] := FunD.bindsN F7 fun _ _ _ _ _ _ us hl => match us, hl with | [_, _], _ => rfl
  have b8 : L2.Binds K fd8 ["thing"] [] := FunD.bindsN F8 fun _ _ _ _ _ _ us hl => match us, hl with | [_], _ => rfl
  have b9 : L2.Binds K fd9 ["found", "due"] [] := FunD.bindsN F9 fun _ _ _ _ _ _ us hl => match us, hl with | [_, _], _ => rfl
  have b10 : L2.Binds K fd10 ["thing"] [] := FunD.bindsN F10 fun _ _ _ _ _ _ us hl => match us, hl with | [_], _ => rfl
  have b11 : L2.Binds K fd11 ["row", "place", "signs"] [] := FunD.bindsN F11 fun _ _ _ _ _ _ us hl => match us, hl with | [_, _, _], _ => rfl
  have b12 : L2.Binds K fd12 ["row"] [] := FunD.bindsN F12 fun _ _ _ _ _ _ us hl => match us, hl with | [_], _ => rfl
  have b13 : L2.Binds K fd13 ["stream"] [] := FunD.bindsN F13 fun _ _ _ _ _ _ us hl => match us, hl with | [_], _ => rfl
  have b14 : L2.Binds K fd14 ["ask"] [] := FunD.bindsN F14 fun _ _ _ _ _ _ us hl => match us, hl with | [_], _ => rfl
  have b16 : L2.Binds K fd16 ["self", "text"] [] := FunD.bindsN F16 fun _ _ _ _ _ _ us hl => match us, hl with | [_, _], _ => rfl
  have b17 : L2.Binds K fd17 ["self", "at"] [] := FunD.bindsN F17 fun _ _ _ _ _ _ us hl => match us, hl with | [_, _], _ => rfl
  have kb4 := kb_tokens F4
  have efa : fa' = He.ga K "law" := by
    have e := hfa.symm.trans (glo "law" (by simp [fa]))
    cases e
    rfl
  subst efa
  -- the law's code object, its table
  obtain ⟨oc, od, dV, kV, doc, pm, an, cdv, ct, osl, efd, lk, hcd, _, _⟩ := F15.ex
  obtain ⟨cc, ecc⟩ := He.codeIn_ref hcd
  have hc : fd15.code = .ref cc := by rw [efd, ← ecc]
  have ec : He.codeOf K ("law", none) = cc := He.codeOf_eq (p := ("law", none)) lk hc
  have hh := c.hd ("law", none) (by simp [tf])
  have ho := c.out ("law", none) (by simp [tf])
  have he := c.empty ("law", none) (by simp [tf])
  unfold He.cT at hh ho he
  rw [ec] at hh ho he
  dsimp only at hh ho he
  generalize He.tabOf K cc = Pt at hh ho he
  -- what was caught
  obtain ⟨ocm, odm, dVm, kVm, docm, pmm, anm, cdvm, ctm, oslm, rfl, lkm, hcm, _, _⟩ := F14.ex
  refine ⟨fd15, [(cc, Pt)], spLaw K [(Pt, "law" ++ ".<locals>." ++ "<lambda>")], fun p hp => ?_, fun p hp => ?_, fun p hp => ?_, fun s u => ?_, fun H a ns hl _ hT hS => ?_, fun base KB GB TB => ?_⟩
  · rw [List.mem_singleton] at hp
    rw [hp]
    exact he
  · rw [List.mem_singleton] at hp
    rw [hp]
    exact ho
  · rw [List.mem_singleton] at hp
    rw [hp]
    exact PySem.W.codeHd_of_K X hh
  · exact FunD.bindsA (ps := ["script"]) F15 (fun _ _ _ _ _ _ us hl => match us, hl with | [_], _ => rfl) s [u] rfl
  · refine ⟨a, ns, rfl, hS, Nat.le_trans hl (by decide), fun p hp => ?_, fun _ => rfl⟩
    rw [List.mem_singleton] at hp
    rw [hp]
    exact LamX.TabS.nil (hT (cc, Pt) (by simp))
  · have GI1 : FnOk (PySem.Challenge.rw_whobrings_k24_whole_tokens_of_texts).prog w K mg base C8.CX0 1 _ fd16 ["self", "text"] (spInit _ "text") := ok_initN F16 TN.o TN.no
    have GI2 : FnOk (PySem.Challenge.rw_whobrings_k24_whole_tokens_of_texts).prog w K mg base C8.CX0 1 _ fd17 ["self", "at"] (spInit _ "at") := ok_initU F17 TU.o TU.no
    have G0 := ok_check_text Tx F0 TN GI1 b16
    have G1 : FnOk (PySem.Challenge.rw_whobrings_k24_whole_tokens_of_texts).prog w K mg base C8.CX0 1 _ fd1 _ spRun := ok_run_end Tx F1
    have G2 := ok_token_at Tx F2 (calOf F1 G1 (by decide) (glo _ (by simp [fa])) b1)
    have G3 := ok_row_tokens Tx F3 (calOf F2 G2 (by decide) (glo _ (by simp [fa])) b2)
    have G4 := ok_tokens Tx F4 (calOf F3 G3 (by decide) (glo _ (by simp [fa])) b3) TU GI2 b17 G0 (glo _ (by simp [fa])) F0.kp b0
    have G5 : FnOk (PySem.Challenge.rw_whobrings_k24_whole_tokens_of_texts).prog w K mg base C8.CX0 1 _ fd5 _ (spStream K) := ok_law_stream Tx F5
    have G6 : FnOk (PySem.Challenge.rw_whobrings_k24_whole_tokens_of_texts).prog w K mg base C8.CX0 1 _ fd6 _ spDraw := ok_law_draw Tx F6
    have G7 := ok_law_pick Tx F7 (calOf F6 G6 (by decide) (glo _ (by simp [fa])) b6)
    have G8 : FnOk (PySem.Challenge.rw_whobrings_k24_whole_tokens_of_texts).prog w K mg base C8.CX0 8 _ fd8 _ (spCopied 8) := copied_all Tx F8 (glo _ (by simp [fa])) b8 8
    have G9 : FnOk (PySem.Challenge.rw_whobrings_k24_whole_tokens_of_texts).prog w K mg base C8.CX0 12 _ fd9 _ (spSame 12) := same_all Tx F9 (glo _ (by simp [fa])) b9 12
    have G10 : FnOk (PySem.Challenge.rw_whobrings_k24_whole_tokens_of_texts).prog w K mg base C8.CX0 8 _ fd10 _ (spSpoilt 8) := spoilt_all Tx F10 (glo _ (by simp [fa])) b10 8
    have G11 : FnOk (PySem.Challenge.rw_whobrings_k24_whole_tokens_of_texts).prog w K mg base C8.CX0 1 _ fd11 _ spSpan := ok_law_span Tx F11
    have G12 := ok_law_row_tokens Tx F12 (calOf F11 G11 (by decide) (glo _ (by simp [fa])) b11)
    have G13 := ok_law_drawn_row Tx F13 (calOf F6 G6 (by decide) (glo _ (by simp [fa])) b6) (calOf F7 G7 (by decide) (glo _ (by simp [fa])) b7)
    exact ok_law Tx TN TU hUN F15 hc (TB (cc, Pt) (by simp)) (G4.mono (by decide)) (glo _ (by simp [fa])) F4.kp b4 kb4 (glo _ (by simp [fa])) F14.kp lkm hcm b14
      (calOf F5 G5 (by decide) (glo _ (by simp [fa])) b5) (calOf F7 G7 (by decide) (glo _ (by simp [fa])) b7) (calOf F13 G13 (by decide) (glo _ (by simp [fa])) b13) (calOf F12 G12 (by decide) (glo _ (by simp [fa])) b12)
      (calOf F9 G9 (by decide) (glo _ (by simp [fa])) b9) (calOf F10 G10 (by decide) (glo _ (by simp [fa])) b10) (calOf F8 G8 (by decide) (glo _ (by simp [fa])) b8)
end
end K24
open PySem PySem.W PySem.Calls PyProof.Rows
theorem PySem.Challenge.cw_whobrings_k24_whole_tokens_of_texts_holds : PySem.Challenge.rw_whobrings_k24_whole_tokens_of_texts.Holds := by
  w_on; o_law
  refine HandSHeadRun.head_any (r := OpenLaw.row PySem.Challenge.rw_whobrings_k24_whole_tokens_of_texts) (q := view (OpenLaw.row PySem.Challenge.rw_whobrings_k24_whole_tokens_of_texts).prog [25]) (H := K24.hk) (ob := K24.ob) (M := 4000) (loose := K24.loose) (d := HandSHeadRun.topDef (OpenLaw.row PySem.Challenge.rw_whobrings_k24_whole_tokens_of_texts).prog 25) (kwd := []) K24.ob_eq
    (by kernel_rfl) (fun s => by kernel_rfl) K24.run (by kernel_rfl) (by kernel_rfl) (by kernel_rfl) (by rfl) (by first | assumption | decide +kernel) (by decide +kernel) ⟨rfl, rfl, rfl, rfl, rfl, by decide +kernel⟩ ?hw ?hc
  case hw => w_witness2
  case hc =>
    refine LamX.walk_ofTsE (l := PySem.Challenge.rw_whobrings_k24_whole_tokens_of_texts) (n := 63) (k := 60) (x := "script") (CX := fun _ => C8.CX0) rfl (by decide) (by kernel_rfl) ⟨rfl, by decide, by decide⟩ ?F (fun _ _ _ _ _ z => z)
    intro w mg fa h Y G hmg0
    obtain ⟨K, KX, c⟩ := Y
    have hmg : mg ("law" : PySem.Str) = some (.ref fa) := by
      have e : (HandSHeadRun.topDef (OpenLaw.row PySem.Challenge.rw_whobrings_k24_whole_tokens_of_texts).prog 25).name = ("law" : PySem.Str) := by kernel_rfl
      rw [← e]
      exact hmg0
    exact ⟨K, KX, K24.facts KX G hmg c⟩
end
