import PyProof.Rows.All
import Wide.All
import OpenK.AllK
import Wide.FinOn
import HandS.Base
import HandS.Call
import HandS.List
import HandS.Exc
import HandS.ExcOwn
import HandS.ExcIs
import HandS.ExcValue
import HandS.Dict
import HandS.ForMost
import KE.DataEq
import PyProof.ReprReads
import PyProof.ReprRoads
import KE.SortData
import HandS.Text
import HandS.StrMore
import HandS.DictTup
import PyProof.NeKinds
import PyProof.EqKinds
import HandS.Wide
import HandS.IsInst
import HandS.TupLe
import HandS.TupAny
import KE.DataIsa
import HandS.RaiseMore
import PyProof.IsiTupleOf
import PyProof.IsInstanceT
import HandS.TupSets
import HandS.Strs
import KE.GoesMore
import KE.GoesZip
import KE.KUnpack
import HandS.Style
import HandS.WrittenGet
import KE.IntBitsLaws
import PyProof.StrLawsIn
import PyProof.Rows.StrCut
import KE.OsSortAny
import PyProof.Rows.StrJoinMade
import PySem.Challenge.RW_heardahead_k03_places_told
section
set_option Elab.async false
set_option linter.all false
set_option maxRecDepth 100000
set_option maxHeartbeats 4000000
set_option autoImplicit false
/-! EvXa: an exception that an except suite keeps: it is tracked behind the suite -/
namespace EV
open PySem PySem.Spec PyProof.Rows L2
/-- an exception of the class cls stands at a -/
def ExC (cls : Value) (a : Addr) : HO := .ext fun h => ∃ oe : Obj, h.get? a = some oe ∧ Zc cls none oe ∧ ∃ vs, oe.data = .fields vs
theorem exC_ok {P : Program} {w : World} {H : Hp} {h : Heap} {a : Addr} {cls : Value} {oe : Obj} (e : h.get? a = some oe) (z : Zc cls none oe) (d : ∃ vs, oe.data = .fields vs) : ObjOk P w H h a (ExC cls a) :=
  ⟨⟨oe, e, z, d⟩, ⟨oe, e⟩, fun _ _ ⟨o, q, r⟩ k => ⟨o, k o q, r⟩⟩
section
variable {X : Cx} {pins : List (Addr × Obj)} {σ : L2.St} {H : Hp} {s : Shared}
theorem trackE (I : Inv X pins σ H s) {a : Addr} {oe : Obj} {cls : Value} (e : s.heap.get? a = some oe) (z : Zc cls none oe) (d : ∃ vs, oe.data = .fields vs) (hn : H a = none) (nL : a ≠ X.env.locals) (n0 : X.s_0.heap.get? a = none) (np : ∀ p ∈ X.pn ++ pins, p.1 ≠ a) :
    Inv X pins σ (upd H a (ExC cls a)) s :=
  ⟨I.ok, I.os, I.bare, ⟨I.base.keep, I.base.slot, fun b o q n x => by rw [upd_ne (fun z => by rw [z, n0] at q; cases q)]; exact I.base.free b o q n x, I.base.there, fun b xs q => by
      have r := I.base.tups b xs q
      rw [upd_ne (ne_of_none r hn)]; exact r, fun b o u q => by
      have r := I.base.frzs b o u q
      rw [upd_ne (ne_of_none r hn)]; exact r, fun b ps q => by
      obtain ⟨m, r⟩ := I.base.tbls b ps q
      exact ⟨m, by rw [upd_ne (ne_of_none r hn)]; exact r⟩⟩,
    I.loc, I.cell, by rw [upd_ne fun q => nL q.symm]; exact I.free, fun x c ec => by
      rw [upd_ne (fun q => by
        subst q
        obtain ⟨v, o, ho, hd⟩ := I.cell x c ec
        rw [e] at ho
        cases ho
        obtain ⟨vs, d⟩ := d
        rw [d] at hd
        cases hd)]
      exact I.freeC x c ec, fun p hp => by
      obtain ⟨q1, q2, q3⟩ := I.pin p hp
      exact ⟨q1, by rw [upd_ne (np p hp)]; exact q2, q3⟩, I.hok.laidN (fun _ _ q => q) hn (exC_ok e z d), I.len⟩
end
/-- what a try whose suite keeps the exception asks of it -/
def wKeep (K : PySem.W.Frag) (c : Value) (i : Nat) (ts : Addr → Value → Option Addr → TS) (Wout : L2.WX) (D : Ends) : L2.WX := fun cls d σ H =>
  ∃ b, PySem.W.exmOne K cls c = some b ∧ (b = true → d = none ∧ ∀ a, H a = none → ts a cls d { nx := fun σ' H' => H' a = none → D.nx (σ'.set i none) (upd H' a (ExC cls a)), rt := fun v H' => H' a = none → D.rt v (upd H' a (ExC cls a)), bk := fun σ' H' => H' a = none → D.bk (σ'.set i none) (upd H' a (ExC cls a)), ct := fun σ' H' => H' a = none → D.ct (σ'.set i none) (upd H' a (ExC cls a)) } (σ.set i (some (.ref a))) H) ∧
    (b = false → Wout cls d σ H)
section
variable {X : Cx} {x n : Str} {c : Value} {i : Nat} {body suite : List Stmt} {b₀ : Stmt} {np pos pos' : Pos} {tb : L2.WX → TS} {ts : Addr → Value → Option Addr → TS} {Wout : L2.WX}
theorem ps_try_keep (hx : X.ex = []) (hs : X.stack = X.env :: X.outer) (hf : X.env.frame = some X.env.locals) (hN : X.N.Nodup) (hi : X.N[i]? = some n) (hln : X.env.kindOf n = some .local) (hc : Names X x c) (tk : Takes X Wout)
    (hb : ∀ (W : L2.WX) (pn : List (Addr × Obj)) (xe : Value → Shared → Prop), Takes (X.tr pn xe) W → PassesOwn (model X.prog X.w) X.A X.env xe → PSs (X.tr pn xe) body (tb W))
    (hsu : ∀ (a : Addr) (oe : Obj) (cls : Value) (d : Option Addr) (pn : List (Addr × Obj)), Zc cls d oe → (∃ vs, oe.data = .fields vs) → PSs (X.suite a ((a, oe) :: pn)) (b₀ :: suite) (ts a cls d)) :
    PS X (.Try body [.ExceptHandler (some (.Name x np)) (some n) (b₀ :: suite) pos'] [] [] pos) (fun D σ H => tb (wKeep X.K c i ts Wout D) D σ H) := by
  refine ⟨fun pins s σ H D I h => ?_⟩
  have ok := I.ok
  have hfr : X.A.frames = some (X.env :: X.outer) := by rw [ok.frames, hs]
  have hloc : Loc X.env.scope n := .inl hln
  refine wpAny_Try_except ?_
  refine wpAny_mono ((hb (wKeep X.K c i ts Wout D) (X.pn ++ pins) (fun e s₁ => wpAny (model X.prog X.w) X.A (noteFrame e X.env) (fun _ s₂ => wpAny (model X.prog X.w) X.A (setFlight e none) (fun _ s₃ =>
    wpAny (model X.prog X.w) X.A (handleBy e X.env [.ExceptHandler (some (.Name x np)) (some n) (b₀ :: suite) pos']) (SP X pins D) X.xe s₃) X.xe s₂) X.xe s₁) (fun u s' xx => ?_) PassesOwn.looking).run [] s σ H D (I.toTry _) h) (fun f s1 hsp => ?_) (fun e s1 he => he)
  · -- the catch
    obtain ⟨a, B, sI, pins', σ', H', cls, d, rfl, J', nb, up, sky, na, os, ag, b, hb1, hyes, hno⟩ := xx
    have J : Inv X pins σ' H' sI := J'.ofTry ok
    have sky' : Sky B (X.env :: X.outer) a (Zc cls d) X.env.locals s'.heap := by rw [← hs]; exact sky
    show wpAny (model X.prog X.w) X.A (noteFrame (.ref a) X.env) _ _ _
    refine Sky.land Zc.steady hfr hf sky' fun h3 fl3 up3 => ?_
    have J3 : Inv X pins σ' H' { s' with heap := h3 } := J.landed nb fl3.1 (up.trans up3) os ag
    obtain ⟨oe3, vs3, he3, hz3, hd3⟩ := fl3.there
    have notFr : ∀ {h : Heap} {o : Obj} {vs : Array Value}, h.FunFrames B (X.env :: X.outer) → h.get? a = some o → o.data = .fields vs → a ∉ frs (X.env :: X.outer) := fun {h o vs} ff e dd hm => by
      obtain ⟨_, o', e', hnf⟩ := ff.mem hm
      rw [e] at e'; cases e'
      exact hnf _ dd
    have nfr := notFr fl3.2.2.1 he3 hd3
    have nI : sI.heap.get? a = none := by
      cases q : sI.heap.get? a with
      | none => rfl
      | some o =>
        have z := nb a o q (by rw [hs]; exact nfr)
        rw [fl3.2.1] at z
        cases z
    have n0 : X.s_0.heap.get? a = none := by
      cases q : X.s_0.heap.get? a with
      | none => rfl
      | some o =>
        obtain ⟨o', z⟩ := J.base.there a o q (by rw [hx]; exact fun z => nomatch z)
        rw [nI] at z
        cases z
    have npn : ∀ p ∈ X.pn ++ pins, p.1 ≠ a := fun p hp e => by
      have z := (J.pin p hp).1
      rw [e, nI] at z
      cases z
    have nL : a ≠ X.env.locals := fun z => nfr (List.mem_filterMap.mpr ⟨X.env, List.mem_cons_self, by rw [hf, z]⟩)
    have nF : a ∉ X.fs := fun hm => by
      obtain ⟨e, he, q⟩ := List.mem_filterMap.mp hm
      exact nfr (List.mem_filterMap.mpr ⟨e, List.mem_cons_of_mem _ he, q⟩)
    have S3 := J3.suite he3 hd3 na nL nF
    refine wpAny_handleBy_cons (codeAny_handlers_test ?_) (by intro q; cases q)
    have LT : PySem.W.Looks (model X.prog X.w) h3 (typeOf (.ref a)) cls := fun A Q E s k q => wpAny_typeOf_ref (k _ _ he3) (by rw [hz3.1]; exact q)
    have LM := PySem.W.exm_one (M := model X.prog X.w) (J3.kIn) LT hb1
    have test : ∀ {Q : Value → Shared → Prop} {E : Value → Shared → Prop}, Q c { s' with heap := h3 } → wpAny (model X.prog X.w) (X.A.mark (some (.ref a))) (eval (.Name x np) X.env) Q E { s' with heap := h3 } := fun {Q E} q => by
      obtain ⟨hg, hdbg, hm | ⟨hm, hv, hnn⟩⟩ := hc
      · exact ld_glob (X := X.suite a ((a, oe3) :: (X.pn ++ pins))) S3 hg hm q hdbg
      · exact ld_blt (X := X.suite a ((a, oe3) :: (X.pn ++ pins))) S3 hg hm hv q hnn hdbg
    refine test (LM.here ?_)
    cases b with
    | true =>
      obtain ⟨hdn, hyes⟩ := hyes rfl
      subst hdn
      refine codeAny_handlers_suite_as ?_
      refine HandSPX.lands_againZ fl3 fun h4 fl4 up4 => ?_
      have J4 : Inv X pins σ' H' { s' with heap := h4 } := J.landed nb fl4.1 ((up.trans up3).trans up4) os ag
      obtain ⟨oe4, vs4, he4, hz4, hd4⟩ := fl4.there
      have S4 := J4.suite he4 hd4 na nL nF
      refine store_ok (X := X.suite a ((a, oe4) :: (X.pn ++ pins))) (v := .ref a) S4 hN hi hloc rfl (fun s5 S5 => ?_) (.inr hln)
      refine wpAny_mono ((hsu a oe4 cls none (X.pn ++ pins) hz4 ⟨_, hd4⟩).run [] s5 _ H' _ S5 (hyes a na)) (fun f s6 hsp => ?_) (fun _ _ z => False.elim z)
      have free6 : ∀ {σ6 : L2.St} {H6 : Hp}, Inv (X.suite a ((a, oe4) :: (X.pn ++ pins))) [] σ6 H6 s6 → H6 a = none := fun {σ6 H6} S6 => (S6.pin (a, oe4) (List.mem_append_left _ List.mem_cons_self)).2.1
      have end_ : ∀ {σ6 : L2.St} {H6 : Hp} {Q : Shared → Prop}, Inv (X.suite a ((a, oe4) :: (X.pn ++ pins))) [] σ6 H6 s6 → (∀ s7, Inv X pins (σ6.set i none) (upd H6 a (ExC cls a)) s7 → Q s7) →
          wpAny (model X.prog X.w) X.A (do bindName X.env n .none; unbindBehindTheSuite X.env n pos') (fun _ s7 => Q s7) X.xe s6 := fun {σ6 H6 Q} S6 hq =>
        gone_ok (trackE (S6.unsuite ok) (S6.pin (a, oe4) (List.mem_append_left _ List.mem_cons_self)).1 hz4 ⟨_, hd4⟩ (free6 S6) nL n0 npn) hN hi hln hq
      cases f with
      | next =>
        obtain ⟨σ6, H6, S6, q6⟩ := hsp
        exact end_ S6 fun s7 J7 => ⟨_, _, J7, q6 (free6 S6)⟩
      | brk =>
        obtain ⟨σ6, H6, S6, q6⟩ := hsp
        exact end_ S6 fun s7 J7 => ⟨_, _, J7, q6 (free6 S6)⟩
      | cont =>
        obtain ⟨σ6, H6, S6, q6⟩ := hsp
        exact end_ S6 fun s7 J7 => ⟨_, _, J7, q6 (free6 S6)⟩
      | ret u =>
        obtain ⟨v6, σ6, H6, S6, r6, q6⟩ := hsp
        exact end_ S6 fun s7 J7 => ⟨_, _, _, J7, r6, q6 (free6 S6)⟩
    | false =>
      show wpAny _ X.A (handleBy (.ref a) X.env []) _ _ _
      refine wpAny_handleBy_nil ?_
      obtain ⟨k1, k2, k3, oe, vs, T, oT, ts', he, hz, hd, h1, hr⟩ := id fl3
      unfold PySem.passOn
      refine wpAny_bind (wpAny_field he hd h1 ?_)
      rw [if_neg (show ¬ ((Value.ref T == Value.none) = true) from by simp)]
      have fin : wpAny (model X.prog X.w) X.A (setFlight (.ref a) X.env.frame) (fun _ s4 => wpAny (model X.prog X.w) X.A (throw (.ref a) : Sem Flow) (SP X pins D) X.xe s4) X.xe { s' with heap := h3 } := by
        rw [hf]
        refine HandSPX.setFlight_upZ fl3 fun h4 hh4 up4 => wpAny_throw (tk _ _ ?_)
        exact ⟨a, B, sI, pins, σ', H', cls, d, rfl, J, nb, (up.trans up3).trans up4, .inr (.inr (by rw [hs]; exact hh4)), na, os, ag, hno rfl⟩
      first
        | exact wpAny_bind (wpAny_pure (wpAny_bind fin))
        | exact wpAny_bind fin
  · cases f with
    | next =>
      obtain ⟨σ', H', J', q⟩ := hsp
      exact wpAny_execs_nil ⟨σ', H', J'.ofTry ok, q⟩
    | brk =>
      obtain ⟨σ', H', J', q⟩ := hsp
      exact ⟨σ', H', J'.ofTry ok, q⟩
    | cont =>
      obtain ⟨σ', H', J', q⟩ := hsp
      exact ⟨σ', H', J'.ofTry ok, q⟩
    | ret u =>
      obtain ⟨v, σ', H', J', r, q⟩ := hsp
      exact ⟨v, σ', H', J'.ofTry ok, r, q⟩
end
/-- what the class C must say, so that isinstance asks its instances rightly -/
structure XOk (K : PySem.W.Frag) (C : Addr) : Prop where
  c : ExcC K C
  f : ∀ T ∈ (["str", "int", "bool", "list", "tuple", "dict"] : List String), PySem.W.kitOne K (.ref C) (.type T) = some false
theorem exC_inst {P : Program} {w : World} {H : Hp} {h : Heap} {a C : Addr} (ok : HOk P w H h) (r : Rd H a (ExC (.ref C) a)) : ∃ oe, PySem.W.InstAt h a oe C none := by
  obtain ⟨⟨oe, e, z, vs, hv⟩, _⟩ := rd_of ok r
  obtain ⟨oc, od, oda, osl⟩ := oe
  obtain ⟨h1, h2⟩ := z
  dsimp only at h1 h2 hv
  subst h1 h2 hv
  exact ⟨_, e, rfl, rfl, trivial⟩
end EV
end
section
set_option Elab.async false
set_option linter.all false
set_option maxRecDepth 100000
set_option maxHeartbeats 2000000
set_option autoImplicit true
/-! EvF: a def's promise, where no repr runs around it; its call; a law's end (after the hand layer's own, with one fact more) -/
namespace EV
open PySem PySem.Spec PyProof.Rows L2
structure FnG (P : Program) (w : World) (K : PySem.W.Frag) (mg : Str → Option Value) (base : Heap) (CX : CXT) (k : Nat) (f : Addr) (fd : FuncData) (ps : List Str) (sp : Sp) : Prop where
  len : ∀ vs H Q E, sp vs H Q E → vs.length = ps.length
  run : ∀ (A : Around) (out : List PySem.Env) (s : Shared) (H : Hp) (args : Args) (us : List Value) (vs : List V) (Q : VK) (E : XK), Room k A → A.guards = some [] → Env0 P w K mg base A out s H → BindsTo s fd args (ps.zip us) → Vals vs us → sp vs H Q E →
    codeAny (model P w) A (.call (.ref f) args) (CR CX out P w H s Q E) s
section
variable {X : Cx} {CX : CXT} {k : Nat} {f : Addr} {fd : FuncData} {ps : List Str} {sp : Sp} {E : L2.St → XK} {x : Str} {p pos : Pos} {e : Expr} {es : List Expr} {t : TA}
theorem run_fnG {pn : List (Addr × Obj)} {ss : L2.St} {H : Hp} {s : Shared} {Q : VK} {us : List Value} {vs : List V} (F : FnG X.prog X.w X.K X.mg X.base CX k f fd ps sp) (hr : Room k X.A) (hgd : X.A.guards = some []) (hb : Binds X.K fd ps []) (hx : PassesAt CX X ss (E ss))
    (I : Inv X pn ss H s) (r : Vals vs us) (h : sp vs H Q (E ss)) : wpAny (model X.prog X.w) X.A (call (.ref f) us) (EP X pn ss Q) X.xe s := by
  have ln : us.length = ps.length := by rw [← r.length]; exact F.len _ _ _ _ h
  have bd := hb s us I.kIn (by rw [List.append_nil]; exact ln)
  rw [List.append_nil] at bd
  refine wpAny_call (codeAny_mono (F.run X.A X.stack s H ⟨us, []⟩ us vs Q (E ss) hr hgd I.env0 bd r h) fun rr s2 hQq => ?_)
  cases rr with
  | error ex => exact hx pn H s ex s2 I hQq
  | ok fl =>
    cases fl with
    | ret u => exact I.after hQq
    | _ => exact hQq.elim
def tCallG (sp : Sp) (E : L2.St → XK) (t : TA) : TE := fun ss H Q => t ss H fun vs H1 => sp vs H1 Q (E ss)
theorem pe_callG (F : FnG X.prog X.w X.K X.mg X.base CX k f fd ps sp) (hr : Room k X.A) (hgd : X.A.guards = some []) (hg : Gl X x) (hm : X.mg x = some (.ref f)) (hk : PySem.W.keepIn X.K (.ref f) = true) (hb : Binds X.K fd ps []) (hx : ∀ ss, PassesAt CX X ss (E ss))
    (ha : PA X (e :: es) t) (hdb : (x == ("__debug__" : Str)) = false) (he : starEach (e :: es) X.env = (false, eval e X.env) :: starEach es X.env) (hpl : (backTo pos (starEach es X.env)).any (·.1) = false) :
    PE X (.Call (.Name x p) (e :: es) [] pos) (tCallG sp E t) := by
  refine ⟨fun pn s ss H Q I h => wpAny_Call_Name_kw (ld_glob I hg hm ?_ hdb)⟩
  exact PySem.W.callWith_K (h₀ := X.base) I.ok.mod.kin hk (thn (ha.run pos pn s ss H _ I h) fun us s2 ⟨vs, H2, I2, r, q⟩ => ⟨I2.kIn, run_fnG F hr hgd hb (hx ss) I2 r q⟩) he hpl
theorem pe_callG0 (F : FnG X.prog X.w X.K X.mg X.base CX k f fd ps sp) (hr : Room k X.A) (hgd : X.A.guards = some []) (hg : Gl X x) (hm : X.mg x = some (.ref f)) (hk : PySem.W.keepIn X.K (.ref f) = true) (hb : Binds X.K fd ps []) (hx : ∀ ss, PassesAt CX X ss (E ss))
    (hdb : (x == ("__debug__" : Str)) = false) : PE X (.Call (.Name x p) [] [] pos) (tCallG sp E tNil) := by
  refine ⟨fun pn s ss H Q I h => wpAny_Call_Name_kw (ld_glob I hg hm ?_ hdb)⟩
  exact PySem.W.callWith_K0 I.kIn hk (run_fnG (us := []) F hr hgd hb (hx ss) I .nil h)
end
/-- a def's promise by its body, which runs at once behind the call -/
theorem FnG.mk' {P : Program} {w : World} {K : PySem.W.Frag} {mg : Str → Option Value} {base : Heap} {CX : CXT} {k : Nat} {f : Addr} {fd : FuncData} {x q : Str} {st : Stmt} {N ps : List Str} {sp : Sp}
    (F : Fun K x q st f fd) (S : FnScope N ps (defScope st)) (len : ∀ vs H Q E, sp vs H Q E → vs.length = ps.length)
    (body : ∀ (cd : Value) (A : Around) (out : List PySem.Env) (s : Shared) (H : Hp) (vs : List V) (Q : VK) (E : XK), Room k (A.deeper (envOfC q (defScope st) s.heap.objs.size f cd)) → A.guards = some [] → sp vs H Q E →
      ∃ t, PSs (cxOf CX P w K mg base N q (defScope st) f cd A out s H E) (defBody st) t ∧ t { nx := fun _ H2 => Q .non H2, rt := Q } (start N vs) H) :
    FnG P w K mg base CX (k + 1) f fd ps sp := by
  obtain ⟨oc, od, kV, doc, pm, an, cd, ct, osl, rfl, lk, hcd⟩ := F.ex
  refine ⟨len, fun A out s H args us vs Q E room gd en bd rel pr => ?_⟩
  have inK : K.In s.heap := en.mod.kin.keeps fun b o e => (en.bs b o e).1
  have par : ∀ y ∈ ps.zip us, (defScope st).names.lookup y.1 = some .local ∨ ((defScope st).names.lookup y.1 = some .cell ∧ ((cellsFrom (s.heap.objs.size + 1) (defScope st).names []).lookup y.1).isSome = true) := by
    intro y hy
    have m : y.1 ∈ ps := (List.of_mem_zip (show (y.1, y.2) ∈ ps.zip us from hy)).1
    exact (S.par _ m).imp id fun c => ⟨c, PySem.W.cellsFrom_some _ _ _ (.inl c)⟩
  refine codeAny_call_function room.depth (inK _ _ lk) rfl S.co S.gen rfl (PySem.W.codeRec_of inK hcd) (bd _ _ _ _ (wpAny_newFunctionEnv_cells S.kind par fun env he s2 cl => ?_))
  subst he
  refine ⟨(en.mod.nolimit.keeps fun b o e => (en.bs b o e).1).keeps cl.toInCall.keep, codeAny_func ?_⟩
  obtain ⟨t, pt, rd⟩ := body cd A out s H vs Q E (room.deeper _) gd pr
  refine wpAny_mono (pt.run [] s2 (start N vs) H _ (inv_start S room.hd en (len _ _ _ _ pr) rel cl) rd) (fun fl s3 z => ?_) fun _ _ z => z
  match fl, z with
  | .ret _, ⟨v, _, H3, J, rv, z⟩ => exact ⟨v, H3, J.os, J.bare, J.base, J.hok, rv, z⟩
  | .next, ⟨_, H3, J, z⟩ => exact ⟨.non, H3, J.os, J.bare, J.base, J.hok, rfl, z⟩
  | .brk, ⟨_, _, _, z⟩ => exact z.elim
  | .cont, ⟨_, _, _, z⟩ => exact z.elim
/-- the heap that is known at the law's start: the script, where the written part has it not -/
def H00 (K : PySem.W.Frag) (a : Addr) (vs : List Value) (ns : List Int) : Hp := fun b => if b = a ∧ K.lookup a = none then some (.frz { cls := .type "list", data := .seq vs.toArray } (.lst (ns.map V.int))) else none
theorem H00_some {K : PySem.W.Frag} {a b : Addr} {vs : List Value} {ns : List Int} {u : HO} (h : H00 K a vs ns b = some u) : b = a ∧ K.lookup a = none ∧ u = .frz { cls := .type "list", data := .seq vs.toArray } (.lst (ns.map V.int)) := by
  unfold H00 at h
  split at h
  · rename_i c
    exact ⟨c.1, c.2, (Option.some.inj h).symm⟩
  · cases h
theorem H00_none {K : PySem.W.Frag} {a b : Addr} {vs : List Value} {ns : List Int} (h : b = a → K.lookup a ≠ none) : H00 K a vs ns b = none := if_neg fun c => h c.1 c.2
/-- the law's call -/
theorem law_callG {P : Program} {w : World} {K : PySem.W.Frag} {mg mb : Str → Option Value} {CX : CXT} {k : Nat} {fa a : Addr} {fd : FuncData} {x : Str} {sp : Sp} {s : Shared} {vs : List Value} {ns : List Int}
    (inK : K.In s.heap) (gl : s.heap.Ns mainGlobals mg) (bl : s.heap.Ns builtinsNs mb) (bb : ∀ x : Str, x ≠ "__name__" → mb x = bootBuiltins x) (lm : s.heap.NoLimit) (gn : s.gens = #[])
    (at' : s.heap.get? a = some { cls := .type "list", data := .seq vs.toArray }) (are : IntsAre vs ns) (few : ns.length ≤ sizeLine) (room : Room k callerA)
    (F : ∀ base : Heap, K.In base → base.Ns mainGlobals mg → FnG P w K mg base CX k fa fd [x] sp) (bd : ∀ (s : Shared) (u : Value), BindsTo s fd ⟨[u], []⟩ [(x, u)])
    (prS : ∀ H : Hp, SqL K H a (ns.map V.int) → sp [.ref a] H (fun v _ => v = .bl true) fun _ _ _ => False)
    (no : ∀ e s', CX [] (H00 K a vs ns) s (fun _ _ _ => False) e s' → False) :
    codeAny (model P w) callerA (.call (.ref fa) ⟨[.ref a], []⟩) (fun r s' => r = .ok (.ret (.bool true)) ∧ OldK s.heap s'.heap ∧ s'.os = s.os ∧ AllBare s'.gens) s := by
  have rel := vals_ints are
  have ok : HOk P w (H00 K a vs ns) s.heap := fun b u h => by
    obtain ⟨rfl, _, rfl⟩ := H00_some h
    exact ⟨at', by rw [List.length_map]; exact few, vs, _, rel, at'⟩
  have sq : SqL K (H00 K a vs ns) a (ns.map V.int) := by
    cases hk : K.lookup a with
    | none => exact .inl (.inr ⟨_, if_pos ⟨rfl, hk⟩⟩)
    | some o =>
      have e := inK a o hk
      rw [at'] at e
      cases e
      exact .inr ⟨_, vs.toArray, _, hk, rfl, rfl, rfl, by rw [List.size_toArray, are.length]; exact few, rel⟩
  have pr := prS _ sq
  have seen : ∀ b o, s.heap.get? b = some o → (b = a → K.lookup a ≠ none) → (hidT s.heap (H00 K a vs ns)).get? b = some o := fun b o e n => hidT_get e (H00_none n)
  have notA : ∀ b o es ep, s.heap.get? b = some o → o.data = .dict es ep → b ≠ a := fun b o es ep e d z => by
    subst z
    rw [at'] at e
    cases e
    exact nomatch (show Data.seq vs.toArray _ = Data.dict es ep from d)
  have names : ∀ b m, s.heap.Ns b m → (hidT s.heap (H00 K a vs ns)).Ns b m := fun b m ⟨o, es, ep, e, d, r⟩ => ⟨o, es, ep, seen b o e fun z => absurd z (notA b o es ep e d), d, r⟩
  have inB : K.In (hidT s.heap (H00 K a vs ns)) := fun b o e => seen b o (inK b o e) fun z c => by rw [← z, e] at c; cases c
  have en : Env0 P w K mg (hidT s.heap (H00 K a vs ns)) callerA [] s (H00 K a vs ns) :=
    { frames := rfl, mod := ⟨inB, names _ _ gl, ⟨mb, names _ _ bl, bb⟩, let ⟨mc, c1, c2⟩ := lm; ⟨mc, names _ _ c1, c2⟩⟩, bs := fun b o e => of_hidT e, bsz := Nat.le_of_eq (hidT_size _ _), funs := trivial
      frf := fun b hb => absurd (show b ∈ ([] : List Addr) from hb) List.not_mem_nil, hok := ok, bare := .of_eq gn }
  refine codeAny_mono ((F _ inB (names _ _ gl)).run callerA [] s _ ⟨[.ref a], []⟩ [.ref a] [.ref a] _ _ room rfl en (bd s (.ref a)) (.cons rfl .nil) pr) fun r s2 z => ?_
  match r, z with
  | .error e, z => exact (no e s2 z).elim
  | .ok .next, z => exact z.elim
  | .ok .brk, z => exact z.elim
  | .ok .cont, z => exact z.elim
  | .ok (.ret u), ⟨v, H2, os, bare, un, ok2, rv, (z : v = .bl true)⟩ =>
    subst z
    obtain rfl : u = Value.bool true := rv
    refine ⟨rfl, OldK.of_keep fun b o e => ?_, os, bare⟩
    cases q : H00 K a vs ns b with
    | none => exact un.keep b o e q List.not_mem_nil List.not_mem_nil
    | some u =>
      obtain ⟨rfl, _, rfl⟩ := H00_some q
      have e1 := (ok b _ q).1
      rw [e] at e1
      cases e1
      exact (ok2 b _ (un.frzs b _ _ q)).1
theorem walk_ofG {l : PySem.W.OpenLaw} {n k : Nat} {q : Program} {loose : List Str} {XP : (Str → Option Value) → Heap → Prop} {YP : World → Heap → Prop} {d : DefRec} {K : Params → PySem.W.Frag} {CX : World → CXT} {sp : World → Sp} {x : Str}
    (most : l.most = some n) (few : n ≤ sizeLine) (nod : d.params.defaults = []) (room : Room k callerA) (inK : ∀ (w : World) (h : Heap), YP w h → (K w.params).In h)
    (F : ∀ (w : World) (mg : Str → Option Value) (fa : Addr) (h : Heap), (K w.params).In h → h.Ns mainGlobals mg → mg d.name = some (.ref fa) →
      ∃ fd : FuncData, (∀ (s : Shared) (u : Value), BindsTo s fd ⟨[u], []⟩ [(x, u)]) ∧ ∀ base : Heap, (K w.params).In base → base.Ns mainGlobals mg → FnG l.prog w (K w.params) mg base (CX w) k fa fd [x] (sp w))
    (pr : ∀ (w : World) (H : Hp) (a : Addr) (ns : List Int), ns.length ≤ n → SqL (K w.params) H a (ns.map V.int) → sp w [.ref a] H (fun v _ => v = .bl true) fun _ _ _ => False)
    (no : ∀ (w : World) (H : Hp) (s : Shared) (e : Value) (s' : Shared), CX w [] H s (fun _ _ _ => False) e s' → False) :
    PySem.W.WalkO q loose XP YP l.row.toRowW d [] (fun f vs => PySem.call f vs) :=
  Att.attach_call most nod fun w s0 s mg mb fa o pm cd doc a vs ns G Y ho hd hcd hmg at' are len gn => by
    obtain ⟨fd, bd, ok⟩ := F w mg fa _ (inK w _ Y) G.T.g hmg
    exact law_callG (inK w _ Y) G.T.g G.T.b G.T.builtins G.T.nolimit gn at' are (Nat.le_trans len few) room ok bd (fun H z => pr w H a ns len z) fun e s' => no w _ s e s'
end EV
end
section
set_option Elab.async false
set_option linter.all false
set_option maxRecDepth 100000
set_option autoImplicit true
set_option maxHeartbeats 4000000
/-! GA: a core of Python over trees of data (PyData): own trees with shapes, things shared, things looked at; its terms, what they come to -/
namespace EV
open PySem PySem.Spec PyProof.Rows L2

abbrev D := PyData
inductive Ty where
  | str | int | bool | list | tuple | dict

/-! ### data -/
def keyD : Key → D
  | .inl i => .int i
  | .inr x => .str x
def lim : Nat := 1000000
def bigB : Nat := 2 ^ 400000
def notDict : D → Bool
  | .dict _ => false
  | _ => true
def plainD (x : D) : Bool := x.plain && decide (x.depth ≤ 64)
def nth {α : Type} (xs : List α) (i : Int) : Option α := atI xs i
def cut {α : Type} (xs : List α) (lo hi : Option Int) : List α := (xs.drop (HT.sIx xs.length 0 lo)).take (HT.sIx xs.length xs.length hi - HT.sIx xs.length 0 lo)
def part? : D → Option (Option Int)
  | .none => some none
  | .int i => some (some i)
  | _ => none
def isC : D → Bool
  | .list _ => true
  | .dict _ => true
  | _ => false
def truth : D → Option Bool
  | .none => some false
  | .bool b => some b
  | .int i => some (i != 0)
  | .str x => if x.length ≤ lim then some (x.length != 0) else none
  | .list xs => some (!xs.isEmpty)
  | .tuple xs => some (!xs.isEmpty)
  | .dict _ => none
/-- an exception, by its class's name -/
def exD (n : Str) : D := .dict [(.none, .str n)]
def isX : List (D × D) → Bool
  | (.none, _) :: _ => true
  | _ => false
mutual
def noX : D → Bool
  | .list xs => noXs xs
  | .tuple xs => noXs xs
  | .dict kvs => !isX kvs && noXv kvs
  | _ => true
def noXs : List D → Bool
  | [] => true
  | x :: r => noX x && noXs r
def noXv : List (D × D) → Bool
  | [] => true
  | p :: r => noX p.2 && noXv r
end
def isTy : Ty → D → Bool
  | .str, .str _ => true
  | .int, .int _ => true
  | .int, .bool _ => true
  | .bool, .bool _ => true
  | .list, .list _ => true
  | .tuple, .tuple _ => true
  | .dict, .dict kvs => !isX kvs
  | _, _ => false
def bools? : List D → Option (List Bool)
  | [] => some []
  | .bool b :: r => (bools? r).map (b :: ·)
  | _ => none
def inD (x : D) (xs : List D) : Bool := xs.any fun y => PyData.eqv y x
def occIn (a b : Str) : Bool := !(Builtin.Str.occurrences b a 0 b.length 1).isEmpty
/-! ### dicts: keys are ints, texts, tuples of such -/
def dIx : List (D × D) → D → Option Nat
  | [], _ => none
  | p :: r, k => if PyData.eqv p.1 k then some 0 else (dIx r k).map (· + 1)
def dGet (kvs : List (D × D)) (k : D) : Option D := (dIx kvs k).bind fun i => (kvs[i]?).map (·.2)
def dPut (kvs : List (D × D)) (k v : D) : List (D × D) := match dIx kvs k with
  | some i => kvs.modify i fun p => (p.1, v)
  | none => kvs ++ [(k, v)]
def dDel (kvs : List (D × D)) (k : D) : List (D × D) := match dIx kvs k with
  | some i => kvs.eraseIdx i
  | none => kvs
def isK : D → Bool
  | .int _ => true
  | .str _ => true
  | _ => false
def isTK : D → Bool
  | .tuple [x, y] => isK x && isK y
  | _ => false
/-- a key that such a dict may be asked for -/
def keyOk (kvs : List (D × D)) (k : D) : Bool := (isK k && kvs.all fun p => isK p.1) || (isTK k && kvs.all fun p => isTK p.1)
def fAdd : List D → Option D
  | [.int i, .int j] => some (.int (i + j))
  | [.str a, .str b] => if a.length + b.length ≤ lim then some (.str (a ++ b)) else none
  | [.list a, .list b] => if a.length + b.length ≤ lim then some (.list (a ++ b)) else none
  | [.tuple a, .tuple b] => if a.length + b.length ≤ lim ∧ (a = [] → b.length ≠ 2) ∧ (b = [] → a.length ≠ 2) then some (.tuple (a ++ b)) else none
  | _ => none
def fSub : List D → Option D
  | [.int i, .int j] => some (.int (i - j))
  | _ => none
def repS (a : Str) (n : Nat) : Str := ⟨(List.replicate n a.cps.toList).flatten.toArray⟩
def fMul : List D → Option D
  | [.int i, .int j] => if i.natAbs < bigB ∧ j.natAbs < bigB then some (.int (i * j)) else none
  | [.str a, .int j] => if 0 ≤ j ∧ j < 2 ^ 30 ∧ a.length * j.toNat ≤ lim then some (.str (repS a j.toNat)) else none
  | _ => none
def fDiv : List D → Option D
  | [.int i, .int j] => if 0 < j ∧ j < 1073741824 then some (.int (i / j)) else none
  | _ => none
def fMod : List D → Option D
  | [.int i, .int j] => if 0 < j then some (.int (i % j)) else none
  | _ => none
def fPow : List D → Option D
  | [.int i, .int j] => if 0 ≤ j ∧ (Builtin.Int.intBits i : Int) * j ≤ 2 ^ 27 then some (.int (i ^ j.toNat)) else none
  | _ => none
def fNeg : List D → Option D
  | [.int i] => some (.int (-i))
  | _ => none
/-- a list beside [], whatever is in it -/
def isNil : D → D → Option D
  | .list xs, .list [] => some (.bool xs.isEmpty)
  | _, _ => none
def notNil : D → D → Option D
  | .list xs, .list [] => some (.bool (!xs.isEmpty))
  | _, _ => none
def fEq : List D → Option D
  | [a, b] => if plainD a && plainD b then some (.bool (PyData.eqv a b)) else isNil a b
  | _ => none
def fNe : List D → Option D
  | [a, b] => if plainD a && plainD b then some (.bool (!PyData.eqv a b)) else notNil a b
  | _ => none
def fLt : List D → Option D
  | [.int i, .int j] => some (.bool (decide (i < j)))
  | _ => none
def fLe : List D → Option D
  | [.int i, .int j] => some (.bool (decide (i ≤ j)))
  | _ => none
def fGt : List D → Option D
  | [.int i, .int j] => some (.bool (decide (j < i)))
  | _ => none
def fGe : List D → Option D
  | [.int i, .int j] => some (.bool (decide (j ≤ i)))
  | _ => none
def isNon : D → Bool
  | .none => true
  | _ => false
def fIs : List D → Option D
  | [x, .none] => some (.bool (isNon x))
  | [.bool a, .bool b] => some (.bool (decide (a = b)))
  | _ => none
def fIsnt : List D → Option D
  | [x, .none] => some (.bool (!isNon x))
  | [.bool a, .bool b] => some (.bool (!decide (a = b)))
  | _ => none
def isTupD : D → Bool
  | .tuple _ => true
  | _ => false
/-- a dict is none of tuples -/
def dictNo : D → List D → Option D
  | .dict kvs, ys => if !isX kvs && ys.all isTupD then some (.bool false) else none
  | _, _ => none
def fIn : List D → Option D
  | [.str a, .str b] => some (.bool (occIn a b))
  | [x, .list ys] => if plainD x && ys.all plainD then some (.bool (inD x ys)) else dictNo x ys
  | [x, .tuple ys] => if plainD x && ys.all plainD then some (.bool (inD x ys)) else none
  | [k, .dict kvs] => if !isX kvs && keyOk kvs k then some (.bool (dIx kvs k).isSome) else none
  | _ => none
def fNotin : List D → Option D
  | [.str a, .str b] => some (.bool (!occIn a b))
  | [x, .list ys] => if plainD x && ys.all plainD then some (.bool (!inD x ys)) else none
  | [x, .tuple ys] => if plainD x && ys.all plainD then some (.bool (!inD x ys)) else none
  | [k, .dict kvs] => if !isX kvs && keyOk kvs k then some (.bool (!(dIx kvs k).isSome)) else none
  | _ => none
def fIdx : List D → Option D
  | [.list xs, .int i] => nth xs i
  | [.tuple xs, .int i] => nth xs i
  | [.str z, .int i] => if z.length ≤ lim then (atI z.cps.toList i).map fun c => .str ⟨#[c]⟩ else none
  | [.dict kvs, k] => if !isX kvs && keyOk kvs k then dGet kvs k else none
  | _ => none
def fSlice : List D → Option D
  | [.list xs, lo, hi] => match part? lo, part? hi with
    | some l, some h => some (.list (cut xs l h))
    | _, _ => none
  | [.str z, lo, hi] => match part? lo, part? hi with
    | some l, some h => if z.length ≤ lim then some (.str (cutS z l h)) else none
    | _, _ => none
  | [.tuple xs, lo, hi] => match part? lo, part? hi with
    | some l, some h => if xs.length ≠ 2 ∨ (cut xs l h).length < 2 then some (.tuple (cut xs l h)) else none
    | _, _ => none
  | _ => none
def fLen : List D → Option D
  | [.list xs] => some (.int xs.length)
  | [.tuple xs] => some (.int xs.length)
  | [.str z] => if z.length ≤ lim then some (.int z.length) else none
  | _ => none
def fIsinst (t : Ty) : List D → Option D
  | [x] => some (.bool (isTy t x))
  | _ => none
def fIsLT : List D → Option D
  | [x] => some (.bool (isTy .list x || isTy .tuple x))
  | _ => none
def fAll : List D → Option D
  | [.list xs] => match bools? xs with
    | some bs => some (.bool (bs.all id))
    | none => none
  | _ => none
def fAny : List D → Option D
  | [.list xs] => match bools? xs with
    | some bs => some (.bool (bs.any id))
    | none => none
  | _ => none
def fAbs : List D → Option D
  | [.int i] => some (.int (if i < 0 then -i else i))
  | _ => none
def fMax2 : List D → Option D
  | [.int i, .int j] => some (.int (if j > i then j else i))
  | _ => none
def fMin2 : List D → Option D
  | [.int i, .int j] => some (.int (if j < i then j else i))
  | _ => none
def showB (b : Bool) : Str := if b then "True" else "False"
def fRepr : List D → Option D
  | [x] => if x.showable && decide (x.depth ≤ 64) && decide (x.shown.length ≤ lim) && noX x then some (.str x.shown) else none
  | _ => none
def fStrip : List D → Option D
  | [.str a, .str b] => if a.length ≤ lim then some (.str (Txt.stripChars a b)) else none
  | _ => none
def fOfList : List D → Option D
  | [.list xs] => some (.list xs)
  | [.tuple xs] => some (.list xs)
  | _ => none
def fOfTuple : List D → Option D
  | [.list xs] => some (.tuple xs)
  | _ => none
/-- how many of the first i are unlike those ahead of them -/
def cntS (xs : List Str) : Nat → Nat
  | 0 => 0
  | i + 1 => if (xs.take i).any (· == xs.getD i Str.empty) then cntS xs i else cntS xs i + 1
def strs? : List D → Option (List Str)
  | [] => some []
  | .str x :: r => (strs? r).map (x :: ·)
  | _ => none
def fSetlen : List D → Option D
  | [.list ys] => match strs? ys with
    | some xs => if xs.length < 4000 then some (.int (cntS xs xs.length)) else none
    | none => none
  | _ => none
def bigT : D → Bool
  | .tuple (_ :: _) => true
  | _ => false
def noT : D → Bool
  | .tuple _ => false
  | .none => false
  | _ => true
def sortOk (ys : List D) : Bool := (ys.all fun a => ys.all fun b => PySem.W.alike a b) && (ys.all bigT || ys.all noT) && ys.all plainD && decide (ys.length ≤ lim)
def fSorted : List D → Option D
  | [.list ys] => if sortOk ys then some (.list (ys.mergeSort (PySem.W.dataLe false id))) else none
  | _ => none
def fInt : List D → Option D
  | [.bool b] => some (.int (if b then 1 else 0))
  | [.int i] => some (.int i)
  | [.str z] => if z.length ≤ 640 then (PySem.intText? z).map .int else none
  | _ => none
def joinO (a : Str) (xs : List D) : Option D := match strs? xs with
  | some ys => if (ys.map (·.length)).sum + ys.length * a.length ≤ lim then some (.str (Txt.join a ys)) else none
  | none => none
/-- isinstance(e, C), e an exception or None -/
def fIsEx (tb : List (Str × Bool)) : List D → Option D
  | [.none] => some (.bool false)
  | [.dict [(.none, .str n)]] => (tb.lookup n).map .bool
  | _ => none
def fJoin : List D → Option D
  | [.str a, .list xs] => joinO a xs
  | [.str a, .tuple xs] => joinO a xs
  | _ => none
def fSplit : List D → Option D
  | [.str a, .str b] => if a.length ≤ 100000 ∧ (b.length == 0) = false then some (.list ((Txt.split a b).map .str)) else none
  | _ => none
def fStr1 : List D → Option D
  | [.int i] => if i.natAbs.log2 < 1920 then some (.str (toString i)) else none
  | [.str z] => some (.str z)
  | _ => none
def fToi : List D → Option D
  | [.int i] => some (.int i)
  | _ => none
/-- a text among a written dict's keys; what stands there -/
def fDin (kvs : List (Str × Str)) (neg : Bool) : List D → Option D
  | [.str z] => some (.bool ((kvs.lookup z).isSome != neg))
  | _ => none
def fDat (kvs : List (Str × Str)) : List D → Option D
  | [.str z] => (kvs.lookup z).map .str
  | _ => none
def fRev : List D → Option D
  | [.list xs] => if xs.length ≤ lim then some (.list xs.reverse) else none
  | _ => none
/-- an operation: what it comes to, whether that is new, of what it is a method -/
structure Op where
  fn : List D → Option D
  fresh : Bool
  ty : D → Bool
def anyT : D → Bool := fun _ => true
def isStr : D → Bool
  | .str _ => true
  | _ => false
namespace Op
def add : Op := ⟨fAdd, true, anyT⟩
def sub : Op := ⟨fSub, true, anyT⟩
def mul : Op := ⟨fMul, true, anyT⟩
def fdiv : Op := ⟨fDiv, true, anyT⟩
def mod : Op := ⟨fMod, true, anyT⟩
def pow : Op := ⟨fPow, true, anyT⟩
def neg : Op := ⟨fNeg, true, anyT⟩
def eq : Op := ⟨fEq, true, anyT⟩
def ne : Op := ⟨fNe, true, anyT⟩
def lt : Op := ⟨fLt, true, anyT⟩
def le : Op := ⟨fLe, true, anyT⟩
def gt : Op := ⟨fGt, true, anyT⟩
def ge : Op := ⟨fGe, true, anyT⟩
def is_ : Op := ⟨fIs, true, anyT⟩
def isnt : Op := ⟨fIsnt, true, anyT⟩
def in_ : Op := ⟨fIn, true, anyT⟩
def notin : Op := ⟨fNotin, true, anyT⟩
def idx : Op := ⟨fIdx, false, anyT⟩
def slice : Op := ⟨fSlice, true, anyT⟩
def len : Op := ⟨fLen, true, anyT⟩
def isinst (t : Ty) : Op := ⟨fIsinst t, true, anyT⟩
def isLT : Op := ⟨fIsLT, true, anyT⟩
def all : Op := ⟨fAll, true, anyT⟩
def any : Op := ⟨fAny, true, anyT⟩
def abs : Op := ⟨fAbs, true, anyT⟩
def max2 : Op := ⟨fMax2, true, anyT⟩
def min2 : Op := ⟨fMin2, true, anyT⟩
def repr : Op := ⟨fRepr, true, anyT⟩
def strip : Op := ⟨fStrip, true, isStr⟩
def ofList : Op := ⟨fOfList, true, anyT⟩
def ofTuple : Op := ⟨fOfTuple, false, anyT⟩
def int1 : Op := ⟨fInt, true, anyT⟩
def toi : Op := ⟨fToi, true, anyT⟩
def setlen : Op := ⟨fSetlen, true, anyT⟩
def sorted : Op := ⟨fSorted, true, anyT⟩
def rev : Op := ⟨fRev, true, anyT⟩
def dIn (kvs : List (Str × Str)) (no : Bool) : Op := ⟨fDin kvs no, true, anyT⟩
def dAt (kvs : List (Str × Str)) : Op := ⟨fDat kvs, true, anyT⟩
def join : Op := ⟨fJoin, true, isStr⟩
def split : Op := ⟨fSplit, true, isStr⟩
def str1 : Op := ⟨fStr1, true, anyT⟩
def isEx (tb : List (Str × Bool)) : Op := ⟨fIsEx tb, true, anyT⟩
end Op
/-- a list that is changed: what the method tells, what stands then -/
def mApp : D → List D → Option (D × D)
  | .list xs, [y] => if xs.length < lim then some (.none, .list (xs ++ [y])) else none
  | _, _ => none
def mPop : D → List D → Option (D × D)
  | .list xs, [] => match xs[xs.length - 1]? with
    | some y => some (y, .list xs.dropLast)
    | none => none
  | _, _ => none
def mPopAt : D → List D → Option (D × D)
  | .list xs, [.int i] => if 0 ≤ i ∧ i < 2 ^ 62 then (match xs[i.toNat]? with
    | some y => some (y, .list (xs.eraseIdx i.toNat))
    | none => none) else none
  | _, _ => none
def mRev : D → List D → Option (D × D)
  | .list xs, [] => some (.none, .list xs.reverse)
  | _, _ => none
def mClr : D → List D → Option (D × D)
  | .list _, [] => some (.none, .list [])
  | _, _ => none
def mExt : D → List D → Option (D × D)
  | .list xs, [.list ys] => if xs.length + ys.length < lim then some (.none, .list (xs ++ ys)) else none
  | _, _ => none
/-- a change of a container: what the method tells, what stands then -/
structure Mu where
  fn : D → List D → Option (D × D)
  ty : D → Bool
def isLst : D → Bool
  | .list _ => true
  | _ => false
def isDct : D → Bool
  | .dict kvs => !isX kvs
  | _ => false
namespace Mu
def app : Mu := ⟨mApp, isLst⟩
def pop : Mu := ⟨mPop, isLst⟩
def popAt : Mu := ⟨mPopAt, isLst⟩
def ext : Mu := ⟨mExt, isLst⟩
def rev : Mu := ⟨mRev, isLst⟩
def clr : Mu := ⟨mClr, isLst⟩
end Mu
/-! ### terms -/
/-- how a tree is held: not at all (nobody changes it), a thing's number or such data, a container of one's own whose parts are held so, an instance -/
inductive Sh where
  | z | r | o (s : Sh) | i
deriving DecidableEq
/-- a tree's root: a slot, a thing that is shared -/
inductive Rt where
  | s (i : Nat) | c (n : Nat)
deriving DecidableEq
/-- a value: data, the n-th shared thing, data that is but looked at (others change it later), a written thing that is but looked at, a place of one's own at the moment -/
inductive Vl where
  | d (x : D) | r (n : Nat) | w (x : D) | k (x : D) | pk (t : Rt) (p : List Nat)
/-- a slot: nothing, a value, a tree of its own, the same while it is locked -/
inductive Slot where
  | non | v (x : Vl) | own (sh : Sh) (x : D) | lck (sh : Sh) (x : D)
/-- a shared thing: a tree, the same locked, one that is out of sight -/
inductive Cell where
  | live (sh : Sh) (x : D) | lk (sh : Sh) (x : D) | hid
structure Ste where
  rho : List Slot
  hp : List Cell
inductive Res (α : Type) where
  | ok (a : α) (s : Ste) | er (c : Nat) (s : Ste) | stuck
inductive Out where
  | nx (s : Ste) | rt (x : Vl) (s : Ste) | bk (s : Ste) | ct (s : Ste) | er (c : Nat) (s : Ste) | stuck
inductive CRes where
  | ok (x : Vl) (h : List Cell) | er (c : Nat) (h : List Cell) | stuck
inductive Tg where
  | nm (i : Nat) | tp (ts : List Tg)

mutual
inductive C where
  | var (i : Nat) | take (i : Nat) (sh : Sh) | peek (p : Plc) | mv (p : Plc) | kst (x : D) | glob (j : Nat)
  | op (o : Op) (as : Cs) | chain (o1 o2 : Op) (a b c : C)
  | tup (as : Cs) | lst (as : Cs) | dct (kvs : List (Key × D)) | dsp (ks vs : Cs) | cell (sh : Sh) (a : C)
  | not (a : C) | and (a b : C) | or (a b : C) | ite (t a b : C)
  | call (f : Nat) (as : Cs) | mcall (a : C) (m : Nat) (as : Cs) | mk (c : Nat) (as : Cs)
  | mut (p : Plc) (sh : Sh) (m : Mu) (as : Cs) | meth (o : Op) (a : C) (as : Cs) | extF (p : Plc) (a : C) | own (a : C) | atm (a : C) | frz (a : C) | tupN (as : Cs) | dd (a : C)
  | lc (vs : List Nat) (tg : Tg) (it : It) (cs : Cs) (e : C) | lc2 (vs : List Nat) (tg : Tg) (it : It) (cs : Cs) (tg2 : Tg) (it2 : It) (cs2 : Cs) (e : C)
  | dc (vs : List Nat) (tg : Tg) (it : It) (cs : Cs) (k e : C)
inductive Cs where
  | nil | cons (a : C) (as : Cs)
inductive It where
  | seq (a : C) | rng (as : Cs) | enum (a : C) | zip (as : Cs) | items (a : C)
/-- a place: a slot, an attribute of a place, an item of a place -/
inductive Plc where
  | sl (i : Nat) | fld (p : Plc) (j : Nat) | ix (p : Plc) (k : C)
end
mutual
inductive CS where
  | set (i : Nat) (e : C) | setO (i : Nat) (sh : Sh) (e : C) | setT (ts : List Tg) (e : C) | put (p : Plc) (sh : Sh) (k v : C) | setF (p : Plc) (j : Nat) (e : C) | del (p : Plc) (k : C)
  | expr (e : C) | ret (e : C) | retN | ite (t : C) (a b : CSs) | for (tg : Tg) (it : It) (b : CSs) | while (t : C) (b : CSs)
  | raise (c : Nat) | pass | brk | cnt | kill (is : List Nat)
  | tryK (b : CSs) (tb : List (Nat × Str × Bool)) (i j : Nat)
  | tryR (b : CSs) (tb : List (Nat × Bool)) (e : C)
inductive CSs where
  | nil | cons (s : CS) (r : CSs)
end

/-! ### trees -/
/-- a thing's number, within a tree; a place that is left empty; an instance, its class, its attributes -/
def refD (n : Nat) : D := .dict [(.none, .int n)]
def hole : D := .dict [(.none, .none)]
def insD (c : Nat) (fs : List (D × D)) : D := .dict ((.none, .tuple [.int c]) :: fs)
def isRef : D → Option Nat
  | .dict [(.none, .int i)] => some i.toNat
  | _ => none
def insOf : D → Option (Nat × List (D × D))
  | .dict ((.none, .tuple [.int c]) :: fs) => some (c.toNat, fs)
  | _ => none
mutual
/-- data throughout -/
def noRf : D → Bool
  | .list xs => noRfs xs
  | .tuple xs => noRfs xs
  | .dict kvs => (match kvs with | [(.none, .str _)] => true | _ => !isX kvs && noRfv kvs)
  | _ => true
def noRfs : List D → Bool
  | [] => true
  | x :: r => noRf x && noRfs r
def noRfv : List (D × D) → Bool
  | [] => true
  | p :: r => noRf p.2 && noRfv r
end
mutual
/-- no list, no dict within -/
def flat : D → Bool
  | .list _ => false
  | .tuple xs => flats xs
  | .dict _ => false
  | _ => true
def flats : List D → Bool
  | [] => true
  | x :: r => flat x && flats r
end
def flat1 : D → Bool
  | .list xs => flats xs
  | x => flat x
def atom : D → Bool
  | .none => true
  | .bool _ => true
  | .int _ => true
  | .str _ => true
  | _ => false
def okC : D → Bool
  | .list _ => true
  | .dict kvs => !isX kvs
  | _ => false
/-- how an attribute is held, by its number -/
def fsh (j : Int) : Sh := match j % 8 with
  | 1 => .r
  | 2 => .o .z
  | 3 => .o .r
  | 4 => .o (.o .z)
  | _ => .z
def kids : D → List D
  | .list xs => xs
  | .tuple xs => xs
  | .dict ((.none, .tuple [.int _]) :: fs) => fs.map (·.2)
  | .dict kvs => kvs.map (·.2)
  | _ => []
def keySh : D → Sh
  | .int j => fsh j
  | _ => .z
def kidSh : Sh → D → Nat → Option Sh
  | .o s, .list _, _ => some s
  | .o s, .tuple _, _ => some s
  | .o s, .dict kvs, _ => if isX kvs then none else some s
  | .i, .dict ((.none, .tuple [.int _]) :: fs), j => (fs[j]?).map fun p => keySh p.1
  | _, _, _ => none
def setKid : D → Nat → D → D
  | .list xs, i, y => .list (xs.set i y)
  | .tuple xs, i, y => .tuple (xs.set i y)
  | .dict ((.none, .tuple [.int c]) :: fs), i, y => .dict ((.none, .tuple [.int c]) :: fs.modify i fun p => (p.1, y))
  | .dict kvs, i, y => .dict (kvs.modify i fun p => (p.1, y))
  | x, _, _ => x
def nav : Sh → D → List Nat → Option (Sh × D)
  | sh, x, [] => some (sh, x)
  | sh, x, i :: p => match kidSh sh x i, (kids x)[i]? with
    | some s, some y => nav s y p
    | _, _ => none
def setAt : D → List Nat → D → D
  | _, [], y => y
  | x, i :: p, y => match (kids x)[i]? with
    | some c => setKid x i (setAt c p y)
    | none => x

/-! ### values, slots, roots -/
def Ste.get (S : Ste) : Rt → Option (Sh × D)
  | .s i => match S.rho[i]? with
    | some (.own sh x) => some (sh, x)
    | some (.lck sh x) => some (sh, x)
    | _ => none
  | .c n => match S.hp[n]? with
    | some (.live sh x) => some (sh, x)
    | some (.lk sh x) => some (sh, x)
    | _ => none
/-- not locked -/
def Ste.free (S : Ste) : Rt → Bool
  | .s i => match S.rho[i]? with
    | some (.own _ _) => true
    | _ => false
  | .c n => match S.hp[n]? with
    | some (.live _ _) => true
    | _ => false
def Ste.putR (S : Ste) (t : Rt) (x : D) : Ste := match t with
  | .s i => match S.rho[i]? with
    | some (.own sh _) => { S with rho := S.rho.set i (.own sh x) }
    | _ => S
  | .c n => match S.hp[n]? with
    | some (.live sh _) => { S with hp := S.hp.set n (.live sh x) }
    | _ => S
def Ste.lock (S : Ste) (t : Rt) : Ste := match t with
  | .s i => match S.rho[i]? with
    | some (.own sh x) => { S with rho := S.rho.set i (.lck sh x) }
    | _ => S
  | .c n => match S.hp[n]? with
    | some (.live sh x) => { S with hp := S.hp.set n (.lk sh x) }
    | _ => S
def Ste.unlock (S : Ste) (t : Rt) (b : Bool) : Ste := if b then (match t with
  | .s i => match S.rho[i]? with
    | some (.lck sh x) => { S with rho := S.rho.set i (.own sh x) }
    | _ => S
  | .c n => match S.hp[n]? with
    | some (.lk sh x) => { S with hp := S.hp.set n (.live sh x) }
    | _ => S) else S
/-- a walk's root is free again, if it was free ahead -/
def Ste.unl (S0 S : Ste) (lk : Option Rt) : Ste := match lk with
  | some t => S.unlock t (S0.free t)
  | none => S
def Ste.at (S : Ste) (t : Rt) (p : List Nat) : Option (Sh × D) := (S.get t).bind fun q => nav q.1 q.2 p
def pure? (o : Option (Sh × D)) : Option D := match o with
  | some (_, x) => if noRf x then some x else none
  | none => none
/-- what a value is as data now -/
def Ste.res (S : Ste) : Vl → Option D
  | .d x => some x
  | .w x => some x
  | .k x => some x
  | .r n => pure? (S.get (.c n))
  | .pk t p => pure? (S.at t p)
def Ste.ress (S : Ste) : List Vl → Option (List D)
  | [] => some []
  | x :: r => match S.res x, S.ress r with
    | some d, some ds => some (d :: ds)
    | _, _ => none
/-- 0: data; 1: looked at; 2: one's own -/
def Vl.tnt : Vl → Nat
  | .d _ => 0
  | .w _ => 1
  | _ => 2
def tnts : List Vl → Nat
  | [] => 0
  | x :: r => max x.tnt (tnts r)
def isPk : Vl → Bool
  | .pk _ _ => true
  | _ => false
def noPk : List Vl → Bool
  | [] => true
  | .pk _ _ :: _ => false
  | _ :: r => noPk r
def mkv (fr : Bool) (t : Nat) (d : D) : Option Vl := if t = 0 then some (.d d) else if flat d || (fr && flat1 d) then some (.d d) else if t = 1 then some (.w d) else none
/-- a written thing -/
def gv : D → Vl
  | .tuple [x, y] => .k (.tuple [x, y])
  | x => .d x
/-- data that stands by itself -/
def Vl.dat : Vl → Option D
  | .d x => some x
  | .w x => if flat x then some x else none
  | _ => none
def dats : List Vl → Option (List D)
  | [] => some []
  | x :: r => match x.dat, dats r with
    | some d, some ds => some (d :: ds)
    | _, _ => none
def wits : List Vl → Option (List D)
  | [] => some []
  | .d x :: r => (wits r).map (x :: ·)
  | .w x :: r => (wits r).map (x :: ·)
  | _ => none
def wv (w : Bool) (x : D) : Vl := if w && !flat x then .w x else .d x
def Slot.open : Option Slot → Bool
  | some (.lck _ _) => false
  | some _ => true
  | none => false
mutual
def bindT (w : Bool) : Tg → D → List Slot → Option (List Slot)
  | .nm i, x, rho => if Slot.open rho[i]? then some (rho.set i (.v (wv w x))) else none
  | .tp ts, .tuple xs, rho => bindTs w ts xs rho
  | .tp ts, .list xs, rho => bindTs w ts xs rho
  | _, _, _ => none
def bindTs (w : Bool) : List Tg → List D → List Slot → Option (List Slot)
  | [], [], rho => some rho
  | t :: ts, x :: xs, rho => (bindT w t x rho).bind (bindTs w ts xs)
  | _, _, _ => none
end
def frees : List Nat → List Slot → Bool
  | [], _ => true
  | i :: r, rho => (match rho[i]? with | some (.own _ _) => false | some (.lck _ _) => false | _ => true) && frees r rho
def wipeR (rho : List Slot) : List Nat → List Slot
  | [] => rho
  | v :: vs => (wipeR rho vs).set v .non
def backR (rho0 : List Slot) (rho : List Slot) : List Nat → List Slot
  | [] => rho
  | v :: vs => match rho0[v]? with
    | some x => (backR rho0 rho vs).set v x
    | none => backR rho0 rho vs
/-- slots that are forgotten -/
def killR (rho : List Slot) : List Nat → Option (List Slot)
  | [] => some rho
  | v :: vs => (killR rho vs).bind fun r => if Slot.open r[v]? then some (r.set v .non) else none
def lcLoop {α : Type} (turn : D → Ste → Res (Option α)) : List D → List α → Ste → Res (List α)
  | [], acc, s => .ok acc s
  | x :: xs, acc, s => match turn x s with
    | .ok none s' => lcLoop turn xs acc s'
    | .ok (some y) s' => lcLoop turn xs (acc ++ [y]) s'
    | _ => .stuck
def lc2Loop {α : Type} (turn : D → List α → Ste → Res (List α)) : List D → List α → Ste → Res (List α)
  | [], acc, s => .ok acc s
  | x :: xs, acc, s => match turn x acc s with
    | .ok acc' s' => lc2Loop turn xs acc' s'
    | _ => .stuck
def forLoop (turn : D → Ste → Out) : List D → Ste → Out
  | [], s => .nx s
  | x :: xs, s => match turn x s with
    | .nx s' => forLoop turn xs s'
    | .ct s' => forLoop turn xs s'
    | .bk s' => .nx s'
    | o => o
def whileLoop (test : Ste → Res Bool) (body : Ste → Out) : Nat → Ste → Out
  | 0, _ => .stuck
  | n + 1, s => match test s with
    | .ok false s' => .nx s'
    | .ok true s' => (match body s' with
      | .nx s'' => whileLoop test body n s''
      | .ct s'' => whileLoop test body n s''
      | .bk s'' => .nx s''
      | o => o)
    | .er c s' => .er c s'
    | .stuck => .stuck
def wfuel : Nat := 1000000
def Res.bind {α β : Type} (r : Res α) (f : α → Ste → Res β) : Res β := match r with
  | .ok a s => f a s
  | .er c s => .er c s
  | .stuck => .stuck
def Res.map {α β : Type} (r : Res α) (f : Ste → Ste) (g : α → β) : Res β := match r with
  | .ok a s => .ok (g a) (f s)
  | .er c s => .er c (f s)
  | .stuck => .stuck
def Res.of {α : Type} (o : Option α) (s : Ste) : Res α := match o with
  | some a => .ok a s
  | none => .stuck
/-- with a root locked while something is reckoned -/
def Ste.held {α : Type} (S : Ste) (t : Rt) (f : Ste → Res α) : Res α := (f (S.lock t)).map (fun s => s.unlock t (S.free t)) id
def Vl.held {α : Type} (x : Vl) (S : Ste) (f : Ste → Res α) : Res α := match x with
  | .pk t _ => S.held t f
  | _ => f S
def iran : Int → Nat → List D
  | _, 0 => []
  | lo, n + 1 => .int lo :: iran (lo + 1) n
def rngItems : List D → Option (List D)
  | [.int n] => if -(2 ^ 60) < n ∧ n < 2 ^ 60 then some (iran 0 n.toNat) else none
  | [.int a, .int b] => if -(2 ^ 60) < a ∧ a < 2 ^ 60 ∧ -(2 ^ 60) < b ∧ b < 2 ^ 60 then some (iran a (b - a).toNat) else none
  | _ => none
def seqItems : D → Option (List D)
  | .list xs => some xs
  | .tuple xs => some xs
  | .str z => some (z.cps.toList.map fun c => .str ⟨#[c]⟩)
  | _ => none
def enumD : Nat → List D → List D
  | _, [] => []
  | i, x :: xs => .tuple [.int i, x] :: enumD (i + 1) xs
/-- zip of two things that are gone through -/
def zipD : List D → Option (List D)
  | [x, y] => match seqItems x, seqItems y with
    | some xs, some ys => some (List.zipWith (fun a b => .tuple [a, b]) xs ys)
    | _, _ => none
  | _ => none
def itemsD : D → Option (List D)
  | .dict kvs => if kvs.all (fun p => isK p.1) || kvs.all (fun p => isTK p.1) then some (kvs.map fun p => .tuple [p.1, p.2]) else none
  | _ => none
/-- where an item stands -/
def ixOf : D → D → Option Nat
  | .list xs, .int k => ixN xs.length k
  | .tuple xs, .int k => ixN xs.length k
  | .dict kvs, k => if !isX kvs && keyOk kvs k then dIx kvs k else none
  | _, _ => none
def fldOf (x : D) (j : Nat) : Option Nat := match insOf x with
  | some (_, fs) => dIx fs (.int j)
  | none => none
/-- a place's thing -/
inductive Lc where
  | at (t : Rt) (p : List Nat) | val (x : Vl)
def kidLc (t : Rt) (p : List Nat) : Sh → D → Option Lc
  | .z, y => some (.val (.d y))
  | .r, y => match isRef y with
    | some m => some (.val (.r m))
    | none => if noRf y then some (.val (.d y)) else none
  | .o _, y => if atom y then some (.val (.d y)) else if noHole y then some (.at t p) else none
  | .i, _ => some (.at t p)
where noHole : D → Bool
  | .dict kvs => !isX kvs
  | _ => true
def Ste.kid (S : Ste) (t : Rt) (p : List Nat) (f : D → Option Nat) : Option Lc := match S.at t p with
  | some (sh, x) => match f x with
    | some i => match kidSh sh x i, (kids x)[i]? with
      | some s, some y => kidLc t (p ++ [i]) s y
      | _, _ => none
    | none => none
  | none => none
/-- a thing's inside -/
def Lc.in : Lc → Option (Rt × List Nat)
  | .at t p => some (t, p)
  | .val (.r n) => some (.c n, [])
  | _ => none
def Lc.vl : Lc → Vl
  | .at t p => .pk t p
  | .val x => x
/-- an item put into a container -/
def putD : D → D → D → Option D
  | .list xs, .int k, v => (ixN xs.length k).map fun j => .list (xs.set j v)
  | .dict kvs, k, v => if !isX kvs && keyOk kvs k && decide (kvs.length < lim) then some (.dict (dPut kvs k v)) else none
  | _, _, _ => none
def delD : D → D → Option D
  | .dict kvs, k => if !isX kvs && keyOk kvs k && (dGet kvs k).isSome then some (.dict (dDel kvs k)) else none
  | _, _ => none
def setFD : D → Nat → D → Option D
  | .dict ((.none, .tuple [.int c]) :: fs), j, v => if fs.length < 60 then some (.dict ((.none, .tuple [.int c]) :: dPut fs (.int j) v)) else none
  | _, _, _ => none
/-- a value as a part of a tree, held so -/
def part : Sh → Vl → Option D
  | .z, x => x.dat
  | .r, .r n => some (refD n)
  | .r, x => x.dat
  | .o _, .d x => some x
  | _, _ => none
def parts (s : Sh) : List Vl → Option (List D)
  | [] => some []
  | x :: r => match part s x, parts s r with
    | some d, some ds => some (d :: ds)
    | _, _ => none
/-- arguments, as the callee sees them; what it does not see -/
def Ste.arg (S : Ste) : Vl → Option Vl
  | .d x => some (.d x)
  | .w x => some (.w x)
  | .r n => some (.r n)
  | .pk t p => (pure? (S.at t p)).map .w
  | .k _ => none
def Ste.args (S : Ste) : List Vl → Option (List Vl)
  | [] => some []
  | x :: r => match S.arg x, S.args r with
    | some y, some ys => some (y :: ys)
    | _, _ => none
def hide : List Vl → List Cell → List Cell
  | [], h => h
  | .pk (.c n) _ :: r, h => (hide r h).set n .hid
  | _ :: r, h => hide r h
def unhide (h0 : List Cell) : List Vl → List Cell → List Cell
  | [], h => h
  | .pk (.c n) _ :: r, h => match h0[n]? with
    | some x => (unhide h0 r h).set n x
    | none => unhide h0 r h
  | _ :: r, h => unhide h0 r h
/-- what comes back -/
def backV (S : Ste) (xs : List Vl) : CRes → Res Vl
  | .ok (.d x) h => .ok (.d x) { S with hp := unhide S.hp xs h }
  | .ok (.r n) h => .ok (.r n) { S with hp := unhide S.hp xs h }
  | .ok _ _ => .stuck
  | .er c h => .er c { S with hp := unhide S.hp xs h }
  | .stuck => .stuck
/-- constants; the defs, one level below, two levels below; each class's methods, its __init__ the 0th -/
structure Env where
  consts : List D
  call : Nat → List Vl → List Cell → CRes
  init : Nat → List Vl → List Cell → CRes
  meth : Nat → Nat → Option Nat
def goC (call : Nat → List Vl → List Cell → CRes) (f : Nat) (xs : List Vl) (S : Ste) : Res Vl := match S.args xs with
  | some ys => backV S xs (call f ys (hide xs S.hp))
  | none => .stuck
def Env.go (P : Env) (f : Nat) (xs : List Vl) (S : Ste) : Res Vl := goC P.call f xs S
def Env.clsOf (S : Ste) : Vl → Option Nat
  | .r n => match S.get (.c n) with
    | some (.i, x) => (insOf x).map (·.1)
    | _ => none
  | _ => none
mutual
def ev (P : Env) : C → Ste → Res Vl
  | .var i, s => match s.rho[i]? with
    | some (.v x) => .ok x s
    | some (.own _ x) => if noRf x then .ok (.d x) { s with rho := s.rho.set i (.v (.d x)) } else .stuck
    | _ => .stuck
  | .take i sh, s => match s.rho[i]? with
    | some (.own sh' x) => if sh' = sh then .ok (.d x) { s with rho := s.rho.set i .non } else .stuck
    | _ => .stuck
  | .peek p, s => (evP P p s).bind fun l s => .ok l.vl s
  | .mv p, s => (evP P p s).bind fun l s => match l with
    | .at t q => if s.free t && !q.isEmpty then (match s.get t, s.at t q with
      | some (_, x), some (_, y) => .ok (.d y) (s.putR t (setAt x q hole))
      | _, _ => .stuck) else .stuck
    | _ => .stuck
  | .kst x, s => .ok (.d x) s
  | .glob j, s => match P.consts[j]? with
    | some x => .ok (gv x) s
    | none => .stuck
  | .op o as, s => (evs P as s).bind fun xs s => Res.of (((s.ress xs).bind o.fn).bind (mkv o.fresh (tnts xs))) s
  | .chain o1 o2 a b c, s => (ev P a s).bind fun x s => (ev P b s).bind fun y s => if isPk x || isPk y then .stuck else match (s.ress [x, y]).bind o1.fn with
    | some (.bool true) => (ev P c s).bind fun z s => Res.of (((s.ress [y, z]).bind o2.fn).bind (mkv o2.fresh (tnts [y, z]))) s
    | some (.bool false) => .ok (.d (.bool false)) s
    | _ => .stuck
  | .tup as, s => (evs P as s).bind fun xs s => if xs.length ≤ lim then (match dats xs, wits xs with
    | some ds, _ => .ok (.d (.tuple ds)) s
    | none, some ds => .ok (.w (.tuple ds)) s
    | none, none => .stuck) else .stuck
  | .lst as, s => (evs P as s).bind fun xs s => if xs.length ≤ lim then (match dats xs with
    | some ds => .ok (.d (.list ds)) s
    | none => .stuck) else .stuck
  | .dct kvs, s => .ok (.d (.dict (kvs.map fun p => (keyD p.1, p.2)))) s
  | .dsp _ _, _ => .stuck
  | .cell sh a, s => (ev P a s).bind fun x s => match x with
    | .d x => if okC x then .ok (.r s.hp.length) { s with hp := s.hp ++ [.live sh x] } else .stuck
    | _ => .stuck
  | .not a, s => (ev P a s).bind fun x s => match s.res x with
    | some (.bool b) => .ok (.d (.bool (!b))) s
    | _ => .stuck
  | .and a b, s => (ev P a s).bind fun x s => match s.res x with
    | some (.bool true) => ev P b s
    | some (.bool false) => .ok (.d (.bool false)) s
    | _ => .stuck
  | .or a b, s => (ev P a s).bind fun x s => match s.res x with
    | some (.bool true) => .ok (.d (.bool true)) s
    | some (.bool false) => ev P b s
    | _ => .stuck
  | .ite t a b, s => (ev P t s).bind fun x s => match (s.res x).bind truth with
    | some true => ev P a s
    | some false => ev P b s
    | none => .stuck
  | .call f as, s => (evs P as s).bind fun xs s => P.go f xs s
  | .mcall a m as, s => (ev P a s).bind fun x s => match Env.clsOf s x with
    | some c => (match P.meth c m with
      | some f => (evs P as s).bind fun xs s => P.go f (x :: xs) s
      | none => .stuck)
    | none => .stuck
  | .mk c as, s => match P.meth c 0 with
    | some f => (evs P as s).bind fun xs s => if noPk xs then (match goC P.init f (.r s.hp.length :: xs) { s with hp := s.hp ++ [.live .i (insD c [])] } with
      | .ok (.d .none) s' => .ok (.r s.hp.length) s'
      | .ok _ _ => .stuck
      | .er e s' => .er e s'
      | .stuck => .stuck) else .stuck
    | none => .stuck
  | .frz a, s => (ev P a s).bind fun x s => match x with
    | .d x => if noRf x then .ok (.d x) s else .stuck
    | _ => .stuck
  | .mut p sh m as, s => (evP P p s).bind fun l s => match l.in with
    | some (t, q) => (match s.at t q with
      | some (.o _, y0) => if m.ty y0 then (s.held t fun s => evs P as s).bind fun xs s => (if s.free t then (match s.get t, s.at t q, parts sh xs with
        | some (_, x), some (.o sh', y), some ds => if sh' = sh then (match m.fn y ds with
          | some (u, y') => (if sh = .z then .ok (.d u) (s.putR t (setAt x q y')) else .stuck)
          | none => .stuck) else .stuck
        | _, _, _ => .stuck) else .stuck) else .stuck
      | _ => .stuck)
    | none => .stuck
  | .own a, s => (ev P a s).bind fun x s => match x with
    | .d x => if isC x || atom x then .ok (.d x) s else .stuck
    | _ => .stuck
  | .tupN as, s => (evs P as s).bind fun xs s => if xs.length ≤ lim then (match parts (.o .z) xs with
    | some ds => .ok (.d (.tuple ds)) s
    | none => .stuck) else .stuck
  | .dd a, s => (ev P a s).bind fun x s => match x with
    | .d x => .ok (.d x) s
    | _ => .stuck
  | .atm a, s => (ev P a s).bind fun x s => match x with
    | .d x => if atom x then .ok (.d x) s else .stuck
    | _ => .stuck
  | .meth o a as, s => (ev P a s).bind fun x s => match s.res x with
    | some d => if o.ty d then (x.held s fun s => evs P as s).bind fun xs s => Res.of (((s.ress (x :: xs)).bind o.fn).bind (mkv o.fresh (tnts (x :: xs)))) s else .stuck
    | none => .stuck
  | .extF p a, s => (evP P p s).bind fun l s => match l.in with
    | some (t, q) => (match s.at t q with
      | some (.o .z, .list _) => (s.held t fun s => ev P a s).bind fun y s => (if s.free t then (match s.get t, s.at t q, y with
        | some (_, x), some (.o .z, .list xs), .d (.list ys) => if xs.length + ys.length < lim then .ok (.d .none) (s.putR t (setAt x q (.list (xs ++ ys)))) else .stuck
        | _, _, _ => .stuck) else .stuck)
      | _ => .stuck)
    | none => .stuck
  | .lc vs tg it cs e, s => (evIt P it s).bind fun xs s1 => if frees vs s1.rho then
      match lcLoop (fun x s => match bindT xs.2.1 tg x s.rho with
          | some rho => (evTs P cs { s with rho := rho }).bind fun b s =>
              if b then (ev P e s).bind fun y s => (match y.dat with
                | some y => .ok (some y) { s with rho := wipeR s.rho vs }
                | _ => .stuck) else .ok none { s with rho := wipeR s.rho vs }
          | none => .stuck) xs.1 [] { s1 with rho := wipeR s1.rho vs } with
      | .ok ys s2 => if ys.length ≤ lim then .ok (.d (.list ys)) (Ste.unl s { s2 with rho := backR s1.rho s2.rho vs } xs.2.2) else .stuck
      | _ => .stuck
    else .stuck
  | .lc2 _ _ _ _ _ _ _ _, _ => .stuck
  | .dc _ _ _ _ _ _, _ => .stuck
def evs (P : Env) : Cs → Ste → Res (List Vl)
  | .nil, s => .ok [] s
  | .cons a as, s => (ev P a s).bind fun x s => (x.held s fun s => evs P as s).bind fun xs s => .ok (x :: xs) s
/-- all tests, as long as they are true -/
def evTs (P : Env) : Cs → Ste → Res Bool
  | .nil, s => .ok true s
  | .cons a as, s => (ev P a s).bind fun x s => match (s.res x).bind truth with
    | some true => evTs P as s
    | some false => .ok false s
    | none => .stuck
/-- what is walked; whether it is but looked at; the root that is locked -/
def evIt (P : Env) : It → Ste → Res (List D × Bool × Option Rt)
  | .seq a, s => (ev P a s).bind fun x s => match x with
    | .d x => Res.of ((seqItems x).map fun xs => (xs, false, none)) s
    | .w x => Res.of ((seqItems x).map fun xs => (xs, true, none)) s
    | .pk t [] => (match s.get t with
      | some (.o .z, x) => Res.of ((seqItems x).map fun xs => (xs, false, some t)) (s.lock t)
      | _ => .stuck)
    | .r n => (match s.get (.c n) with
      | some (.o .z, x) => Res.of ((seqItems x).map fun xs => (xs, false, some (.c n))) (s.lock (.c n))
      | _ => .stuck)
    | _ => .stuck
  | .rng as, s => (evs P as s).bind fun xs s => Res.of (((s.ress xs).bind rngItems).map fun xs => (xs, false, none)) s
  | .enum a, s => (ev P a s).bind fun x s => match x with
    | .d (.list xs) => .ok (enumD 0 xs, false, none) s
    | .w (.list xs) => .ok (enumD 0 xs, true, none) s
    | _ => .stuck
  | .zip as, s => (evs P as s).bind fun xs s => Res.of (((dats xs).bind zipD).map fun xs => (xs, false, none)) s
  | .items a, s => (ev P a s).bind fun x s => match x with
    | .d x => Res.of ((itemsD x).map fun xs => (xs, false, none)) s
    | .w x => Res.of ((itemsD x).map fun xs => (xs, true, none)) s
    | _ => .stuck
def evP (P : Env) : Plc → Ste → Res Lc
  | .sl i, s => match s.rho[i]? with
    | some (.v x) => .ok (.val x) s
    | some (.own _ _) => .ok (.at (.s i) []) s
    | some (.lck _ _) => .ok (.at (.s i) []) s
    | _ => .stuck
  | .fld p j, s => (evP P p s).bind fun l s => match l.in with
    | some (t, q) => Res.of (s.kid t q fun x => fldOf x j) s
    | none => .stuck
  | .ix p k, s => (evP P p s).bind fun l s => match l.in with
    | some (t, q) => if (s.at t q).isSome then (s.held t fun s => ev P k s).bind fun x s => (match x.dat with
      | some k => Res.of (s.kid t q fun x => ixOf x k) s
      | none => .stuck) else .stuck
    | none => .stuck
end
mutual
def exS (P : Env) : CS → Ste → Out
  | .set i e, s => match ev P e s with
    | .ok (.pk _ _) _ => .stuck
    | .ok (.k _) _ => .stuck
    | .ok x s => if Slot.open s.rho[i]? then .nx { s with rho := s.rho.set i (.v x) } else .stuck
    | .er c s => .er c s
    | .stuck => .stuck
  | .setO i sh e, s => match ev P e s with
    | .ok (.d x) s => if Slot.open s.rho[i]? then .nx { s with rho := s.rho.set i (.own sh x) } else .stuck
    | .ok _ _ => .stuck
    | .er c s => .er c s
    | .stuck => .stuck
  | .setT ts e, s => match ev P e s with
    | .ok (.d x) s => (match bindT false (.tp ts) x s.rho with
      | some rho => .nx { s with rho := rho }
      | none => .stuck)
    | .ok (.w x) s => (match bindT true (.tp ts) x s.rho with
      | some rho => .nx { s with rho := rho }
      | none => .stuck)
    | .ok _ _ => .stuck
    | .er c s => .er c s
    | .stuck => .stuck
  | .put p sh k v, s => match ev P v s with
    | .ok y s => (match (evP P p s).bind (fun l s => match l.in with
        | some (t, q) => if (s.at t q).isSome then (s.held t fun s => ev P k s).bind fun x s => .ok (t, q, x) s else .stuck
        | none => .stuck) with
      | .ok (t, q, x) s => if s.free t then (match s.get t, s.at t q, x.dat, part sh y with
        | some (_, z), some (.o sh', o), some k, some y => if sh' = sh then (match putD o k y with
          | some o' => .nx (s.putR t (setAt z q o'))
          | none => .stuck) else .stuck
        | _, _, _, _ => .stuck) else .stuck
      | .er c s => .er c s
      | .stuck => .stuck)
    | .er c s => .er c s
    | .stuck => .stuck
  | .setF p j e, s => match ev P e s with
    | .ok y s => (match evP P p s with
      | .ok l s => (match l.in with
        | some (t, q) => if s.free t then (match s.get t, s.at t q, part (fsh j) y with
          | some (_, z), some (.i, o), some y => (match setFD o j y with
            | some o' => .nx (s.putR t (setAt z q o'))
            | none => .stuck)
          | _, _, _ => .stuck) else .stuck
        | none => .stuck)
      | .er c s => .er c s
      | .stuck => .stuck)
    | .er c s => .er c s
    | .stuck => .stuck
  | .del p k, s => match (evP P p s).bind (fun l s => match l.in with
        | some (t, q) => if (s.at t q).isSome then (s.held t fun s => ev P k s).bind fun x s => .ok (t, q, x) s else .stuck
        | none => .stuck) with
      | .ok (t, q, x) s => if s.free t then (match s.get t, s.at t q, x.dat with
        | some (_, z), some (.o _, o), some k => (match delD o k with
          | some o' => .nx (s.putR t (setAt z q o'))
          | none => .stuck)
        | _, _, _ => .stuck) else .stuck
      | .er c s => .er c s
      | .stuck => .stuck
  | .expr e, s => match ev P e s with
    | .ok _ s => .nx s
    | .er c s => .er c s
    | .stuck => .stuck
  | .ret e, s => match ev P e s with
    | .ok (.d x) s => .rt (.d x) s
    | .ok (.r n) s => .rt (.r n) s
    | .ok (.w x) s => if flat x then .rt (.d x) s else .stuck
    | .ok _ _ => .stuck
    | .er c s => .er c s
    | .stuck => .stuck
  | .retN, s => .rt (.d .none) s
  | .ite t a b, s => match ev P t s with
    | .ok x s => (match (s.res x).bind truth with
      | some true => exs P a s
      | some false => exs P b s
      | none => .stuck)
    | .er c s => .er c s
    | .stuck => .stuck
  | .for tg it b, s => match evIt P it s with
    | .ok xs s1 => (match forLoop (fun x s => match bindT xs.2.1 tg x s.rho with
          | some rho => exs P b { s with rho := rho }
          | none => .stuck) xs.1 s1 with
      | .nx s2 => .nx (Ste.unl s s2 xs.2.2)
      | o => o)
    | .er c s => .er c s
    | .stuck => .stuck
  | .while t b, s => whileLoop (fun s => (ev P t s).bind fun x s => Res.of ((s.res x).bind truth) s) (exs P b) wfuel s
  | .raise c, s => .er c s
  | .tryK b tb i j, s => match exs P b s with
    | .er c s => (match tb.lookup c with
      | some (nm, true) => if Slot.open s.rho[i]? && Slot.open s.rho[j]? then .nx { s with rho := ((s.rho.set i (.v (.d (exD nm)))).set j (.v (.d (exD nm)))).set i .non } else .stuck
      | some (_, false) => .er c s
      | none => .stuck)
    | o => o
  | .tryR _ _ _, _ => .stuck
  | .pass, s => .nx s
  | .brk, s => .bk s
  | .cnt, s => .ct s
  | .kill vs, s => match killR s.rho vs with
    | some rho => .nx { s with rho := rho }
    | none => .stuck
def exs (P : Env) : CSs → Ste → Out
  | .nil, s => .nx s
  | .cons c r, s => match exS P c s with
    | .nx s => exs P r s
    | o => o
end
structure FunI where
  nslots : Nat
  nparams : Nat
  body : CSs
def callF (fs : List FunI) (meth : Nat → Nat → Option Nat) (consts : List D) : Nat → Nat → List Vl → List Cell → CRes
  | 0, _, _, _ => .stuck
  | k + 1, f, xs, h => match fs[f]? with
    | some fi => if xs.length = fi.nparams ∧ noPk xs = true then
        (match exs ⟨consts, callF fs meth consts k, callF fs meth consts (k - 1), meth⟩ fi.body ⟨xs.map .v ++ List.replicate (fi.nslots - xs.length) .non, h⟩ with
        | .nx s => .ok (.d .none) s.hp
        | .rt x s => .ok x s.hp
        | .er c s => .er c s.hp
        | _ => .stuck) else .stuck
    | none => .stuck
end EV
end
section
set_option Elab.async false
set_option linter.all false
set_option maxRecDepth 100000
set_option autoImplicit false
set_option maxHeartbeats 4000000
/-! GB: how data and trees of one's own lie in the heap; what stands at a moment; what a step keeps -/
namespace EV
open PySem L2

def KLst (K : PySem.W.Frag) (a : Addr) (xs : List V) : Prop :=
  ∃ (o : Obj) (its : Array Value) (n : Nat), K.lookup a = some o ∧ o.cls = .type "list" ∧ o.dict = none ∧ o.data = .seq its n ∧ its.size ≤ sizeLine ∧ Vals xs its.toList
def KTup (K : PySem.W.Frag) (a : Addr) (xs : List V) : Prop :=
  ∃ (o : Obj) (its : Array Value) (n : Nat), K.lookup a = some o ∧ o.cls = .type "tuple" ∧ o.data = .seq its n ∧ its.size ≤ sizeLine ∧ Vals xs its.toList

mutual
inductive Dn (K : PySem.W.Frag) (M : Addr → Prop) (H : Hp) : Bool → D → V → Prop
  | non {b : Bool} : Dn K M H b .none .non
  | bl {b : Bool} (k : Bool) : Dn K M H b (.bool k) (.bl k)
  | int {b : Bool} (i : Int) : Dn K M H b (.int i) (.int i)
  | str {b : Bool} (x : Str) : Dn K M H b (.str x) (.str x)
  | lst {b : Bool} {a : Addr} {xs : List D} {vs : List V} : Rd H a (.lst vs) → (b = true → ¬ M a) → DnL K M H xs vs → Dn K M H b (.list xs) (.ref a)
  | lstK {b : Bool} {a : Addr} {xs : List D} {vs : List V} : KLst K a vs → DnL K M H xs vs → Dn K M H b (.list xs) (.ref a)
  | tup {b : Bool} {a : Addr} {xs : List D} {vs : List V} : H a = some (.tup vs) → ¬ M a → DnL K M H xs vs → Dn K M H b (.tuple xs) (.ref a)
  | tupK {b : Bool} {a : Addr} {xs : List D} {vs : List V} : KTup K a vs → (b = true → xs.length ≠ 2) → DnL K M H xs vs → Dn K M H b (.tuple xs) (.ref a)
  | dK {b : Bool} {a : Addr} {kvs : List (D × D)} {ds : List D} {vs : List V} {es : List (Key × V)} : Rd H a (.dK es) → (b = true → ¬ M a) → kvs.map (·.1) = es.map (fun p => keyD p.1) → kvs.map (·.2) = ds → DnL K M H ds vs → vs = es.map (·.2) → Dn K M H b (.dict kvs) (.ref a)
  | dT {b : Bool} {a : Addr} {kvs : List (D × D)} {ds : List D} {vs : List V} {es : List (List Key × V)} : Rd H a (.dT es) → (b = true → ¬ M a) → kvs.map (·.1) = es.map (fun p => .tuple (p.1.map keyD)) → kvs.map (·.2) = ds → DnL K M H ds vs → vs = es.map (·.2) → Dn K M H b (.dict kvs) (.ref a)
  | exc {b : Bool} {a C : Addr} {n : Str} : PySem.W.nsIn K mainGlobals n = some (some (.ref C)) → XOk K C → Rd H a (ExC (.ref C) a) → ¬ M a → Dn K M H b (.dict [(.none, .str n)]) (.ref a)
inductive DnL (K : PySem.W.Frag) (M : Addr → Prop) (H : Hp) : List D → List V → Prop
  | nil : DnL K M H [] []
  | cons {x : D} {v : V} {xs : List D} {vs : List V} : Dn K M H true x v → DnL K M H xs vs → DnL K M H (x :: xs) (v :: vs)
end
/-- .. each at its top perhaps changeable -/
inductive DnF (K : PySem.W.Frag) (M : Addr → Prop) (H : Hp) : List D → List V → Prop
  | nil : DnF K M H [] []
  | cons {x : D} {v : V} {xs : List D} {vs : List V} : Dn K M H false x v → DnF K M H xs vs → DnF K M H (x :: xs) (v :: vs)

def Keeps (M : Addr → Prop) (H : Hp) (M' : Addr → Prop) (H' : Hp) : Prop := ∀ a o, H a = some o → ¬ M a → H' a = some o ∧ ¬ M' a
theorem Keeps.refl (M : Addr → Prop) (H : Hp) : Keeps M H M H := fun _ _ h n => ⟨h, n⟩
theorem Keeps.trans {M M1 M2 : Addr → Prop} {H H1 H2 : Hp} (a : Keeps M H M1 H1) (b : Keeps M1 H1 M2 H2) : Keeps M H M2 H2 := fun c o h n =>
  let ⟨h1, n1⟩ := a c o h n
  b c o h1 n1
section
variable {K : PySem.W.Frag} {M M' : Addr → Prop} {H H' : Hp}
theorem Keeps.rd {a : Addr} {u : HO} (k : Keeps M H M' H') (r : Rd H a u) (n : ¬ M a) : Rd H' a u ∧ ¬ M' a := by
  rcases r with r | ⟨o, r⟩
  · exact ⟨.inl (k a _ r n).1, (k a _ r n).2⟩
  · exact ⟨.inr ⟨o, (k a _ r n).1⟩, (k a _ r n).2⟩
mutual
theorem Dn.monoB (k : Keeps M H M' H') : ∀ (b : Bool) (x : D) (v : V), Dn K M H b x v → b = true → Dn K M' H' b x v
  | _, _, _, .non, _ => .non
  | _, _, _, .bl b, _ => .bl b
  | _, _, _, .int i, _ => .int i
  | _, _, _, .str x, _ => .str x
  | _, _, _, .lst r n l, e => .lst (k.rd r (n e)).1 (fun _ => (k.rd r (n e)).2) (DnL.mono k _ _ l)
  | _, _, _, .lstK r l, _ => .lstK r (DnL.mono k _ _ l)
  | _, _, _, .tup r n l, e => .tup (k _ _ r n).1 (k _ _ r n).2 (DnL.mono k _ _ l)
  | _, _, _, .tupK r q l, _ => .tupK r q (DnL.mono k _ _ l)
  | _, _, _, .dK r n q0 q l q2, e => .dK (k.rd r (n e)).1 (fun _ => (k.rd r (n e)).2) q0 q (DnL.mono k _ _ l) q2
  | _, _, _, .dT r n q0 q l q2, e => .dT (k.rd r (n e)).1 (fun _ => (k.rd r (n e)).2) q0 q (DnL.mono k _ _ l) q2
  | _, _, _, .exc c x r n, _ => .exc c x (k.rd r n).1 (k.rd r n).2
theorem DnL.mono (k : Keeps M H M' H') : ∀ (xs : List D) (vs : List V), DnL K M H xs vs → DnL K M' H' xs vs
  | _, _, .nil => .nil
  | _, _, .cons a r => .cons (Dn.monoB k _ _ _ a rfl) (DnL.mono k _ _ r)
end
theorem Dn.mono (k : Keeps M H M' H') (x : D) (v : V) (h : Dn K M H true x v) : Dn K M' H' true x v := Dn.monoB k _ _ _ h rfl
mutual
theorem Dn.anti (k : ∀ a, M' a → M a) : ∀ (b : Bool) (x : D) (v : V), Dn K M H b x v → Dn K M' H b x v
  | _, _, _, .non => .non
  | _, _, _, .bl b => .bl b
  | _, _, _, .int i => .int i
  | _, _, _, .str x => .str x
  | _, _, _, .lst r n l => .lst r (fun e z => n e (k _ z)) (DnL.anti k _ _ l)
  | _, _, _, .lstK r l => .lstK r (DnL.anti k _ _ l)
  | _, _, _, .tup r n l => .tup r (fun z => n (k _ z)) (DnL.anti k _ _ l)
  | _, _, _, .tupK r q l => .tupK r q (DnL.anti k _ _ l)
  | _, _, _, .dK r n q0 q l q2 => .dK r (fun e z => n e (k _ z)) q0 q (DnL.anti k _ _ l) q2
  | _, _, _, .dT r n q0 q l q2 => .dT r (fun e z => n e (k _ z)) q0 q (DnL.anti k _ _ l) q2
  | _, _, _, .exc c x r n => .exc c x r fun z => n (k _ z)
theorem DnL.anti (k : ∀ a, M' a → M a) : ∀ (xs : List D) (vs : List V), DnL K M H xs vs → DnL K M' H xs vs
  | _, _, .nil => .nil
  | _, _, .cons a r => .cons (Dn.anti k _ _ _ a) (DnL.anti k _ _ r)
end
theorem Dn.weak {x : D} {v : V} : Dn K M H true x v → Dn K M H false x v
  | .non => .non
  | .bl b => .bl b
  | .int i => .int i
  | .str x => .str x
  | .lst r n l => .lst r (fun e => nomatch e) l
  | .lstK r l => .lstK r l
  | .tup r n l => .tup r n l
  | .tupK r q l => .tupK r (fun z => nomatch z) l
  | .dK r n q0 q l q2 => .dK r (fun e => nomatch e) q0 q l q2
  | .dT r n q0 q l q2 => .dT r (fun e => nomatch e) q0 q l q2
  | .exc c x r n => .exc c x r n
/-- a tuple is never one that is changed -/
theorem Dn.ever {b : Bool} {xs : List D} {v : V} (h : Dn K M H b (.tuple xs) v) (n : xs.length ≠ 2) : Dn K M H true (.tuple xs) v := by
  cases h with
  | tup r n l => exact .tup r n l
  | tupK r q l => exact .tupK r (fun _ => n) l
theorem DnL.weak : ∀ {xs : List D} {vs : List V}, DnL K M H xs vs → DnF K M H xs vs
  | _, _, .nil => .nil
  | _, _, .cons a r => .cons a.weak r.weak
theorem DnL.length : ∀ {xs : List D} {vs : List V}, DnL K M H xs vs → xs.length = vs.length
  | _, _, .nil => rfl
  | _, _, .cons _ r => by simp [r.length]
theorem DnL.append : ∀ {xs ys : List D} {vs us : List V}, DnL K M H xs vs → DnL K M H ys us → DnL K M H (xs ++ ys) (vs ++ us)
  | _, _, _, _, .nil, s => s
  | _, _, _, _, .cons a r, s => .cons a (r.append s)
theorem DnL.get : ∀ {xs : List D} {vs : List V} {i : Nat} {x : D}, DnL K M H xs vs → xs[i]? = some x → ∃ v, vs[i]? = some v ∧ Dn K M H true x v
  | _, _, _, _, .nil, e => by simp at e
  | _, _, 0, _, .cons a _, e => by simp at e; subst e; exact ⟨_, rfl, a⟩
  | _, _, i + 1, x, .cons _ r, e => by
    obtain ⟨v, h1, h2⟩ := DnL.get (i := i) (x := x) r (by simpa using e)
    exact ⟨v, by simpa using h1, h2⟩
theorem DnL.take : ∀ {xs : List D} {vs : List V} (n : Nat), DnL K M H xs vs → DnL K M H (xs.take n) (vs.take n)
  | _, _, 0, _ => .nil
  | _, _, _ + 1, .nil => .nil
  | _, _, n + 1, .cons a r => .cons a (r.take n)
theorem DnL.drop : ∀ {xs : List D} {vs : List V} (n : Nat), DnL K M H xs vs → DnL K M H (xs.drop n) (vs.drop n)
  | _, _, 0, r => r
  | _, _, _ + 1, .nil => .nil
  | _, _, n + 1, .cons _ r => r.drop n
theorem DnL.set {x : D} {v : V} (a : Dn K M H true x v) : ∀ {xs : List D} {vs : List V} (i : Nat), DnL K M H xs vs → DnL K M H (xs.set i x) (vs.set i v)
  | _, _, _, .nil => .nil
  | _, _, 0, .cons _ r => .cons a r
  | _, _, i + 1, .cons b r => .cons b (DnL.set a i r)
theorem DnL.eraseIdx : ∀ {xs : List D} {vs : List V} (i : Nat), DnL K M H xs vs → DnL K M H (xs.eraseIdx i) (vs.eraseIdx i)
  | _, _, _, .nil => .nil
  | _, _, 0, .cons _ r => r
  | _, _, i + 1, .cons b r => .cons b (r.eraseIdx i)
theorem DnL.reverse : ∀ {xs : List D} {vs : List V}, DnL K M H xs vs → DnL K M H xs.reverse vs.reverse
  | _, _, .nil => .nil
  | _, _, .cons a r => by rw [List.reverse_cons, List.reverse_cons]; exact r.reverse.append (.cons a .nil)
theorem DnL.dropLast {xs : List D} {vs : List V} (h : DnL K M H xs vs) : DnL K M H xs.dropLast vs.dropLast := by
  rw [List.dropLast_eq_take, List.dropLast_eq_take, h.length]; exact h.take _
theorem Dn.sql {b : Bool} {xs : List D} {v : V} (h : Dn K M H b (.list xs) v) : ∃ a vs, v = .ref a ∧ SqL K H a vs ∧ DnL K M H xs vs := by
  cases h with
  | lst r n l => exact ⟨_, _, rfl, .inl r, l⟩
  | lstK r l => exact ⟨_, _, rfl, .inr r, l⟩
theorem Dn.sqt {b : Bool} {xs : List D} {v : V} (h : Dn K M H b (.tuple xs) v) : ∃ a vs, v = .ref a ∧ SqT K H a vs ∧ DnL K M H xs vs := by
  cases h with
  | tup r n l => exact ⟨_, _, rfl, .inl (.inl r), l⟩
  | tupK r q l => exact ⟨_, _, rfl, .inr r, l⟩
end


/-! ### trees of one's own -/
/-- the written part, its classes by number, its attributes' numbers -/
structure Ct where
  cls : Nat → Addr
  tb : List (Str × Nat)
structure Kt where
  K : PySem.W.Frag
  C : Ct
abbrev kt (X : Cx) (Z : Ct) : Kt := ⟨X.K, Z⟩
def notTup : HO → Prop
  | .lst _ => True
  | .dK _ => True
  | .dT _ => True
  | .ins _ _ _ => True
  | _ => False
def atomV : D → Option V
  | .none => some .non
  | .bool b => some (.bl b)
  | .int i => some (.int i)
  | .str x => some (.str x)
  | _ => none
theorem atom_dn {K : PySem.W.Frag} {d : D} {v : V} (h : atomV d = some v) (M : Addr → Prop) (H : Hp) (b : Bool) : Dn K M H b d v := by
  cases d <;> cases h
  · exact .non
  · exact .bl _
  · exact .int _
  · exact .str _
/-- a dict at a: its keys, its values -/
def DK (H : Hp) (a : Addr) (kvs : List (D × D)) (vs : List V) : Prop :=
  (∃ es, H a = some (.dK es) ∧ kvs.map (·.1) = es.map (fun p => keyD p.1) ∧ vs = es.map (·.2)) ∨
  ∃ es, H a = some (.dT es) ∧ kvs.map (·.1) = es.map (fun p => .tuple (p.1.map keyD)) ∧ vs = es.map (·.2)
/-- an instance at a: its class, its attributes -/
def IN (T : Kt) (H : Hp) (a : Addr) (c : Nat) (kvs : List (D × D)) (vs : List V) : Prop :=
  Cls T.K (T.C.cls c) ∧ (∀ p ∈ T.C.tb, NoAttr T.K (T.C.cls c) p.1) ∧ (T.C.tb.map (·.1)).Nodup ∧ (T.C.tb.map (·.2)).Nodup ∧
  ∃ dx fs, H a = some (.ins (T.C.cls c) dx fs) ∧ vs = fs.map (·.2) ∧ kvs.length = fs.length ∧ ∀ (i : Nat) (p : D × D) (q : Str × V), kvs[i]? = some p → fs[i]? = some q → ∃ j : Nat, p.1 = PyData.int j ∧ (q.1, j) ∈ T.C.tb
mutual
inductive OT (T : Kt) (io : List Addr) (M : Addr → Prop) (H : Hp) : Sh → D → V → List Addr → Prop
  | z {x : D} {v : V} : Dn T.K M H true x v → OT T io M H .z x v []
  | r {n : Nat} {a : Addr} : io[n]? = some a → OT T io M H .r (refD n) (.ref a) []
  | rz {x : D} {v : V} : noRf x = true → Dn T.K M H true x v → OT T io M H .r x v []
  | at {s : Sh} {x : D} {v : V} : atomV x = some v → OT T io M H (.o s) x v []
  | hole {s : Sh} {v : V} : OT T io M H (.o s) hole v []
  | lst {s : Sh} {xs : List D} {vs : List V} {a : Addr} {F : List Addr} : H a = some (.lst vs) → OTs T io M H (List.replicate xs.length s) xs vs F → OT T io M H (.o s) (.list xs) (.ref a) (a :: F)
  | tup {s : Sh} {xs : List D} {vs : List V} {a : Addr} {F : List Addr} : H a = some (.tup vs) → ¬ M a → OTs T io M H (List.replicate xs.length s) xs vs F → OT T io M H (.o s) (.tuple xs) (.ref a) F
  | dct {s : Sh} {kvs : List (D × D)} {vs : List V} {a : Addr} {F : List Addr} : DK H a kvs vs → OTs T io M H (List.replicate kvs.length s) (kvs.map (·.2)) vs F → OT T io M H (.o s) (.dict kvs) (.ref a) (a :: F)
  | ins {c : Nat} {kvs : List (D × D)} {vs : List V} {a : Addr} {F : List Addr} : IN T H a c kvs vs → OTs T io M H (kvs.map fun p => keySh p.1) (kvs.map (·.2)) vs F → OT T io M H .i (insD c kvs) (.ref a) (a :: F)
inductive OTs (T : Kt) (io : List Addr) (M : Addr → Prop) (H : Hp) : List Sh → List D → List V → List Addr → Prop
  | nil : OTs T io M H [] [] [] []
  | cons {s : Sh} {x : D} {v : V} {ss : List Sh} {xs : List D} {vs : List V} {F F' : List Addr} : OT T io M H s x v F → OTs T io M H ss xs vs F' → OTs T io M H (s :: ss) (x :: xs) (v :: vs) (F ++ F')
end
section
variable {T : Kt} {io io' : List Addr} {M M' : Addr → Prop} {H H' : Hp}
theorem DK.same {a : Addr} {kvs : List (D × D)} {vs : List V} (h : DK H a kvs vs) (e : H' a = H a) : DK H' a kvs vs := by
  unfold DK
  rw [e]
  exact h
theorem IN.same {a : Addr} {c : Nat} {kvs : List (D × D)} {vs : List V} (h : IN T H a c kvs vs) (e : H' a = H a) : IN T H' a c kvs vs := by
  unfold IN
  rw [e]
  exact h
mutual
/-- what is one's own stays as it is, and what nobody changes -/
theorem OT.mono (k : Keeps M H M' H') (l : ∃ l, io' = io ++ l) : ∀ (s : Sh) (x : D) (v : V) (F : List Addr), OT T io M H s x v F → (∀ a ∈ F, H' a = H a) → OT T io' M' H' s x v F
  | _, _, _, _, .z d, _ => .z (Dn.mono k _ _ d)
  | _, _, _, _, .r e, _ => .r (by
      obtain ⟨l, rfl⟩ := l
      rw [List.getElem?_append_left (List.getElem?_eq_some_iff.mp e).1]
      exact e)
  | _, _, _, _, .rz p d, _ => .rz p (Dn.mono k _ _ d)
  | _, _, _, _, .at e, _ => .at e
  | _, _, _, _, .hole, _ => .hole
  | _, _, _, _, .lst e r, h => .lst (by rw [h _ List.mem_cons_self]; exact e) (OTs.mono k l _ _ _ _ r fun a m => h a (List.mem_cons_of_mem _ m))
  | _, _, _, _, .tup e n r, h => .tup (k _ _ e n).1 (k _ _ e n).2 (OTs.mono k l _ _ _ _ r h)
  | _, _, _, _, .dct e r, h => .dct (e.same (h _ List.mem_cons_self)) (OTs.mono k l _ _ _ _ r fun a m => h a (List.mem_cons_of_mem _ m))
  | _, _, _, _, .ins e r, h => .ins (e.same (h _ List.mem_cons_self)) (OTs.mono k l _ _ _ _ r fun a m => h a (List.mem_cons_of_mem _ m))
theorem OTs.mono (k : Keeps M H M' H') (l : ∃ l, io' = io ++ l) : ∀ (ss : List Sh) (xs : List D) (vs : List V) (F : List Addr), OTs T io M H ss xs vs F → (∀ a ∈ F, H' a = H a) → OTs T io' M' H' ss xs vs F
  | _, _, _, _, .nil, _ => .nil
  | _, _, _, _, .cons a r, h => .cons (OT.mono k l _ _ _ _ a fun b m => h b (List.mem_append_left _ m)) (OTs.mono k l _ _ _ _ r fun b m => h b (List.mem_append_right _ m))
end
mutual
theorem OT.anti (k : ∀ a, M' a → M a) : ∀ (s : Sh) (x : D) (v : V) (F : List Addr), OT T io M H s x v F → OT T io M' H s x v F
  | _, _, _, _, .z d => .z (Dn.anti k _ _ _ d)
  | _, _, _, _, .r e => .r e
  | _, _, _, _, .rz p d => .rz p (Dn.anti k _ _ _ d)
  | _, _, _, _, .at e => .at e
  | _, _, _, _, .hole => .hole
  | _, _, _, _, .lst e r => .lst e (OTs.anti k _ _ _ _ r)
  | _, _, _, _, .tup e n r => .tup e (fun m => n (k _ m)) (OTs.anti k _ _ _ _ r)
  | _, _, _, _, .dct e r => .dct e (OTs.anti k _ _ _ _ r)
  | _, _, _, _, .ins e r => .ins e (OTs.anti k _ _ _ _ r)
theorem OTs.anti (k : ∀ a, M' a → M a) : ∀ (ss : List Sh) (xs : List D) (vs : List V) (F : List Addr), OTs T io M H ss xs vs F → OTs T io M' H ss xs vs F
  | _, _, _, _, .nil => .nil
  | _, _, _, _, .cons a r => .cons (OT.anti k _ _ _ _ a) (OTs.anti k _ _ _ _ r)
end
mutual
theorem OT.tracked : ∀ (s : Sh) (x : D) (v : V) (F : List Addr), OT T io M H s x v F → ∀ a ∈ F, ∃ u, H a = some u ∧ notTup u
  | _, _, _, _, .lst e r, a, m => by
    rcases List.mem_cons.mp m with rfl | m
    · exact ⟨_, e, trivial⟩
    · exact OTs.tracked _ _ _ _ r a m
  | _, _, _, _, .tup e n r, a, m => OTs.tracked _ _ _ _ r a m
  | _, _, _, _, .dct e r, a, m => by
    rcases List.mem_cons.mp m with rfl | m
    · rcases e with ⟨_, e, _⟩ | ⟨_, e, _⟩ <;> exact ⟨_, e, trivial⟩
    · exact OTs.tracked _ _ _ _ r a m
  | _, _, _, _, .ins e r, a, m => by
    rcases List.mem_cons.mp m with rfl | m
    · obtain ⟨_, _, _, _, dx, fs, e, _⟩ := e
      exact ⟨_, e, trivial⟩
    · exact OTs.tracked _ _ _ _ r a m
theorem OTs.tracked : ∀ (ss : List Sh) (xs : List D) (vs : List V) (F : List Addr), OTs T io M H ss xs vs F → ∀ a ∈ F, ∃ u, H a = some u ∧ notTup u
  | _, _, _, _, .nil, a, m => nomatch m
  | _, _, _, _, .cons q r, a, m => by
    rcases List.mem_append.mp m with m | m
    · exact OT.tracked _ _ _ _ q a m
    · exact OTs.tracked _ _ _ _ r a m
end
theorem DK.isX {a : Addr} {kvs : List (D × D)} {vs : List V} (e : DK H a kvs vs) : isX kvs = false := by
  rcases e with ⟨es, _, q, _⟩ | ⟨es, _, q, _⟩
  · cases kvs with
    | nil => rfl
    | cons p0 t =>
      cases es with
      | nil => simp at q
      | cons e0 u =>
        simp only [List.map_cons, List.cons.injEq] at q
        obtain ⟨k0, v0⟩ := p0
        obtain ⟨k1, v1⟩ := e0
        have : k0 = keyD k1 := q.1
        subst this
        cases k1 <;> rfl
  · cases kvs with
    | nil => rfl
    | cons p0 t =>
      cases es with
      | nil => simp at q
      | cons e0 u =>
        simp only [List.map_cons, List.cons.injEq] at q
        obtain ⟨k0, v0⟩ := p0
        have : k0 = _ := q.1
        subst this
        rfl
theorem noRfv_map : ∀ l : List (D × D), noRfv l = noRfs (l.map (·.2))
  | [] => by rw [noRfv, List.map_nil, noRfs]
  | a :: b => by rw [noRfv, List.map_cons, noRfs, noRfv_map b]
theorem noRf_dict {kvs : List (D × D)} (h : isX kvs = false) : noRf (.dict kvs) = noRfs (kvs.map (·.2)) := by
  rw [← noRfv_map]
  unfold noRf
  split
  · cases h
  · rw [h]; rfl
mutual
/-- a tree of one's own, as data -/
theorem OT.frz (k : ∀ a, M' a → M a) : ∀ (s : Sh) (x : D) (v : V) (F : List Addr), OT T io M H s x v F → noRf x = true → (∀ a ∈ F, ¬ M' a) → Dn T.K M' H true x v
  | _, _, _, _, .z d, _, _ => Dn.anti k _ _ _ d
  | _, _, _, _, .r e, p, _ => by simp [refD, noRf, isX] at p
  | _, _, _, _, .rz p d, _, _ => Dn.anti k _ _ _ d
  | _, _, _, _, .at e, _, _ => atom_dn e _ _ _
  | _, _, _, _, .hole, p, _ => by simp [hole, noRf, isX] at p
  | _, _, _, _, .lst e r, p, n => .lst (.inl e) (fun _ => n _ List.mem_cons_self) (OTs.frz k _ _ _ _ r (by rw [noRf] at p; exact p) fun a m => n a (List.mem_cons_of_mem _ m))
  | _, _, _, _, .tup e q r, p, n => .tup e (fun m => q (k _ m)) (OTs.frz k _ _ _ _ r (by rw [noRf] at p; exact p) n)
  | _, .dict kvs, _, _, .dct e r, p, n => by
    have pv : noRfs (kvs.map (·.2)) = true := by
      rw [noRf_dict e.isX] at p
      exact p
    have dl := OTs.frz k _ _ _ _ r pv fun a m => n a (List.mem_cons_of_mem _ m)
    rcases e with ⟨es, e, q, rfl⟩ | ⟨es, e, q, rfl⟩
    · exact .dK (.inl e) (fun _ => n _ List.mem_cons_self) q rfl dl rfl
    · exact .dT (.inl e) (fun _ => n _ List.mem_cons_self) q rfl dl rfl
  | _, _, _, _, .ins e r, p, n => by simp [insD, noRf, isX] at p
theorem OTs.frz (k : ∀ a, M' a → M a) : ∀ (ss : List Sh) (xs : List D) (vs : List V) (F : List Addr), OTs T io M H ss xs vs F → noRfs xs = true → (∀ a ∈ F, ¬ M' a) → DnL T.K M' H xs vs
  | _, _, _, _, .nil, _, _ => .nil
  | _, _, _, _, .cons a r, p, n => by
    rw [noRfs, Bool.and_eq_true] at p
    exact .cons (OT.frz k _ _ _ _ a p.1 fun b m => n b (List.mem_append_left _ m)) (OTs.frz k _ _ _ _ r p.2 fun b m => n b (List.mem_append_right _ m))
end
/-! ### a part of such a tree -/
theorem OTs.len : ∀ {ss : List Sh} {xs : List D} {vs : List V} {F : List Addr}, OTs T io M H ss xs vs F → ss.length = xs.length ∧ xs.length = vs.length
  | _, _, _, _, .nil => ⟨rfl, rfl⟩
  | _, _, _, _, .cons a r => by
    have := r.len
    simp [this.1, this.2]
/-- the i-th part, and what may stand in its place -/
theorem OTs.get : ∀ {ss : List Sh} {xs : List D} {vs : List V} {F : List Addr} {i : Nat} {y : D}, OTs T io M H ss xs vs F → xs[i]? = some y → ∃ s u F1 F2 F3, ss[i]? = some s ∧ vs[i]? = some u ∧ OT T io M H s y u F2 ∧ F = F1 ++ (F2 ++ F3) ∧
    ∀ {io' : List Addr} {M' : Addr → Prop} {H' : Hp} {y' : D} {u' : V} {F2' : List Addr}, Keeps M H M' H' → (∃ l, io' = io ++ l) → (∀ a ∈ F1 ++ F3, H' a = H a) → OT T io' M' H' s y' u' F2' → OTs T io' M' H' ss (xs.set i y') (vs.set i u') (F1 ++ (F2' ++ F3))
  | _, _, _, _, _, _, .nil, e => by simp at e
  | _, _, _, _, 0, y, .cons (F' := F') a r, e => by
    simp at e
    subst e
    refine ⟨_, _, [], _, F', rfl, rfl, a, rfl, fun {io' M' H' y' u' F2'} k l h o => ?_⟩
    show OTs T io' M' H' _ _ _ (F2' ++ F')
    exact .cons o (OTs.mono k l _ _ _ _ r fun b m => h b (by simpa using m))
  | _, _, _, _, i + 1, y, .cons (F := F0) a r, e => by
    obtain ⟨s, u, F1, F2, F3, h1, h2, h3, rfl, h5⟩ := OTs.get (i := i) (y := y) r (by simpa using e)
    refine ⟨s, u, F0 ++ F1, F2, F3, by simpa using h1, by simpa using h2, h3, by simp, fun k l h o => ?_⟩
    have h6 := h5 k l (fun b m => h b (by simp at m ⊢; rcases m with m | m <;> simp [m])) o
    have h7 := OTs.cons (OT.mono k l _ _ _ _ a fun b m => h b (by simp [m])) h6
    simpa using h7
end
end EV
end
section
set_option Elab.async false
set_option linter.all false
set_option maxRecDepth 100000
set_option autoImplicit false
set_option maxHeartbeats 4000000
/-! GB2: a part of a tree of one's own, far within -/
namespace EV
open PySem L2
def kidV (H : Hp) (a : Addr) (i : Nat) : Option V := match H a with
  | some (.lst vs) => vs[i]?
  | some (.tup vs) => vs[i]?
  | some (.dK es) => (es[i]?).map (·.2)
  | some (.dT es) => (es[i]?).map (·.2)
  | some (.ins _ _ fs) => (fs[i]?).map (·.2)
  | _ => none
def navV (H : Hp) : V → List Nat → Option V
  | v, [] => some v
  | .ref a, i :: p => (kidV H a i).bind fun u => navV H u p
  | _, _ => none
theorem kids_dict {kvs : List (D × D)} (h : isX kvs = false) : kids (.dict kvs) = kvs.map (·.2) := by
  unfold kids
  split
  · rename_i e; cases e
  · rename_i e; cases e
  · rename_i e; cases e; cases h
  · rename_i e; cases e; rfl
  · rename_i q; exact (q _ rfl).elim
theorem setKid_dict {kvs : List (D × D)} (h : isX kvs = false) (i : Nat) (y : D) : setKid (.dict kvs) i y = .dict (kvs.modify i fun p => (p.1, y)) := by
  unfold setKid
  split
  · rename_i e; cases e
  · rename_i e; cases e
  · rename_i e; cases e; cases h
  · rename_i e; cases e; rfl
  · rename_i q; exact (q _ rfl).elim
theorem kidSh_dict {kvs : List (D × D)} (h : isX kvs = false) (s : Sh) (i : Nat) : kidSh (.o s) (.dict kvs) i = some s := by
  unfold kidSh
  simp [h]
theorem modify_fst {α β : Type} (kvs : List (α × β)) : ∀ (i : Nat) (y : β), (kvs.modify i fun p => (p.1, y)).map (·.1) = kvs.map (·.1) := by
  induction kvs with
  | nil => intro i y; cases i <;> rfl
  | cons a r ih => intro i y; cases i with
    | zero => simp
    | succ i => simp [ih]
theorem modify_snd {α β : Type} (kvs : List (α × β)) : ∀ (i : Nat) (y : β), (kvs.modify i fun p => (p.1, y)).map (·.2) = (kvs.map (·.2)).set i y := by
  induction kvs with
  | nil => intro i y; cases i <;> rfl
  | cons a r ih => intro i y; cases i with
    | zero => simp
    | succ i => simp [ih]
theorem set_same {α : Type} : ∀ {l : List α} {i : Nat} {x : α}, l[i]? = some x → l.set i x = l
  | [], _, _, h => by simp at h
  | a :: r, 0, x, h => by simp at h; rw [List.set_cons_zero, h]
  | a :: r, i + 1, x, h => by rw [List.set_cons_succ, set_same (l := r) (by simpa using h)]
section
variable {T : Kt} {io : List Addr} {M : Addr → Prop} {H : Hp}
def Fits (T : Kt) (io : List Addr) (M : Addr → Prop) (H : Hp) (s : Sh) (x : D) (v : V) (F : List Addr) (p : List Nat) (s' : Sh) (y : D) : Prop :=
  ∃ u F1 F2 F3, navV H v p = some u ∧ OT T io M H s' y u F2 ∧ F = F1 ++ (F2 ++ F3) ∧
    (∀ {io' : List Addr} {M' : Addr → Prop} {H' : Hp} {y' : D} {F2' : List Addr}, Keeps M H M' H' → (∃ l, io' = io ++ l) → (∀ a ∈ F1 ++ F3, H' a = H a) → OT T io' M' H' s' y' u F2' → OT T io' M' H' s (setAt x p y') v (F1 ++ (F2' ++ F3))) ∧
    ∀ {H' : Hp}, (∀ a o, H a = some o → ¬ M a → H' a = some o) → (∀ a ∈ F1 ++ F3, H' a = H a) → navV H' v p = some u
/-- through one node -/
theorem Fits.step {s : Sh} {x : D} {a : Addr} {F F0 : List Addr} {i : Nat} {p : List Nat} {s' : Sh} {y c : D} {ss : List Sh} {vs : List V} (pre : List Addr) (eF : F = pre ++ F0)
    (r : OTs T io M H ss (kids x) vs F0) (hc : (kids x)[i]? = some c) (hk : ∀ j, kidV H a j = vs[j]?)
    (hk2 : ∀ {H' : Hp}, (∀ a o, H a = some o → ¬ M a → H' a = some o) → (∀ a ∈ pre, H' a = H a) → ∀ j, kidV H' a j = vs[j]?)
    (re : ∀ {io' : List Addr} {M' : Addr → Prop} {H' : Hp} {c' : D} {F0' : List Addr}, Keeps M H M' H' → (∃ l, io' = io ++ l) → (∀ a ∈ pre, H' a = H a) → OTs T io' M' H' ss ((kids x).set i c') vs F0' → OT T io' M' H' s (setKid x i c') (.ref a) (pre ++ F0'))
    (ih : ∀ {sc u F2}, ss[i]? = some sc → OT T io M H sc c u F2 → Fits T io M H sc c u F2 p s' y) : Fits T io M H s x (.ref a) F (i :: p) s' y := by
  obtain ⟨sc, u, F1, F2, F3, h1, h2, h3, rfl, h5⟩ := r.get hc
  obtain ⟨w, G1, G2, G3, g1, g2, rfl, g4, g5⟩ := ih h1 h3
  refine ⟨w, pre ++ (F1 ++ G1), G2, G3 ++ F3, ?_, g2, by rw [eF]; simp, fun {io' M' H' y' F2'} k l h o => ?_, fun {H'} k h => ?_⟩
  · show (kidV H a i).bind _ = _
    rw [hk, h2]
    exact g1
  · have h6 := g4 k l (fun b m => h b (by simp at m ⊢; rcases m with m | m <;> simp [m])) o
    have h7 := h5 k l (fun b m => h b (by simp at m ⊢; rcases m with m | m <;> simp [m])) h6
    rw [set_same h2] at h7
    have h8 := re k l (fun b m => h b (by simp [m])) h7
    have e : setAt x (i :: p) y' = setKid x i (setAt c p y') := by
      rw [setAt]
      simp only [hc]
    rw [e]
    simpa using h8
  · show (kidV H' a i).bind _ = _
    rw [hk2 k (fun b m => h b (by simp [m])), h2]
    exact g5 k fun b m => h b (by simp at m ⊢; rcases m with m | m <;> simp [m])
theorem rep_get {n i : Nat} {s sc : Sh} (h : (List.replicate n s)[i]? = some sc) : sc = s := by
  rw [List.getElem?_replicate] at h
  split at h
  · cases h; rfl
  · cases h
theorem OT.fits : ∀ (p : List Nat) {s : Sh} {x : D} {v : V} {F : List Addr} {s' : Sh} {y : D}, OT T io M H s x v F → nav s x p = some (s', y) → Fits T io M H s x v F p s' y
  | [], s, x, v, F, s', y, o, e => by
    cases e
    refine ⟨v, [], F, [], rfl, o, by simp, fun {io' M' H' y' F2'} k l h o => ?_, fun k h => rfl⟩
    rw [setAt]
    simpa using o
  | i :: p, s, x, v, F, s', y, o, e => by
    rw [nav] at e
    cases e1 : kidSh s x i with
    | none => rw [e1] at e; cases e
    | some sc =>
      cases e2 : (kids x)[i]? with
      | none => rw [e1, e2] at e; cases e
      | some c =>
        rw [e1, e2] at e
        have e : nav sc c p = some (s', y) := e
        cases o with
        | z d => cases e1
        | r d => cases e1
        | rz q d => cases e1
        | «at» q => cases x <;> first | (simp [kids] at e2; done) | (cases q; done)
        | hole => cases e1
        | @lst s0 xs vs a F0 q r =>
          refine Fits.step [a] rfl (ss := List.replicate xs.length s0) (vs := vs) r e2 (fun j => ?_) (fun {H'} k h j => ?_) (fun {io' M' H' c' F0'} k l h r' => ?_) fun {s1 u F2} h1 o1 => ?_
          · unfold kidV; rw [q]
          · unfold kidV; rw [h a (by simp), q]
          · exact .lst (by rw [h a (by simp), q]) (by rw [List.length_set]; exact r')
          · obtain rfl := rep_get h1
            cases e1
            exact OT.fits p o1 e
        | @tup s0 xs vs a F0 q n r =>
          refine Fits.step [] rfl (ss := List.replicate xs.length s0) (vs := vs) r e2 (fun j => ?_) (fun {H'} k h j => ?_) (fun {io' M' H' c' F0'} k l h r' => ?_) fun {s1 u F2} h1 o1 => ?_
          · unfold kidV; rw [q]
          · unfold kidV; rw [k _ _ q n]
          · exact .tup (k _ _ q n).1 (k _ _ q n).2 (by rw [List.length_set]; exact r')
          · obtain rfl := rep_get h1
            cases e1
            exact OT.fits p o1 e
        | @dct s0 kvs vs a F0 q r =>
          have nx := q.isX
          rw [kidSh_dict nx] at e1
          cases e1
          have r' := r
          rw [← kids_dict nx] at r'
          refine Fits.step [a] rfl (ss := List.replicate kvs.length sc) (vs := vs) r' e2 (fun j => ?_) (fun {H'} k h j => ?_) (fun {io' M' H' c' F0'} k l h r2 => ?_) fun {s1 u F2} h1 o1 => ?_
          · unfold kidV; rcases q with ⟨es, q, _, rfl⟩ | ⟨es, q, _, rfl⟩ <;> rw [q] <;> simp
          · unfold kidV; rcases q with ⟨es, q, _, rfl⟩ | ⟨es, q, _, rfl⟩ <;> rw [h a (by simp), q] <;> simp
          · rw [setKid_dict nx]
            rw [kids_dict nx, ← modify_snd] at r2
            refine .dct ?_ (by rw [List.length_modify]; exact r2)
            have q2 : DK H' a kvs vs := q.same (h a (by simp))
            unfold DK
            rw [modify_fst]
            exact q2
          · obtain rfl := rep_get h1
            exact OT.fits p o1 e
        | @ins c0 kvs vs a F0 q r =>
          refine Fits.step [a] rfl (x := insD c0 kvs) (ss := kvs.map fun p => keySh p.1) (vs := vs) r e2 (fun j => ?_) (fun {H'} k h j => ?_) (fun {io' M' H' c' F0'} k l h r2 => ?_) fun {s1 u F2} h1 o1 => ?_
          · unfold kidV; obtain ⟨_, _, _, _, dx, fs, q, rfl, _⟩ := q; rw [q]; simp
          · unfold kidV; obtain ⟨_, _, _, _, dx, fs, q, rfl, _⟩ := q; rw [h a (by simp), q]; simp
          · have r2 : OTs T io' M' H' (kvs.map fun p => keySh p.1) ((kvs.map (·.2)).set i c') vs F0' := r2
            rw [← modify_snd] at r2
            refine .ins (kvs := kvs.modify i fun p => (p.1, c')) (vs := vs) ?_ ?_
            · obtain ⟨g1, g2, g3, g4, dx, fs, q1, q2, q3, q4⟩ := q.same (H' := H') (h a (by simp))
              refine ⟨g1, g2, g3, g4, dx, fs, q1, q2, by rw [List.length_modify]; exact q3, fun j p1 p2 h1 h2 => ?_⟩
              have e0 : ((kvs.modify i fun p => (p.1, c')).map (·.1))[j]? = some p1.1 := by rw [List.getElem?_map, h1]; rfl
              rw [modify_fst, List.getElem?_map] at e0
              cases e3 : kvs[j]? with
              | none => rw [e3] at e0; cases e0
              | some p3 =>
                rw [e3] at e0
                obtain ⟨n, g1, g2⟩ := q4 j p3 p2 e3 h2
                have e0 : p3.1 = p1.1 := by simpa using e0
                exact ⟨n, by rw [← e0]; exact g1, g2⟩
            · have e4 : ((kvs.modify i fun p => (p.1, c')).map fun p => keySh p.1) = kvs.map fun p => keySh p.1 := by
                have := congrArg (List.map keySh) (modify_fst kvs i c')
                rw [List.map_map, List.map_map] at this
                exact this
              rw [e4]
              exact r2
          · have h1 : (kvs.map fun p => keySh p.1)[i]? = some s1 := h1
            have e1 : (kvs[i]?).map (fun p => keySh p.1) = some sc := e1
            rw [List.getElem?_map] at h1
            rw [h1] at e1
            cases e1
            exact OT.fits p o1 e
end
end EV
end
section
set_option Elab.async false
set_option linter.all false
set_option maxRecDepth 100000
set_option autoImplicit false
set_option maxHeartbeats 4000000
/-! GB3: what stands at a moment; what a step keeps -/
namespace EV
open PySem L2
/-- the shared things' addresses; each root's own addresses; those of what is just made; other ones that are changed by others -/
structure Gh where
  io : List Addr
  fs : Nat → List Addr
  fh : Nat → List Addr
  tm : List Addr
  A : Addr → Prop
def Gh.fp (G : Gh) : Rt → List Addr
  | .s i => G.fs i
  | .c n => G.fh n
def Gh.fpx (G : Gh) : Option Rt → List Addr
  | some t => G.fp t
  | none => G.tm
def MW (G : Gh) : Addr → Prop := fun a => ∃ t, a ∈ G.fpx t
def MM (G : Gh) : Addr → Prop := fun a => MW G a ∨ G.A a
theorem MW.mm {G : Gh} : ∀ a, MW G a → MM G a := fun _ h => .inl h
def rootV (G : Gh) (σ : St) : Rt → Option V
  | .s i => match σ[i]? with
    | some (some v) => some v
    | _ => none
  | .c n => (G.io[n]?).map .ref
def Ste.lkd (S : Ste) : Rt → Option (Sh × D)
  | .s i => match S.rho[i]? with
    | some (.lck sh x) => some (sh, x)
    | _ => none
  | .c n => match S.hp[n]? with
    | some (.lk sh x) => some (sh, x)
    | _ => none
/-- a value that may be kept -/
def SD (T : Kt) (G : Gh) (H : Hp) : Vl → V → Prop
  | .d x, v => Dn T.K (MM G) H true x v
  | .r n, v => ∃ a, G.io[n]? = some a ∧ v = .ref a
  | .w x, v => Dn T.K (MW G) H true x v
  | .k x, v => ∀ M H', Dn T.K M H' false x v
  | .pk _ _, _ => False
def VD (T : Kt) (G : Gh) (S : Ste) (σ : St) (H : Hp) : Vl → V → Prop
  | .pk t p, v => ∃ v0 q, rootV G σ t = some v0 ∧ navV H v0 p = some v ∧ S.at t p = some q
  | x, v => SD T G H x v
structure Ok (T : Kt) (G : Gh) (S : Ste) (σ : St) (H : Hp) : Prop where
  len : S.rho.length = σ.length
  hlen : G.io.length = S.hp.length
  val : ∀ (i : Nat) (x : Vl), S.rho[i]? = some (.v x) → ∃ v, σ[i]? = some (some v) ∧ SD T G H x v
  own : ∀ (t : Rt) (sh : Sh) (x : D), S.get t = some (sh, x) → ∃ v, rootV G σ t = some v ∧ OT T G.io (MM G) H sh x v (G.fp t)
  no : ∀ t, S.get t = none → G.fp t = []
  nd : ∀ t, (G.fpx t).Nodup
  dj : ∀ (t t' : Option Rt) (a : Addr), a ∈ G.fpx t → a ∈ G.fpx t' → t = t'
  dA : ∀ (t : Option Rt) (a : Addr), a ∈ G.fpx t → ¬ G.A a
  tr : ∀ a, a ∈ G.tm ∨ G.A a → ∃ u, H a = some u ∧ notTup u
structure Stp (G : Gh) (S : Ste) (σ : St) (H : Hp) (G' : Gh) (S' : Ste) (σ' : St) (H' : Hp) : Prop where
  io : ∃ l, G'.io = G.io ++ l
  A : G'.A = G.A
  mono : Keeps (MM G) H (MM G') H'
  monoW : Keeps (MW G) H (MW G') H'
  tm : G'.tm = G.tm ∧ ∀ a ∈ G.tm, H' a = H a
  anon : ∀ a, G.A a → H' a = H a
  lck : ∀ (t : Rt) (q : Sh × D), S.lkd t = some q → S'.lkd t = some q ∧ rootV G' σ' t = rootV G σ t ∧ G'.fp t = G.fp t ∧ ∀ a ∈ G.fp t, H' a = H a
  hid : ∀ n : Nat, S.hp[n]? = some Cell.hid → S'.hp[n]? = some Cell.hid
  tr : ∀ a o, H a = some o → ∃ u, H' a = some u
theorem Stp.refl (G : Gh) (S : Ste) (σ : St) (H : Hp) : Stp G S σ H G S σ H :=
  ⟨⟨[], by simp⟩, rfl, Keeps.refl _ _, Keeps.refl _ _, ⟨rfl, fun _ _ => rfl⟩, fun _ _ => rfl, fun _ _ e => ⟨e, rfl, rfl, fun _ _ => rfl⟩, fun _ e => e, fun _ o e => ⟨o, e⟩⟩
theorem Stp.trans {G G1 G2 : Gh} {S S1 S2 : Ste} {σ σ1 σ2 : St} {H H1 H2 : Hp} (a : Stp G S σ H G1 S1 σ1 H1) (b : Stp G1 S1 σ1 H1 G2 S2 σ2 H2) : Stp G S σ H G2 S2 σ2 H2 := by
  refine ⟨?_, b.A.trans a.A, a.mono.trans b.mono, a.monoW.trans b.monoW, ⟨b.tm.1.trans a.tm.1, fun c h => by rw [b.tm.2 c (by rw [a.tm.1]; exact h), a.tm.2 c h]⟩, fun c h => ?_, fun t q e => ?_, fun n e => b.hid n (a.hid n e), fun c o e => let ⟨o1, e1⟩ := a.tr c o e; b.tr c o1 e1⟩
  · obtain ⟨l, e⟩ := a.io
    obtain ⟨l2, e2⟩ := b.io
    exact ⟨l ++ l2, by rw [e2, e, List.append_assoc]⟩
  · rw [b.anon c (by rw [a.A]; exact h), a.anon c h]
  · obtain ⟨e1, e2, e3, e4⟩ := a.lck t q e
    obtain ⟨f1, f2, f3, f4⟩ := b.lck t q e1
    exact ⟨f1, f2.trans e2, f3.trans e3, fun c m => by rw [f4 c (by rw [e3]; exact m), e4 c m]⟩
/-- what is but looked at stays, too -/
theorem keepsW {G G' : Gh} {H H' : Hp} (A : G'.A = G.A) (dA : ∀ (t : Option Rt) (a : Addr), a ∈ G'.fpx t → ¬ G'.A a) (m : Keeps (MM G) H (MM G') H') (an : ∀ a, G.A a → H' a = H a) : Keeps (MW G) H (MW G') H' := fun a o e n => by
  by_cases h : G.A a
  · exact ⟨by rw [an a h]; exact e, fun ⟨t, q⟩ => dA t a q (by rw [A]; exact h)⟩
  · obtain ⟨h1, h2⟩ := m a o e fun z => z.elim n h
    exact ⟨h1, fun z => h2 (.inl z)⟩
section
variable {T : Kt} {G G' : Gh} {S S' : Ste} {σ σ' : St} {H H' : Hp}
theorem Ok.tracked (o : Ok T G S σ H) {a : Addr} (h : MM G a) : ∃ u, H a = some u ∧ notTup u := by
  rcases h with ⟨t, h⟩ | h
  · cases t with
    | none => exact o.tr a (.inl h)
    | some t =>
      cases e : S.get t with
      | none => rw [show G.fpx (some t) = [] from o.no t e] at h; exact nomatch h
      | some q =>
        obtain ⟨v, _, ot⟩ := o.own t q.1 q.2 e
        exact OT.tracked _ _ _ _ ot a h
  · exact o.tr a (.inr h)
theorem Ok.tr1 (o : Ok T G S σ H) {a : Addr} (h : MM G a) : ∃ u, H a = some u := let ⟨u, e, _⟩ := o.tracked h; ⟨u, e⟩
theorem SD.mono {x : Vl} {v : V} (st : Stp G S σ H G' S' σ' H') (h : SD T G H x v) : SD T G' H' x v := by
  cases x with
  | d x => exact Dn.mono st.mono _ _ h
  | r n =>
    obtain ⟨a, e, rfl⟩ := h
    obtain ⟨l, e2⟩ := st.io
    refine ⟨a, ?_, rfl⟩
    rw [e2, List.getElem?_append_left (List.getElem?_eq_some_iff.mp e).1]
    exact e
  | w x => exact Dn.mono st.monoW _ _ h
  | k x => exact h
  | pk t p => exact h.elim
theorem VD.sd {x : Vl} {v : V} (n : isPk x = false) (h : VD T G S σ H x v) : SD T G H x v := by
  cases x with
  | pk t p => cases n
  | d x => exact h
  | r n => exact h
  | w x => exact h
  | k x => exact h
theorem SD.vd {x : Vl} {v : V} (h : SD T G H x v) : VD T G S σ H x v := by
  cases x with
  | pk t p => exact h.elim
  | d x => exact h
  | r n => exact h
  | w x => exact h
  | k x => exact h
theorem VD.step {x : Vl} {v : V} (n : isPk x = false) (st : Stp G S σ H G' S' σ' H') (h : VD T G S σ H x v) : VD T G' S' σ' H' x v := (SD.mono st (h.sd n)).vd
theorem Ok.congr (o : Ok T G S σ H) (l : S'.rho.length = S.rho.length) (l2 : S'.hp.length = S.hp.length) (v : ∀ (i : Nat) (x : Vl), S'.rho[i]? = some (.v x) → S.rho[i]? = some (.v x)) (g : ∀ t, S'.get t = S.get t) : Ok T G S' σ H :=
  ⟨by rw [l]; exact o.len, by rw [l2]; exact o.hlen, fun i x e => o.val i x (v i x e), fun t sh x e => o.own t sh x (by rw [← g]; exact e), fun t e => o.no t (by rw [← g]; exact e), o.nd, o.dj, o.dA, o.tr⟩
end
/-! ### locks -/
theorem lock_get (S : Ste) (t t' : Rt) : (S.lock t).get t' = S.get t' := by
  cases t with
  | s i =>
    unfold Ste.lock
    dsimp only
    split
    · rename_i sh x e
      cases t' with
      | s j =>
        unfold Ste.get
        by_cases h : j = i
        · subst h
          have hj : j < S.rho.length := (List.getElem?_eq_some_iff.mp e).1
          simp only [List.getElem?_set_self hj, e]
        · simp only [List.getElem?_set_ne (Ne.symm h)]
      | c n => rfl
    · rfl
  | c n =>
    unfold Ste.lock
    dsimp only
    split
    · rename_i sh x e
      cases t' with
      | c j =>
        unfold Ste.get
        by_cases h : j = n
        · subst h
          have hj : j < S.hp.length := (List.getElem?_eq_some_iff.mp e).1
          simp only [List.getElem?_set_self hj, e]
        · simp only [List.getElem?_set_ne (Ne.symm h)]
      | s i => rfl
    · rfl
theorem unlock_get (S : Ste) (t : Rt) (b : Bool) (t' : Rt) : (S.unlock t b).get t' = S.get t' := by
  unfold Ste.unlock
  cases b with
  | false => rfl
  | true =>
    cases t with
    | s i =>
      simp only [if_true]
      split
      · rename_i sh x e
        cases t' with
        | s j =>
          unfold Ste.get
          by_cases h : j = i
          · subst h
            have hj : j < S.rho.length := (List.getElem?_eq_some_iff.mp e).1
            simp only [List.getElem?_set_self hj, e]
          · simp only [List.getElem?_set_ne (Ne.symm h)]
        | c n => rfl
      · rfl
    | c n =>
      simp only [if_true]
      split
      · rename_i sh x e
        cases t' with
        | c j =>
          unfold Ste.get
          by_cases h : j = n
          · subst h
            have hj : j < S.hp.length := (List.getElem?_eq_some_iff.mp e).1
            simp only [List.getElem?_set_self hj, e]
          · simp only [List.getElem?_set_ne (Ne.symm h)]
        | s i => rfl
      · rfl
theorem lock_rho (S : Ste) (t : Rt) : (S.lock t).rho.length = S.rho.length ∧ (S.lock t).hp.length = S.hp.length ∧ (∀ (i : Nat) (x : Vl), (S.lock t).rho[i]? = some (.v x) ↔ S.rho[i]? = some (.v x)) ∧ ∀ n : Nat, (S.lock t).hp[n]? = some .hid ↔ S.hp[n]? = some .hid := by
  cases t with
  | s i =>
    unfold Ste.lock
    dsimp only
    split
    · rename_i sh x e
      have hi : i < S.rho.length := (List.getElem?_eq_some_iff.mp e).1
      refine ⟨by simp, rfl, fun j y => ?_, fun n => Iff.rfl⟩
      by_cases h : j = i
      · subst h
        simp only [List.getElem?_set_self hi, e]
        constructor <;> intro h <;> cases h
      · simp only [List.getElem?_set_ne (Ne.symm h)]
    · exact ⟨rfl, rfl, fun _ _ => Iff.rfl, fun _ => Iff.rfl⟩
  | c n =>
    unfold Ste.lock
    dsimp only
    split
    · rename_i sh x e
      have hn : n < S.hp.length := (List.getElem?_eq_some_iff.mp e).1
      refine ⟨rfl, by simp, fun _ _ => Iff.rfl, fun j => ?_⟩
      by_cases h : j = n
      · subst h
        simp only [List.getElem?_set_self hn, e]
        constructor <;> intro h <;> cases h
      · simp only [List.getElem?_set_ne (Ne.symm h)]
    · exact ⟨rfl, rfl, fun _ _ => Iff.rfl, fun _ => Iff.rfl⟩
theorem unlock_rho (S : Ste) (t : Rt) (b : Bool) : (S.unlock t b).rho.length = S.rho.length ∧ (S.unlock t b).hp.length = S.hp.length ∧ (∀ (i : Nat) (x : Vl), (S.unlock t b).rho[i]? = some (.v x) ↔ S.rho[i]? = some (.v x)) ∧ ∀ n : Nat, (S.unlock t b).hp[n]? = some .hid ↔ S.hp[n]? = some .hid := by
  unfold Ste.unlock
  cases b with
  | false => exact ⟨rfl, rfl, fun _ _ => Iff.rfl, fun _ => Iff.rfl⟩
  | true =>
    cases t with
    | s i =>
      simp only [if_true]
      split
      · rename_i sh x e
        have hi : i < S.rho.length := (List.getElem?_eq_some_iff.mp e).1
        refine ⟨by simp, rfl, fun j y => ?_, fun n => Iff.rfl⟩
        by_cases h : j = i
        · subst h
          simp only [List.getElem?_set_self hi, e]
          constructor <;> intro h <;> cases h
        · simp only [List.getElem?_set_ne (Ne.symm h)]
      · exact ⟨rfl, rfl, fun _ _ => Iff.rfl, fun _ => Iff.rfl⟩
    | c n =>
      simp only [if_true]
      split
      · rename_i sh x e
        have hn : n < S.hp.length := (List.getElem?_eq_some_iff.mp e).1
        refine ⟨rfl, by simp, fun _ _ => Iff.rfl, fun j => ?_⟩
        by_cases h : j = n
        · subst h
          simp only [List.getElem?_set_self hn, e]
          constructor <;> intro h <;> cases h
        · simp only [List.getElem?_set_ne (Ne.symm h)]
      · exact ⟨rfl, rfl, fun _ _ => Iff.rfl, fun _ => Iff.rfl⟩
theorem lkd_get {S : Ste} {t : Rt} {q : Sh × D} (h : S.lkd t = some q) : S.get t = some q := by
  cases t with
  | s i =>
    unfold Ste.lkd at h
    unfold Ste.get
    dsimp only at h ⊢
    split at h
    · rename_i sh x e
      simp only [e, h]
    · cases h
  | c n =>
    unfold Ste.lkd at h
    unfold Ste.get
    dsimp only at h ⊢
    split at h
    · rename_i sh x e
      simp only [e, h]
    · cases h
theorem lkd_free {S : Ste} {t : Rt} {q : Sh × D} (h : S.lkd t = some q) : S.free t = false := by
  cases t with
  | s i =>
    unfold Ste.lkd at h
    unfold Ste.free
    dsimp only at h ⊢
    split at h
    · rename_i sh x e
      simp only [e]
    · cases h
  | c n =>
    unfold Ste.lkd at h
    unfold Ste.free
    dsimp only at h ⊢
    split at h
    · rename_i sh x e
      simp only [e]
    · cases h
theorem lock_lkd {S : Ste} {t t' : Rt} {q : Sh × D} (h : S.lkd t' = some q) : (S.lock t).lkd t' = some q := by
  by_cases e : t' = t
  · subst e
    have hf := lkd_free h
    have : S.lock t' = S := by
      cases t' with
      | s i =>
        unfold Ste.free at hf
        unfold Ste.lock
        dsimp only at hf ⊢
        split
        · rename_i e; simp only [e] at hf; cases hf
        · rfl
      | c n =>
        unfold Ste.free at hf
        unfold Ste.lock
        dsimp only at hf ⊢
        split
        · rename_i e; simp only [e] at hf; cases hf
        · rfl
    rw [this]
    exact h
  · cases t with
    | s i =>
      unfold Ste.lock
      dsimp only
      split
      · cases t' with
        | s j =>
          have hj : j ≠ i := fun z => e (by rw [z])
          unfold Ste.lkd at h ⊢
          dsimp only
          rw [List.getElem?_set_ne (Ne.symm hj)]
          exact h
        | c n => exact h
      · exact h
    | c n =>
      unfold Ste.lock
      dsimp only
      split
      · cases t' with
        | c j =>
          have hj : j ≠ n := fun z => e (by rw [z])
          unfold Ste.lkd at h ⊢
          dsimp only
          rw [List.getElem?_set_ne (Ne.symm hj)]
          exact h
        | s i => exact h
      · exact h
/-- behind a lock it is locked -/
theorem lock_is {S : Ste} {t : Rt} {q : Sh × D} (h : S.get t = some q) : (S.lock t).lkd t = some q := by
  cases t with
  | s i =>
    unfold Ste.get at h
    unfold Ste.lock
    dsimp only at h ⊢
    split
    · rename_i sh x e
      simp only [e] at h
      have hi : i < S.rho.length := (List.getElem?_eq_some_iff.mp e).1
      unfold Ste.lkd
      simp only [List.getElem?_set_self hi, h]
    · rename_i n
      unfold Ste.lkd
      dsimp only
      split at h
      · rename_i e; exact (n _ _ e).elim
      · rename_i e; simp only [e, h]
      · cases h
  | c j =>
    unfold Ste.get at h
    unfold Ste.lock
    dsimp only at h ⊢
    split
    · rename_i sh x e
      simp only [e] at h
      have hi : j < S.hp.length := (List.getElem?_eq_some_iff.mp e).1
      unfold Ste.lkd
      simp only [List.getElem?_set_self hi, h]
    · rename_i n
      unfold Ste.lkd
      dsimp only
      split at h
      · rename_i e; exact (n _ _ e).elim
      · rename_i e; simp only [e, h]
      · cases h
theorem unlock_lkd {S : Ste} {t t' : Rt} {b : Bool} {q : Sh × D} (h : S.lkd t' = some q) (nb : b = true → t' ≠ t) : (S.unlock t b).lkd t' = some q := by
  unfold Ste.unlock
  cases b with
  | false => exact h
  | true =>
    have e := nb rfl
    cases t with
    | s i =>
      simp only [if_true]
      split
      · cases t' with
        | s j =>
          have hj : j ≠ i := fun z => e (by rw [z])
          unfold Ste.lkd at h ⊢
          dsimp only
          rw [List.getElem?_set_ne (Ne.symm hj)]
          exact h
        | c n => exact h
      · exact h
    | c n =>
      simp only [if_true]
      split
      · cases t' with
        | c j =>
          have hj : j ≠ n := fun z => e (by rw [z])
          unfold Ste.lkd at h ⊢
          dsimp only
          rw [List.getElem?_set_ne (Ne.symm hj)]
          exact h
        | s i => exact h
      · exact h
section
variable {T : Kt} {G G' : Gh} {S S' : Ste} {σ σ' : St} {H H' : Hp}
theorem Ok.lock (o : Ok T G S σ H) (t : Rt) : Ok T G (S.lock t) σ H :=
  o.congr (lock_rho S t).1 (lock_rho S t).2.1 (fun i x e => ((lock_rho S t).2.2.1 i x).mp e) (lock_get S t)
theorem Ok.unlock (o : Ok T G S σ H) (t : Rt) (b : Bool) : Ok T G (S.unlock t b) σ H :=
  o.congr (unlock_rho S t b).1 (unlock_rho S t b).2.1 (fun i x e => ((unlock_rho S t b).2.2.1 i x).mp e) (unlock_get S t b)
theorem Stp.lock (t : Rt) : Stp G S σ H G (S.lock t) σ H :=
  ⟨⟨[], by simp⟩, rfl, Keeps.refl _ _, Keeps.refl _ _, ⟨rfl, fun _ _ => rfl⟩, fun _ _ => rfl, fun _ _ e => ⟨lock_lkd e, rfl, rfl, fun _ _ => rfl⟩, fun n e => ((lock_rho S t).2.2.2 n).mpr e, fun _ o e => ⟨o, e⟩⟩
/-- from ahead of a lock till behind it -/
theorem Stp.unlock {t : Rt} (st : Stp G (S.lock t) σ H G' S' σ' H') : Stp G S σ H G' (S'.unlock t (S.free t)) σ' H' := by
  refine ⟨st.io, st.A, st.mono, st.monoW, st.tm, st.anon, fun t' q e => ?_, fun n e => ((unlock_rho S' t _).2.2.2 n).mpr (st.hid n (((lock_rho S t).2.2.2 n).mpr e)), st.tr⟩
  obtain ⟨e1, e2, e3, e4⟩ := st.lck t' q (lock_lkd e)
  refine ⟨unlock_lkd e1 fun hb z => ?_, e2, e3, e4⟩
  subst z
  rw [lkd_free e] at hb
  cases hb
/-- a place stays where it is, as long as its root is locked -/
theorem VD.held {t : Rt} {p : List Nat} {v : V} (o : Ok T G S σ H) (h : VD T G S σ H (.pk t p) v) (st : Stp G (S.lock t) σ H G' S' σ' H') : VD T G' S' σ' H' (.pk t p) v := by
  obtain ⟨v0, q, h1, h2, h3⟩ := h
  unfold Ste.at at h3
  cases e : S.get t with
  | none => rw [e] at h3; cases h3
  | some r =>
    rw [e] at h3
    have h3 : nav r.1 r.2 p = some q := h3
    obtain ⟨e1, e2, e3, e4⟩ := st.lck t r (lock_is e)
    obtain ⟨v1, h4, ot⟩ := o.own t r.1 r.2 e
    rw [h1] at h4
    cases h4
    obtain ⟨u, F1, F2, F3, f1, f2, f3, f4, f5⟩ := OT.fits p ot (s' := q.1) (y := q.2) h3
    rw [h2] at f1
    cases f1
    refine ⟨v0, q, by rw [e2]; exact h1, f5 (fun a w hw n => (st.mono a w hw n).1) (fun a m => e4 a (by rw [f3]; simp at m ⊢; rcases m with m | m <;> simp [m])), ?_⟩
    unfold Ste.at
    rw [lkd_get e1]
    exact h3
theorem VD.congr {x : Vl} {v : V} (g : ∀ t, S'.get t = S.get t) (h : VD T G S σ H x v) : VD T G S' σ H x v := by
  cases x with
  | pk t p =>
    obtain ⟨v0, q, h1, h2, h3⟩ := h
    refine ⟨v0, q, h1, h2, ?_⟩
    unfold Ste.at
    rw [g]
    exact h3
  | d x => exact h
  | r n => exact h
  | w x => exact h
  | k x => exact h
end
end EV
end
section
set_option Elab.async false
set_option linter.all false
set_option maxRecDepth 100000
set_option autoImplicit false
set_option maxHeartbeats 4000000
/-! GC: readings of what a term comes to -/
namespace EV
open PySem L2

abbrev WX := Nat → St → Hp → Prop
abbrev RL (α β : Type) := St → Gh → Ste → Hp → α → β → Prop
def Post {α β : Type} (T : Kt) (W : WX) (R : RL α β) (G : Gh) (S : Ste) (σ : St) (H : Hp) (Q : β → Hp → Prop) : Res α → Prop
  | .ok x S' => ∀ G' v H', Ok T G' S' σ H' → Stp G S σ H G' S' σ H' → R σ G' S' H' x v → Q v H'
  | .er c S' => ∀ G' H', Ok T G' S' σ H' → Stp G S σ H G' S' σ H' → W c σ H'
  | .stuck => False
def At {α β : Type} (T : Kt) (W : WX) (R : RL α β) (r : Ste → Res α) : St → Hp → (β → Hp → Prop) → Prop := fun σ H Q => ∃ G S, Ok T G S σ H ∧ Post T W R G S σ H Q (r S)
inductive VDs (T : Kt) (G : Gh) (S : Ste) (σ : St) (H : Hp) : List Vl → List V → Prop
  | nil : VDs T G S σ H [] []
  | cons {x : Vl} {v : V} {xs : List Vl} {vs : List V} : VD T G S σ H x v → VDs T G S σ H xs vs → VDs T G S σ H (x :: xs) (v :: vs)
def RV (T : Kt) : RL Vl V := fun σ G S H x v => VD T G S σ H x v
def RVs (T : Kt) : RL (List Vl) (List V) := fun σ G S H x v => VDs T G S σ H x v
def RB : RL Bool Bool := fun _ _ _ _ x v => x = v
def tE (T : Kt) (W : WX) (r : Ste → Res Vl) : TE := fun σ H Q => At T W (RV T) r σ H Q
def tA (T : Kt) (W : WX) (r : Ste → Res (List Vl)) : TA := fun σ H Q => At T W (RVs T) r σ H Q
def tT (T : Kt) (W : WX) (r : Ste → Res Bool) : TT := fun σ H Q => At T W RB r σ H Q
theorem _root_.L2.PE.imp {X : Cx} {e : Expr} {t t' : TE} (h : PE X e t) (i : ∀ σ H Q, t' σ H Q → t σ H Q) : PE X e t' := ⟨fun p s σ H Q I q => h.run p s σ H Q I (i _ _ _ q)⟩
theorem _root_.L2.PT.imp {X : Cx} {e : Expr} {t t' : TT} (h : PT X e t) (i : ∀ σ H Q, t' σ H Q → t σ H Q) : PT X e t' := ⟨fun p s σ H Q I q => h.run p s σ H Q I (i _ _ _ q)⟩
theorem _root_.L2.PW.imp {X : Cx} {e : Expr} {t t' : TT} (h : PW X e t) (i : ∀ σ H Q, t' σ H Q → t σ H Q) : PW X e t' := ⟨fun w p s σ H Q I q => h.run w p s σ H Q I (i _ _ _ q)⟩
theorem _root_.L2.PA.imp {X : Cx} {e : List Expr} {t t' : TA} (h : PA X e t) (i : ∀ σ H Q, t' σ H Q → t σ H Q) : PA X e t' := ⟨fun o p s σ H Q I q => h.run o p s σ H Q I (i _ _ _ q)⟩
theorem _root_.L2.PS.imp {X : Cx} {e : Stmt} {t t' : TS} (h : PS X e t) (i : ∀ D σ H, t' D σ H → t D σ H) : PS X e t' := ⟨fun p s σ H D I q => h.run p s σ H D I (i _ _ _ q)⟩
theorem _root_.L2.PSs.imp {X : Cx} {e : List Stmt} {t t' : TS} (h : PSs X e t) (i : ∀ D σ H, t' D σ H → t D σ H) : PSs X e t' := ⟨fun p s σ H D I q => h.run p s σ H D I (i _ _ _ q)⟩
theorem _root_.L2.PG.imp {X : Cx} {e : Expr} {t t' : TG} (h : PG X e t) (i : ∀ v σ H Q, t' v σ H Q → t v σ H Q) : PG X e t' := ⟨fun p s σ H v u Q I r q => h.run p s σ H v u Q I r (i _ _ _ _ q)⟩
theorem _root_.L2.PI.imp {X : Cx} {g e : Expr} {t t' : TI} (h : PI X g e t) (i : ∀ σ H Q, t' σ H Q → t σ H Q) : PI X g e t' := ⟨fun p s σ H R I q => h.run p s σ H R I (i _ _ _ q)⟩
/-- what does not hang on locks -/
def RCong {α β : Type} (R : RL α β) : Prop := ∀ σ G S S' H x v, (∀ t, Ste.get S' t = Ste.get S t) → R σ G S H x v → R σ G S' H x v
theorem rc_V {T : Kt} : RCong (RV T) := fun σ G S S' H x v g h => VD.congr g h
theorem VDs.congr {T : Kt} {G : Gh} {S S' : Ste} {σ : St} {H : Hp} (g : ∀ t, S'.get t = S.get t) : ∀ {xs : List Vl} {vs : List V}, VDs T G S σ H xs vs → VDs T G S' σ H xs vs
  | _, _, .nil => .nil
  | _, _, .cons a r => .cons (VD.congr g a) (VDs.congr g r)
theorem rc_Vs {T : Kt} : RCong (RVs T) := fun σ G S S' H x v g h => VDs.congr g h
theorem rc_B : RCong RB := fun σ G S S' H x v g h => h
section
variable {α β γ δ : Type} {T : Kt} {W : WX} {R : RL α β} {R' : RL γ δ} {G G1 : Gh} {S S1 : Ste} {σ : St} {H H1 : Hp}
theorem Post.shift {Q : β → Hp → Prop} {r : Res α} (h : Post T W R G S σ H Q r) (st : Stp G S σ H G1 S1 σ H1) : Post T W R G1 S1 σ H1 Q r := by
  cases r with
  | ok x S' => exact fun G' v H' o s r => h G' v H' o (st.trans s) r
  | er c S' => exact fun G' H' o s => h G' H' o (st.trans s)
  | stuck => exact h
theorem Post.seq {Q : δ → Hp → Prop} {Q' : β → Hp → Prop} {r : Res α} {f : α → Ste → Res γ} (h : Post T W R' G S σ H Q (r.bind f))
    (k : ∀ G1 S1 x v H1, Ok T G1 S1 σ H1 → Stp G S σ H G1 S1 σ H1 → R σ G1 S1 H1 x v → Post T W R' G1 S1 σ H1 Q (f x S1) → Q' v H1) : Post T W R G S σ H Q' r := by
  cases r with
  | ok x S' => exact fun G' v H' o s r => k G' S' x v H' o s r (h.shift s)
  | er c S' => exact h
  | stuck => exact h
theorem Post.of {Q : β → Hp → Prop} {o : Option α} (h : Post T W R G S σ H Q (Res.of o S)) : ∃ x, o = some x ∧ Post T W R G S σ H Q (.ok x S) := by
  cases o with
  | none => exact h.elim
  | some x => exact ⟨x, rfl, h⟩
/-- what is reckoned while a value waits: its root is locked -/
theorem Post.held {x : Vl} {v : V} {r : Ste → Res α} {f : α → Ste → Res γ} {Q : δ → Hp → Prop} {Q' : β → Hp → Prop} (rc : RCong R) (o : Ok T G S σ H) (hx : VD T G S σ H x v) (h : Post T W R' G S σ H Q ((x.held S r).bind f))
    (k : ∀ G2 S2 y u H2, Ok T G2 S2 σ H2 → Stp G S σ H G2 S2 σ H2 → VD T G2 S2 σ H2 x v → R σ G2 S2 H2 y u → Post T W R' G2 S2 σ H2 Q (f y S2) → Q' u H2) : At T W R r σ H Q' := by
  have plain : isPk x = false → x.held S r = r S := fun n => by cases x <;> first | rfl | cases n
  cases hp : isPk x with
  | false =>
    rw [plain hp] at h
    exact ⟨G, S, o, h.seq fun G2 S2 y u H2 o2 st2 r2 p2 => k G2 S2 y u H2 o2 st2 (VD.step hp st2 hx) r2 p2⟩
  | true =>
    cases x with
    | pk t p =>
      have h : Post T W R' G S σ H Q (((r (S.lock t)).map (fun s => s.unlock t (S.free t)) id).bind f) := h
      refine ⟨G, S.lock t, o.lock t, ?_⟩
      cases e : r (S.lock t) with
      | ok y S2 =>
        rw [e] at h
        intro G2 u H2 o2 st2 r2
        have s2 := Stp.unlock st2
        exact k G2 (S2.unlock t (S.free t)) y u H2 (o2.unlock _ _) s2 ((VD.held o hx st2).congr (unlock_get S2 t _)) (rc _ _ _ _ _ _ _ (unlock_get S2 t _) r2) (Post.shift (show Post T W R' G S σ H Q (f y (S2.unlock t (S.free t))) from h) s2)
      | er c S2 =>
        rw [e] at h
        intro G2 H2 o2 st2
        exact h G2 H2 (o2.unlock _ _) (Stp.unlock st2)
      | stuck => rw [e] at h; exact h
    | _ => cases hp
/-- further things are laid, nothing else is done -/
theorem Ok.same (o : Ok T G S σ H) (s : Same H H1) : Ok T G S σ H1 := by
  have k : Keeps (MM G) H (MM G) H1 := fun a u h n => ⟨s a u h, n⟩
  have kw : Keeps (MW G) H (MW G) H1 := fun a u h n => ⟨s a u h, n⟩
  have st : Stp G S σ H G S σ H1 := ⟨⟨[], by simp⟩, rfl, k, kw, ⟨rfl, fun a h => by obtain ⟨u, e, _⟩ := o.tr a (.inl h); rw [e]; exact s _ _ e⟩, fun a h => by obtain ⟨u, e, _⟩ := o.tr a (.inr h); rw [e]; exact s _ _ e, fun t q e => ⟨e, rfl, rfl, fun a m => by
      obtain ⟨u, e, _⟩ := o.tracked (.inl ⟨some t, m⟩); rw [e]; exact s _ _ e⟩, fun _ e => e, fun a o e => ⟨o, s a o e⟩⟩
  refine ⟨o.len, o.hlen, fun i x e => ?_, fun t sh x e => ?_, o.no, o.nd, o.dj, o.dA, fun a h => ?_⟩
  · obtain ⟨v, h1, h2⟩ := o.val i x e
    exact ⟨v, h1, SD.mono st h2⟩
  · obtain ⟨v, h1, h2⟩ := o.own t sh x e
    exact ⟨v, h1, OT.mono k ⟨[], by simp⟩ _ _ _ _ h2 fun a m => by
      obtain ⟨u, e, _⟩ := o.tracked (.inl ⟨some t, m⟩)
      rw [e]
      exact s _ _ e⟩
  · obtain ⟨u, h, n⟩ := o.tr a h
    exact ⟨u, s _ _ h, n⟩
theorem Stp.same (o : Ok T G S σ H) (s : Same H H1) : Stp G S σ H G S σ H1 :=
  ⟨⟨[], by simp⟩, rfl, fun a u h n => ⟨s a u h, n⟩, fun a u h n => ⟨s a u h, n⟩, ⟨rfl, fun a h => by obtain ⟨u, e, _⟩ := o.tr a (.inl h); rw [e]; exact s _ _ e⟩, fun a h => by obtain ⟨u, e, _⟩ := o.tr a (.inr h); rw [e]; exact s _ _ e, fun t q e => ⟨e, rfl, rfl, fun a m => by
      obtain ⟨u, e, _⟩ := o.tracked (.inl ⟨some t, m⟩); rw [e]; exact s _ _ e⟩, fun _ e => e, fun a o e => ⟨o, s a o e⟩⟩
end
theorem Same.upd {H : Hp} {p : Addr} {o : HO} (h : H p = none) : Same H (upd H p o) := fun b x e => by
  rw [upd_ne (ne_of_none e h)]
  exact e
section
variable {K : PySem.W.Frag} {M : Addr → Prop} {H : Hp}
theorem Keeps.upd {p : Addr} {o : HO} (h : H p = none) : Keeps M H M (upd H p o) := fun a u e n => ⟨Same.upd h a u e, n⟩
theorem newL {p : Addr} {xs : List D} {vs : List V} (tr : ∀ a, M a → ∃ o, H a = some o) (h : H p = none) (l : DnL K M H xs vs) : Dn K M (upd H p (.lst vs)) true (.list xs) (.ref p) :=
  .lst (.inl upd_same) (fun _ m => by obtain ⟨o, e⟩ := tr p m; rw [h] at e; cases e) (DnL.mono (Keeps.upd h) _ _ l)
theorem newT {p : Addr} {xs : List D} {vs : List V} (tr : ∀ a, M a → ∃ o, H a = some o) (h : H p = none) (l : DnL K M H xs vs) : Dn K M (upd H p (.tup vs)) true (.tuple xs) (.ref p) :=
  .tup upd_same (fun m => by obtain ⟨o, e⟩ := tr p m; rw [h] at e; cases e) (DnL.mono (Keeps.upd h) _ _ l)
/-- a new list at a -/
def NewC (K : PySem.W.Frag) (M : Addr → Prop) (H : Hp) (d : D) (a : Addr) (H' : Hp) : Prop := (isC d = true → H a = none) ∧ ∀ ys, d = .list ys → ∃ us, H' = upd H a (.lst us) ∧ DnL K M H ys us
theorem NewC.of {K : PySem.W.Frag} {M : Addr → Prop} {H : Hp} {d : D} {a : Addr} {H' : Hp} (n : H a = none) (h : ∀ ys, d = .list ys → ∃ us, H' = upd H a (.lst us) ∧ DnL K M H ys us) : NewC K M H d a H' := ⟨fun _ => n, h⟩
theorem NewC.tup {K : PySem.W.Frag} {M : Addr → Prop} {H : Hp} {xs : List D} {a : Addr} {H' : Hp} : NewC K M H (.tuple xs) a H' := ⟨fun c => (nomatch c), fun ys e => (nomatch e)⟩
/-- an operation on data that changes nothing -/
def rP (K : PySem.W.Frag) (fr : Bool) (g : List D → Option D) : List V → Hp → VK → Prop := fun vs H Q => ∃ (M : Addr → Prop) (ds : List D) (d : D), (∀ a, M a → ∃ o, H a = some o) ∧ DnF K M H ds vs ∧ g ds = some d ∧
  ∀ z H', Same H H' → Dn K M H' true d z → (fr = true → ∀ a, z = .ref a → NewC K M H d a H') → Q z H'
end
/-- what may be changed, by how data is looked at -/
def Mt (G : Gh) (t : Nat) : Addr → Prop := if t = 0 then MM G else if t = 1 then MW G else fun _ => False
theorem Mt.less {G : Gh} {t u : Nat} (h : t ≤ u) : ∀ a, Mt G u a → Mt G t a := fun a m => by
  unfold Mt at m ⊢
  by_cases h0 : t = 0
  · rw [if_pos h0]
    split at m
    · exact m
    · split at m
      · exact .inl m
      · exact m.elim
  · rw [if_neg h0]
    by_cases h1 : t = 1
    · rw [if_pos h1]
      split at m
      · omega
      · split at m
        · exact m
        · exact m.elim
    · rw [if_neg h1]
      split at m
      · omega
      · split at m
        · omega
        · exact m
section
variable {T : Kt} {W : WX} {G : Gh} {S : Ste} {σ : St} {H H' : Hp}
theorem Mt.mm {t : Nat} : ∀ a, Mt G t a → MM G a := fun a m => Mt.less (Nat.zero_le t) a m
theorem pure_of {o : Option (Sh × D)} {d : D} (h : pure? o = some d) : ∃ sh, o = some (sh, d) ∧ noRf d = true := by
  unfold pure? at h
  split at h
  · rename_i sh x
    split at h
    · rename_i e
      cases h
      exact ⟨sh, rfl, e⟩
    · cases h
  · cases h
/-- a place's thing as it is -/
theorem Ok.pk (o : Ok T G S σ H) {t : Rt} {p : List Nat} {v : V} {sh : Sh} {d : D} (h : VD T G S σ H (.pk t p) v) (e : S.at t p = some (sh, d)) : ∃ F, (∀ a ∈ F, a ∈ G.fp t) ∧ OT T G.io (MM G) H sh d v F := by
  obtain ⟨v0, q, h1, h2, h3⟩ := h
  unfold Ste.at at e
  cases e0 : S.get t with
  | none => rw [e0] at e; cases e
  | some r =>
    rw [e0] at e
    obtain ⟨v1, h4, ot⟩ := o.own t r.1 r.2 e0
    rw [h1] at h4
    cases h4
    obtain ⟨u, F1, F2, F3, f1, f2, f3, f4, f5⟩ := OT.fits p ot (s' := sh) (y := d) e
    rw [h2] at f1
    cases f1
    exact ⟨F2, fun a m => by rw [f3]; simp [m], f2⟩
theorem Ok.res (o : Ok T G S σ H) {x : Vl} {v : V} {d : D} {t : Nat} (h : VD T G S σ H x v) (e : S.res x = some d) (ht : x.tnt ≤ t) : Dn T.K (Mt G t) H false d v := by
  cases x with
  | d x =>
    cases e
    exact Dn.weak (Dn.anti Mt.mm _ _ _ h)
  | k x =>
    cases e
    exact h _ _
  | w x =>
    cases e
    have h : Dn T.K (MW G) H true d v := h
    refine Dn.weak (Dn.anti (fun a m => ?_) _ _ _ h)
    have := Mt.less (G := G) (t := 1) (u := t) ht a m
    unfold Mt at this
    simpa using this
  | r n =>
    obtain ⟨a, h1, rfl⟩ := h
    obtain ⟨sh, e1, p⟩ := pure_of e
    obtain ⟨v, h2, ot⟩ := o.own (.c n) sh d e1
    have : v = .ref a := by
      simp only [rootV, h1] at h2
      cases h2
      rfl
    subst this
    have m : ∀ a, ¬ Mt G t a := fun a m => by
      have := Mt.less (G := G) (t := 2) (u := t) ht a m
      unfold Mt at this
      simp at this
    exact Dn.weak (OT.frz (fun a q => (m a q).elim) _ _ _ _ ot p fun a _ q => m a q)
  | pk t' p =>
    obtain ⟨sh, e1, q⟩ := pure_of e
    obtain ⟨F, _, ot⟩ := o.pk h e1
    have m : ∀ a, ¬ Mt G t a := fun a m => by
      have := Mt.less (G := G) (t := 2) (u := t) ht a m
      unfold Mt at this
      simp at this
    exact Dn.weak (OT.frz (fun a q => (m a q).elim) _ _ _ _ ot q fun a _ q => m a q)
theorem Ok.ressL (o : Ok T G S σ H) : ∀ {xs : List Vl} {vs : List V} {ds : List D} {t : Nat}, VDs T G S σ H xs vs → S.ress xs = some ds → tnts xs ≤ t → DnF T.K (Mt G t) H ds vs
  | _, _, _, _, .nil, e, _ => by cases e; exact .nil
  | x :: xs, v :: vs, ds, t, .cons a r, e, ht => by
    unfold Ste.ress at e
    unfold tnts at ht
    split at e
    · rename_i d ds' h1 h2
      cases e
      exact .cons (o.res a h1 (by omega)) (o.ressL r h2 (by omega))
    · cases e
/-- data that nothing changeable is in is so by any look -/
theorem Dn.flat {K : PySem.W.Frag} {M M' : Addr → Prop} (tr : ∀ a, M' a → ∃ u, H a = some u ∧ notTup u) : ∀ (b : Bool) (x : D) (v : V), Dn K M H b x v → flat x = true → Dn K M' H b x v := by
  have nt : ∀ {a : Addr} {vs : List V}, H a = some (.tup vs) → ¬ M' a := fun r m => by
    obtain ⟨u, e, n⟩ := tr _ m
    rw [r] at e
    cases e
    exact n
  intro b x v h
  refine Dn.rec (motive_1 := fun b x v _ => EV.flat x = true → Dn K M' H b x v) (motive_2 := fun xs vs _ => flats xs = true → DnL K M' H xs vs) ?_ ?_ ?_ ?_ ?_ ?_ ?_ ?_ ?_ ?_ ?_ ?_ ?_ h
  · intro b _; exact .non
  · intro b k _; exact .bl k
  · intro b i _; exact .int i
  · intro b x _; exact .str x
  · intro b a xs vs r n l ih f; cases f
  · intro b a xs vs r l ih f; cases f
  · intro b a xs vs r n l ih f; exact .tup r (nt r) (ih (by rw [EV.flat] at f; exact f))
  · intro b a xs vs r q l ih f; exact .tupK r q (ih (by rw [EV.flat] at f; exact f))
  · intro b a kvs ds vs es r n q0 q l q2 ih f; cases f
  · intro b a kvs ds vs es r n q0 q l q2 ih f; cases f
  · intro b a C n c x r q f; cases f
  · intro _; exact .nil
  · intro x v xs vs a r ih1 ih2 f
    rw [flats, Bool.and_eq_true] at f
    exact .cons (ih1 f.1) (ih2 f.2)
theorem DnL.flat {K : PySem.W.Frag} {M M' : Addr → Prop} (tr : ∀ a, M' a → ∃ u, H a = some u ∧ notTup u) : ∀ (xs : List D) (vs : List V), DnL K M H xs vs → flats xs = true → DnL K M' H xs vs
  | _, _, .nil, _ => .nil
  | _, _, .cons a r, f => by
    rw [flats, Bool.and_eq_true] at f
    exact .cons (Dn.flat tr _ _ _ a f.1) (DnL.flat tr _ _ r f.2)
theorem Ok.trH (o : Ok T G S σ H) (s : Same H H') : ∀ a, MM G a → ∃ u, H' a = some u ∧ notTup u := fun a m => let ⟨u, e, n⟩ := o.tracked m; ⟨u, s _ _ e, n⟩
theorem mkv_of {fr : Bool} {t : Nat} {d : D} {y : Vl} {z : V} (o : Ok T G S σ H) (s : Same H H') (e : mkv fr t d = some y) (dn : Dn T.K (Mt G t) H' true d z) (nw : fr = true → ∀ a, z = .ref a → NewC T.K (Mt G t) H d a H') : VD T G S σ H' y z := by
  have tr := o.trH s
  unfold mkv at e
  split at e
  · rename_i h
    cases e
    subst h
    exact dn
  · split at e
    · rename_i h0 h
      cases e
      show Dn T.K (MM G) H' true d z
      cases hf : flat d with
      | true => exact Dn.flat tr _ _ _ dn hf
      | false =>
        rw [hf] at h
        simp only [Bool.false_or, Bool.and_eq_true] at h
        obtain ⟨hr, h1⟩ := h
        cases d with
        | list ys =>
          obtain ⟨a, vs, rfl, _, _⟩ := dn.sql
          obtain ⟨hn, c⟩ := nw hr a rfl
          have hn := hn rfl
          obtain ⟨us, rfl, l⟩ := c ys rfl
          have l2 : DnL T.K (MM G) H ys us := DnL.flat (fun a m => o.tracked m) _ _ l (by rw [flat1] at h1; exact h1)
          exact newL (fun a m => o.tr1 m) hn l2
        | _ => rw [show flat1 _ = EV.flat _ from rfl, hf] at h1; cases h1
    · split at e
      · rename_i h1
        cases e
        subst h1
        have dn : Dn T.K (MW G) H' true d z := by
          have : Mt G 1 = MW G := by unfold Mt; simp
          rw [this] at dn
          exact dn
        exact dn
      · cases e
theorem rP_of {fr : Bool} {g : List D → Option D} {xs : List Vl} {vs : List V} {Q : VK} (o : Ok T G S σ H) (h : VDs T G S σ H xs vs) (p : Post T W (RV T) G S σ H Q (Res.of (((S.ress xs).bind g).bind (mkv fr (tnts xs))) S)) : rP T.K fr g vs H Q := by
  obtain ⟨x, e, p⟩ := Post.of p
  cases e1 : S.ress xs with
  | none => rw [e1] at e; cases e
  | some ds =>
    rw [e1] at e
    cases e2 : g ds with
    | none =>
      have : Option.bind (g ds) (mkv fr (tnts xs)) = some x := e
      rw [e2] at this
      cases this
    | some d =>
      have : Option.bind (g ds) (mkv fr (tnts xs)) = some x := e
      rw [e2] at this
      exact ⟨Mt G (tnts xs), ds, d, fun a m => o.tr1 (Mt.mm a m), (o.ressL h e1 (Nat.le_refl _)), e2, fun z H' s dn nw => p G z H' (o.same s) (Stp.same o s) (mkv_of o s this dn nw)⟩
theorem dat_dn (o : Ok T G S σ H) {x : Vl} {v : V} {d : D} (h : VD T G S σ H x v) (e : x.dat = some d) : Dn T.K (MM G) H true d v := by
  cases x with
  | d x => cases e; exact h
  | w x =>
    have e : (if flat x then some x else none) = some d := e
    split at e
    · rename_i f
      cases e
      exact Dn.flat (fun a m => o.tracked m) _ _ _ (show Dn T.K (MW G) H true _ v from h) f
    · cases e
  | r n => cases e
  | pk t p => cases e
  | k x => cases e
theorem VDs.dats (o : Ok T G S σ H) : ∀ {xs : List Vl} {vs : List V} {ds : List D}, VDs T G S σ H xs vs → dats xs = some ds → DnL T.K (MM G) H ds vs
  | _, _, _, .nil, e => by cases e; exact .nil
  | x :: xs, v :: vs, ds, .cons a r, e => by
    unfold EV.dats at e
    split at e
    · rename_i d ds' h1 h2
      cases e
      exact .cons (dat_dn o a h1) (r.dats o h2)
    · cases e
theorem VDs.wits (o : Ok T G S σ H) : ∀ {xs : List Vl} {vs : List V} {ds : List D}, VDs T G S σ H xs vs → wits xs = some ds → DnL T.K (MW G) H ds vs
  | _, _, _, .nil, e => by cases e; exact .nil
  | .d x :: xs, v :: vs, ds, .cons a r, e => by
    unfold EV.wits at e
    cases h : EV.wits xs with
    | none => rw [h] at e; cases e
    | some ds' =>
      rw [h] at e
      cases e
      exact .cons (Dn.anti MW.mm _ _ _ a) (r.wits o h)
  | .w x :: xs, v :: vs, ds, .cons a r, e => by
    unfold EV.wits at e
    cases h : EV.wits xs with
    | none => rw [h] at e; cases e
    | some ds' =>
      rw [h] at e
      cases e
      exact .cons a (r.wits o h)
  | .r _ :: xs, v :: vs, ds, .cons a r, e => by cases e
  | .pk _ _ :: xs, v :: vs, ds, .cons a r, e => by cases e
  | .k _ :: xs, v :: vs, ds, .cons a r, e => by cases e
theorem VDs.length : ∀ {xs : List Vl} {vs : List V}, VDs T G S σ H xs vs → xs.length = vs.length
  | _, _, .nil => rfl
  | _, _, .cons a r => by simp [r.length]
end

/-! ### arguments -/
section
variable {X : Cx} {T : Kt} {W : WX}
theorem sa_nil {P : Env} : PA X [] (tA T W (evs P .nil)) := pa_nil.imp fun σ H Q h => by
  obtain ⟨G, S, o, p⟩ := h
  rw [evs] at p
  exact p G [] H o (Stp.refl _ _ _ _) .nil
theorem sa_cons {P : Env} {e : Expr} {es : List Expr} {a : C} {as : Cs} (ha : PE X e (tE T W (ev P a))) (hr : PA X es (tA T W (evs P as))) (hs : starEach (e :: es) X.env = (false, eval e X.env) :: starEach es X.env) : PA X (e :: es) (tA T W (evs P (.cons a as))) := (pa_cons ha hr hs).imp fun σ H Q h => by
  obtain ⟨G, S, o, p⟩ := h
  rw [evs] at p
  exact ⟨G, S, o, p.seq fun G1 S1 x v H1 o1 st1 r1 p1 => p1.held rc_Vs o1 r1 fun G2 S2 xs vs H2 o2 st2 x2 r2 p2 => p2 G2 _ _ o2 (Stp.refl _ _ _ _) (.cons x2 r2)⟩
end
end EV
end
section
set_option Elab.async false
set_option linter.all false
set_option maxRecDepth 100000
set_option maxHeartbeats 4000000
set_option autoImplicit false
/-! GD0: changes of what stands -/
namespace EV
open PySem L2
def Gh.plus (G : Gh) (E : List Addr) : Gh := { G with tm := E ++ G.tm }
def Gh.setFp (G : Gh) (t : Rt) (F : List Addr) : Gh := match t with
  | .s i => { G with fs := fun j => if j = i then F else G.fs j }
  | .c n => { G with fh := fun j => if j = n then F else G.fh j }
theorem fp_self (G : Gh) (t : Rt) (F : List Addr) : (G.setFp t F).fp t = F := by
  cases t <;> simp [Gh.setFp, Gh.fp]
theorem fp_ne (G : Gh) {t t' : Rt} (F : List Addr) (h : t' ≠ t) : (G.setFp t F).fp t' = G.fp t' := by
  cases t with
  | s i => cases t' with
    | s j =>
      have : j ≠ i := fun z => h (by rw [z])
      simp [Gh.setFp, Gh.fp, this]
    | c n => rfl
  | c i => cases t' with
    | c j =>
      have : j ≠ i := fun z => h (by rw [z])
      simp [Gh.setFp, Gh.fp, this]
    | s n => rfl
theorem setFp_io (G : Gh) (t : Rt) (F : List Addr) : (G.setFp t F).io = G.io ∧ (G.setFp t F).tm = G.tm ∧ (G.setFp t F).A = G.A := by
  cases t <;> exact ⟨rfl, rfl, rfl⟩
/-- a step in which things just made (E) are put somewhere -/
structure StpE (G : Gh) (E : List Addr) (S : Ste) (σ : St) (H : Hp) (G' : Gh) (S' : Ste) (σ' : St) (H' : Hp) : Prop where
  io : ∃ l, G'.io = G.io ++ l
  A : G'.A = G.A
  mono : Keeps (MM (G.plus E)) H (MM G') H'
  dA : ∀ (t : Option Rt) (a : Addr), a ∈ G'.fpx t → ¬ G'.A a
  tm : G'.tm = G.tm ∧ ∀ a ∈ G.tm, H' a = H a
  anon : ∀ a, G.A a → H' a = H a
  lck : ∀ (t : Rt) (q : Sh × D), S.lkd t = some q → S'.lkd t = some q ∧ rootV G' σ' t = rootV G σ t ∧ G'.fp t = G.fp t ∧ ∀ a ∈ G.fp t, H' a = H a
  hid : ∀ n : Nat, S.hp[n]? = some Cell.hid → S'.hp[n]? = some Cell.hid
  tr : ∀ a o, H a = some o → ∃ u, H' a = some u
section
variable {T : Kt} {G G1 G' : Gh} {S S1 S' : Ste} {σ σ1 σ' : St} {H H1 H' : Hp} {E E' : List Addr}
theorem Stp.close (st : Stp G S σ H G1 S1 σ1 H1) (fr : Keeps (MM G) H (MM (G1.plus E)) H1) (c : StpE G1 E S1 σ1 H1 G' S' σ' H') : Stp G S σ H G' S' σ' H' := by
  have mono : Keeps (MM G) H (MM G') H' := fun a o e n => by
    obtain ⟨h1, h2⟩ := fr a o e n
    exact c.mono a o h1 h2
  have anon : ∀ a, G.A a → H' a = H a := fun a h => by rw [c.anon a (by rw [st.A]; exact h), st.anon a h]
  have A : G'.A = G.A := c.A.trans st.A
  refine ⟨?_, A, mono, keepsW A c.dA mono anon, ⟨c.tm.1.trans st.tm.1, fun a h => by rw [c.tm.2 a (by rw [st.tm.1]; exact h), st.tm.2 a h]⟩, anon, fun t q e => ?_, fun n e => c.hid n (st.hid n e), fun a o e => let ⟨o1, e1⟩ := st.tr a o e; c.tr a o1 e1⟩
  · obtain ⟨l, e⟩ := st.io
    obtain ⟨l2, e2⟩ := c.io
    exact ⟨l ++ l2, by rw [e2, e, List.append_assoc]⟩
  · obtain ⟨e1, e2, e3, e4⟩ := st.lck t q e
    obtain ⟨f1, f2, f3, f4⟩ := c.lck t q e1
    exact ⟨f1, f2.trans e2, f3.trans e3, fun c m => by rw [f4 c (by rw [e3]; exact m), e4 c m]⟩
theorem SD.anti {x : Vl} {v : V} (io : G'.io = G.io) (w : ∀ a, MW G' a → MW G a) (m : ∀ a, MM G' a → MM G a) (h : SD T G H x v) : SD T G' H x v := by
  cases x with
  | d x => exact Dn.anti m _ _ _ h
  | r n => obtain ⟨a, e, rfl⟩ := h; exact ⟨a, by rw [io]; exact e, rfl⟩
  | w x => exact Dn.anti w _ _ _ h
  | k x => exact h
  | pk t p => exact h.elim
/-- the same things, divided otherwise -/
theorem Ok.re (o : Ok T G S σ H) (io : G'.io = G.io) (l : S'.rho.length = σ'.length) (l2 : S'.hp.length = S.hp.length) (w : ∀ a, MW G' a → MW G a) (m : ∀ a, MM G' a → MM G a)
    (val : ∀ (i : Nat) (x : Vl), S'.rho[i]? = some (.v x) → ∃ v, σ'[i]? = some (some v) ∧ (SD T G H x v ∨ SD T G' H x v))
    (own : ∀ (t : Rt) (sh : Sh) (x : D), S'.get t = some (sh, x) → ∃ v, rootV G' σ' t = some v ∧ OT T G.io (MM G) H sh x v (G'.fp t))
    (no : ∀ t, S'.get t = none → G'.fp t = []) (nd : ∀ t, (G'.fpx t).Nodup) (dj : ∀ (t t' : Option Rt) (a : Addr), a ∈ G'.fpx t → a ∈ G'.fpx t' → t = t') (dA : ∀ (t : Option Rt) (a : Addr), a ∈ G'.fpx t → ¬ G'.A a) : Ok T G' S' σ' H := by
  refine ⟨l, by rw [io, l2]; exact o.hlen, fun i x e => ?_, fun t sh x e => ?_, no, nd, dj, dA, fun a h => o.tracked (m a ?_)⟩
  · obtain ⟨v, h1, h2⟩ := val i x e
    exact ⟨v, h1, h2.elim (SD.anti io w m) id⟩
  · obtain ⟨v, h1, h2⟩ := own t sh x e
    exact ⟨v, h1, by rw [io]; exact OT.anti m _ _ _ _ h2⟩
  · rcases h with h | h
    · exact .inl ⟨none, h⟩
    · exact .inr h
theorem plus_fp (t : Rt) : (G.plus E).fp t = G.fp t := by cases t <;> rfl
theorem plus_mm {a : Addr} (h : MM G a) : MM (G.plus E) a := by
  rcases h with ⟨t, h⟩ | h
  · cases t with
    | some t => exact .inl ⟨some t, h⟩
    | none => exact .inl ⟨none, List.mem_append_right _ h⟩
  · exact .inr h
theorem plus_mw {a : Addr} (h : MW G a) : MW (G.plus E) a := by
  obtain ⟨t, h⟩ := h
  cases t with
  | some t => exact ⟨some t, h⟩
  | none => exact ⟨none, List.mem_append_right _ h⟩
theorem plus_fpx {t : Option Rt} {a : Addr} (h : a ∈ G.fpx t) : a ∈ (G.plus E).fpx t := by
  cases t with
  | some t => exact h
  | none => exact List.mem_append_right _ h
theorem rootV_plus {t : Rt} : rootV (G.plus E) σ t = rootV G σ t := by cases t <;> rfl
/-- what was just made is let go -/
theorem Ok.drop (o : Ok T (G.plus E) S σ H) : Ok T G S σ H := by
  refine o.re rfl o.len rfl (fun a h => plus_mw h) (fun a h => plus_mm h) (fun i x e => ?_) (fun t sh x e => ?_) o.no (fun t => ?_) (fun t t' a h h' => o.dj t t' a (plus_fpx h) (plus_fpx h')) (fun t a h => o.dA t a (plus_fpx h))
  · obtain ⟨v, h1, h2⟩ := o.val i x e
    exact ⟨v, h1, .inl h2⟩
  · obtain ⟨v, h1, h2⟩ := o.own t sh x e
    exact ⟨v, by rw [← rootV_plus (E := E)]; exact h1, h2⟩
  · cases t with
    | some t => exact o.nd (some t)
    | none => exact (List.nodup_append.mp (o.nd none)).2.1
/-- what was just made is nobody's else -/
theorem Ok.mine (o : Ok T (G.plus E) S σ H) : E.Nodup ∧ ∀ a ∈ E, ¬ MM G a := by
  refine ⟨(List.nodup_append.mp (o.nd none)).1, fun a m h => ?_⟩
  have hm : a ∈ (G.plus E).fpx none := List.mem_append_left _ m
  rcases h with ⟨t, h⟩ | h
  · cases t with
    | some t => exact nomatch o.dj none (some t) a hm (plus_fpx h)
    | none => exact (List.nodup_append.mp (o.nd none)).2.2 a m a h rfl
  · exact o.dA none a hm h
theorem plus_plus : (G.plus E).plus E' = G.plus (E' ++ E) := by
  unfold Gh.plus
  simp
/-- a new thing is laid -/
theorem Ok.laid {p : Addr} {u : HO} (o : Ok T G S σ H) (h : H p = none) (nt : notTup u) : Ok T (G.plus [p]) S σ (upd H p u) ∧ Keeps (MM G) H (MM (G.plus [p])) (upd H p u) ∧ Stp G S σ H G S σ (upd H p u) := by
  have o1 := o.same (Same.upd (o := u) h)
  have np : ∀ a, MM G a → a ≠ p := fun a m e => by
    obtain ⟨w, q, _⟩ := o.tracked m
    rw [e, h] at q
    cases q
  have mm : ∀ a, MM (G.plus [p]) a → a = p ∨ MM G a := fun a m => by
    rcases m with ⟨t, m⟩ | m
    · cases t with
      | some t => exact .inr (.inl ⟨some t, m⟩)
      | none =>
        rcases List.mem_append.mp m with m | m
        · exact .inl (List.mem_singleton.mp m)
        · exact .inr (.inl ⟨none, m⟩)
    · exact .inr (.inr m)
  have k : Keeps (MM G) H (MM (G.plus [p])) (upd H p u) := fun a w e n => by
    have ne : a ≠ p := ne_of_none e h
    exact ⟨by rw [upd_ne ne]; exact e, fun m => (mm a m).elim ne n⟩
  have kw : Keeps (MW G) H (MW (G.plus [p])) (upd H p u) := fun a w e n => by
    have ne : a ≠ p := ne_of_none e h
    refine ⟨by rw [upd_ne ne]; exact e, fun ⟨t, m⟩ => ?_⟩
    cases t with
    | some t => exact n ⟨some t, m⟩
    | none =>
      rcases List.mem_append.mp m with m | m
      · exact ne (List.mem_singleton.mp m)
      · exact n ⟨none, m⟩
  have px : ∀ (t : Option Rt) (a : Addr), a ∈ (G.plus [p]).fpx t → (a = p ∧ t = none) ∨ a ∈ G.fpx t := fun t a m => by
    cases t with
    | some t => exact .inr m
    | none =>
      rcases List.mem_append.mp m with m | m
      · exact .inl ⟨List.mem_singleton.mp m, rfl⟩
      · exact .inr m
  have fin : ∀ (t : Option Rt) (a : Addr), a ∈ G.fpx t → a ≠ p := fun t a m => np a (.inl ⟨t, m⟩)
  refine ⟨⟨o.len, o.hlen, fun i x e => ?_, fun t sh x e => ?_, o.no, fun t => ?_, fun t t' a m m' => ?_, fun t a m => ?_, fun a m => ?_⟩, k, Stp.same o (Same.upd h)⟩
  · obtain ⟨v, h1, h2⟩ := o.val i x e
    refine ⟨v, h1, ?_⟩
    cases x with
    | d x => exact Dn.mono k _ _ h2
    | r n => exact h2
    | w x => exact Dn.mono kw _ _ h2
    | k x => exact h2
    | pk t p => exact h2
  · obtain ⟨v, h1, h2⟩ := o.own t sh x e
    exact ⟨v, by rw [rootV_plus]; exact h1, OT.mono k ⟨[], by simp [Gh.plus]⟩ _ _ _ _ h2 fun a m => upd_ne (fin (some t) a m)⟩
  · cases t with
    | some t => exact o.nd (some t)
    | none => exact List.nodup_cons.mpr ⟨fun m => fin none p m rfl, o.nd none⟩
  · rcases px t a m with ⟨e, rfl⟩ | q
    · rcases px t' a m' with ⟨_, rfl⟩ | q'
      · rfl
      · exact (fin t' a q' e).elim
    · rcases px t' a m' with ⟨e, rfl⟩ | q'
      · exact (fin t a q e).elim
      · exact o.dj t t' a q q'
  · rcases px t a m with ⟨e, _⟩ | q
    · exact fun z => np a (.inr z) e
    · exact o.dA t a q
  · by_cases e : a = p
    · subst e
      exact ⟨u, upd_same, nt⟩
    · rcases m with m | m
      · rcases List.mem_append.mp m with m | m
        · exact (e (List.mem_singleton.mp m)).elim
        · obtain ⟨w, q1, q2⟩ := o.tr a (.inl m)
          exact ⟨w, by rw [upd_ne e]; exact q1, q2⟩
      · obtain ⟨w, q1, q2⟩ := o.tr a (.inr m)
        exact ⟨w, by rw [upd_ne e]; exact q1, q2⟩
theorem putR_get {t : Rt} {sh : Sh} {x y : D} (fr : S.free t = true) (g : S.get t = some (sh, x)) : (S.putR t y).get t = some (sh, y) ∧ (∀ t', t' ≠ t → (S.putR t y).get t' = S.get t') ∧ (S.putR t y).rho.length = S.rho.length ∧ (S.putR t y).hp.length = S.hp.length ∧
    (∀ (i : Nat) (x : Vl), (S.putR t y).rho[i]? = some (.v x) → S.rho[i]? = some (.v x)) ∧ (∀ n : Nat, S.hp[n]? = some Cell.hid → (S.putR t y).hp[n]? = some Cell.hid) ∧ ∀ t' q, S.lkd t' = some q → t' ≠ t ∧ (S.putR t y).lkd t' = some q := by
  cases t with
  | s i =>
    unfold Ste.free at fr
    dsimp only at fr
    split at fr
    case h_2 => cases fr
    rename_i sh0 x0 e
    have hi : i < S.rho.length := (List.getElem?_eq_some_iff.mp e).1
    have e2 : sh0 = sh := by
      simp only [Ste.get, e, Option.some.injEq, Prod.mk.injEq] at g
      exact g.1
    subst e2
    have ep : S.putR (.s i) y = { S with rho := S.rho.set i (.own sh0 y) } := by simp only [Ste.putR, e]
    rw [ep]
    refine ⟨by simp only [Ste.get, List.getElem?_set_self hi], fun t' ne => ?_, by simp, rfl, fun j x h => ?_, fun n h => h, fun t' q h => ?_⟩
    · cases t' with
      | s j =>
        have hj : j ≠ i := fun z => ne (by rw [z])
        simp only [Ste.get, List.getElem?_set_ne (Ne.symm hj)]
      | c n => rfl
    · by_cases hj : j = i
      · subst hj
        simp only [List.getElem?_set_self hi] at h
        cases h
      · simpa only [List.getElem?_set_ne (Ne.symm hj)] using h
    · cases t' with
      | s j =>
        have hj : j ≠ i := fun z => by
          subst z
          simp only [Ste.lkd, e] at h
          cases h
        exact ⟨fun z => hj (by cases z; rfl), by simpa only [Ste.lkd, List.getElem?_set_ne (Ne.symm hj)] using h⟩
      | c n => exact ⟨fun z => (nomatch z), h⟩
  | c i =>
    unfold Ste.free at fr
    dsimp only at fr
    split at fr
    case h_2 => cases fr
    rename_i sh0 x0 e
    have hi : i < S.hp.length := (List.getElem?_eq_some_iff.mp e).1
    have e2 : sh0 = sh := by
      simp only [Ste.get, e, Option.some.injEq, Prod.mk.injEq] at g
      exact g.1
    subst e2
    have ep : S.putR (.c i) y = { S with hp := S.hp.set i (.live sh0 y) } := by simp only [Ste.putR, e]
    rw [ep]
    refine ⟨by simp only [Ste.get, List.getElem?_set_self hi], fun t' ne => ?_, rfl, by simp, fun j x h => h, fun n h => ?_, fun t' q h => ?_⟩
    · cases t' with
      | c j =>
        have hj : j ≠ i := fun z => ne (by rw [z])
        simp only [Ste.get, List.getElem?_set_ne (Ne.symm hj)]
      | s n => rfl
    · by_cases hj : n = i
      · subst hj
        rw [e] at h
        cases h
      · simpa only [List.getElem?_set_ne (Ne.symm hj)] using h
    · cases t' with
      | c j =>
        have hj : j ≠ i := fun z => by
          subst z
          simp only [Ste.lkd, e] at h
          cases h
        exact ⟨fun z => hj (by cases z; rfl), by simpa only [Ste.lkd, List.getElem?_set_ne (Ne.symm hj)] using h⟩
      | s n => exact ⟨fun z => (nomatch z), h⟩
/-- a part of a tree of one's own is changed -/
theorem Ok.wr (o : Ok T (G.plus E) S σ H) {t : Rt} {sh s' : Sh} {x y : D} {p : List Nat} (fr : S.free t = true) (g : S.get t = some (sh, x)) (n : nav sh x p = some (s', y)) :
    ∃ v0 u F2, rootV G σ t = some v0 ∧ navV H v0 p = some u ∧ OT T G.io (MM (G.plus E)) H s' y u F2 ∧ F2.Nodup ∧ (∀ a ∈ F2, a ∉ E ∧ MM (G.plus E) a) ∧
    ∀ (H' : Hp) (y' : D) (F2' E' : List Addr), (∀ a, a ∉ F2 → H' a = H a) → (∀ a ∈ F2, ∃ w, H' a = some w) → (∀ a ∈ F2' ++ E', a ∈ F2 ++ E) → (F2' ++ E').Nodup → (∀ a ∈ E', ∃ w, H' a = some w ∧ notTup w) → OT T G.io (MM (G.plus E)) H' s' y' u F2' →
      ∃ G', Ok T (G'.plus E') (S.putR t (setAt x p y')) σ H' ∧ StpE G E S σ H G' (S.putR t (setAt x p y')) σ H' ∧ Keeps (MM (G.plus E)) H (MM (G'.plus E')) H' ∧ G'.io = G.io ∧ ∀ a, MM (G'.plus E') a → MM (G.plus E) a := by
  obtain ⟨v0, r0, ot⟩ := o.own t sh x g
  obtain ⟨u, F1, F2, F3, f1, f2, f3, f4, f5⟩ := OT.fits p ot n
  rw [plus_fp] at f3
  have ndF : (G.fp t).Nodup := o.nd (some t)
  rw [f3] at ndF
  have inF : ∀ a ∈ F2, a ∈ G.fp t := fun a m => by rw [f3]; simp [m]
  have nd2 : F2.Nodup := (List.nodup_append.mp (List.nodup_append.mp ndF).2.1).1
  refine ⟨v0, u, F2, by rw [← rootV_plus (E := E)]; exact r0, f1, f2, nd2, fun a m => ⟨fun q => (nomatch o.dj none (some t) a (List.mem_append_left _ q) (inF a m)), .inl ⟨some t, inF a m⟩⟩, fun H' y' F2' E' same there sub nd' trE ot' => ?_⟩
  obtain ⟨q1, q2, q3, q4, q5, q6, q7⟩ := putR_get (y := setAt x p y') fr g
  obtain ⟨i1, i2, i3⟩ := setFp_io G t (F1 ++ (F2' ++ F3))
  -- the new root's addresses
  have nin : ∀ a ∈ F1 ++ F3, a ∉ F2 := fun a m q => by
    rcases List.mem_append.mp m with m | m
    · exact (List.nodup_append.mp ndF).2.2 a m a (by simp [q]) rfl
    · exact (List.nodup_append.mp (List.nodup_append.mp ndF).2.1).2.2 a q a m rfl
  have mem : ∀ a, a ∈ F1 ++ (F2' ++ F3) → a ∈ G.fp t ∨ a ∈ E := fun a m => by
    have : a ∈ F1 ++ F3 ∨ a ∈ F2' := by simp at m ⊢; rcases m with m | m | m <;> simp [m]
    rcases this with m | m
    · exact .inl (by rw [f3]; simp at m ⊢; rcases m with m | m <;> simp [m])
    · rcases List.mem_append.mp (sub a (List.mem_append_left _ m)) with m | m
      · exact .inl (inF a m)
      · exact .inr m
  have px : ∀ (t' : Option Rt) (a : Addr), a ∈ ((G.setFp t (F1 ++ (F2' ++ F3))).plus E').fpx t' → ∃ t'', a ∈ (G.plus E).fpx t'' := fun t' a m => by
    cases t' with
    | some t' =>
      have m : a ∈ (G.setFp t (F1 ++ (F2' ++ F3))).fp t' := by
        have := plus_fp (G := G.setFp t (F1 ++ (F2' ++ F3))) (E := E') t'
        rw [← this]; exact m
      by_cases e : t' = t
      · subst e
        rw [fp_self] at m
        rcases mem a m with m | m
        · exact ⟨some t', m⟩
        · exact ⟨none, List.mem_append_left _ m⟩
      · rw [fp_ne G _ e] at m
        exact ⟨some t', m⟩
    | none =>
      rcases List.mem_append.mp m with m | m
      · rcases List.mem_append.mp (sub a (List.mem_append_right _ m)) with m | m
        · exact ⟨some t, inF a m⟩
        · exact ⟨none, List.mem_append_left _ m⟩
      · rw [i2] at m
        exact ⟨none, List.mem_append_right _ m⟩
  have less : ∀ a, MM ((G.setFp t (F1 ++ (F2' ++ F3))).plus E') a → MM (G.plus E) a := fun a m => by
    rcases m with ⟨t', m⟩ | m
    · exact .inl (px t' a m)
    · refine .inr ?_
      have m : (G.setFp t (F1 ++ (F2' ++ F3))).A a := m
      rw [i3] at m
      exact m
  have lessW : ∀ a, MW ((G.setFp t (F1 ++ (F2' ++ F3))).plus E') a → MW (G.plus E) a := fun a ⟨t', m⟩ => px t' a m
  have inM : ∀ a ∈ F2, MM (G.plus E) a := fun a m => .inl ⟨some t, inF a m⟩
  have k : Keeps (MM (G.plus E)) H (MM ((G.setFp t (F1 ++ (F2' ++ F3))).plus E')) H' := fun a w e n => ⟨by rw [same a fun q => n (inM a q)]; exact e, fun z => n (less a z)⟩
  have kw : Keeps (MW (G.plus E)) H (MW ((G.setFp t (F1 ++ (F2' ++ F3))).plus E')) H' := fun a w e n => ⟨by rw [same a fun q => n ⟨some t, inF a q⟩]; exact e, fun z => n (lessW a z)⟩
  have far : ∀ (t' : Rt) (a : Addr), t' ≠ t → a ∈ G.fp t' → H' a = H a := fun t' a ne m => same a fun q => ne (by
    have := o.dj (some t') (some t) a m (inF a q)
    cases this; rfl)
  have io' : ((G.setFp t (F1 ++ (F2' ++ F3))).plus E').io = (G.plus E).io := i1
  -- a place for each address
  have uniq : ∀ (t1 t2 : Option Rt) (a : Addr), a ∈ ((G.setFp t (F1 ++ (F2' ++ F3))).plus E').fpx t1 → a ∈ ((G.setFp t (F1 ++ (F2' ++ F3))).plus E').fpx t2 → t1 = t2 := by
    have cls : ∀ (t1 : Option Rt) (a : Addr), a ∈ ((G.setFp t (F1 ++ (F2' ++ F3))).plus E').fpx t1 → (t1 = some t ∧ (a ∈ F1 ++ F3 ∨ a ∈ F2')) ∨ (t1 = none ∧ a ∈ E') ∨ (t1 ≠ some t ∧ a ∈ G.fpx t1 ∧ a ∉ E) := fun t1 a m => by
      cases t1 with
      | some t1 =>
        have m : a ∈ (G.setFp t (F1 ++ (F2' ++ F3))).fp t1 := by
          have := plus_fp (G := G.setFp t (F1 ++ (F2' ++ F3))) (E := E') t1
          rw [← this]; exact m
        by_cases e : t1 = t
        · subst e
          rw [fp_self] at m
          refine .inl ⟨rfl, ?_⟩
          simp at m ⊢; rcases m with m | m | m <;> simp [m]
        · rw [fp_ne G _ e] at m
          exact .inr (.inr ⟨fun z => e (by cases z; rfl), m, fun q => (nomatch o.dj none (some t1) a (List.mem_append_left _ q) m)⟩)
      | none =>
        rcases List.mem_append.mp m with m | m
        · exact .inr (.inl ⟨rfl, m⟩)
        · rw [i2] at m
          exact .inr (.inr ⟨fun z => (nomatch z), m, fun q => (List.nodup_append.mp (o.nd none)).2.2 a q a m rfl⟩)
    have ftx : ∀ a, a ∈ F1 ++ F3 → a ∈ G.fpx (some t) := fun a m => by
      show a ∈ G.fp t
      rw [f3]; simp at m ⊢; rcases m with m | m <;> simp [m]
    have fE : ∀ a, a ∈ F1 ++ F3 → a ∉ E := fun a m q => nomatch o.dj none (some t) a (List.mem_append_left _ q) (ftx a m)
    -- what lies in F2' or E' is of F2 or E, and not twice
    have one : ∀ (t2 : Option Rt) (a : Addr), a ∈ F2' ++ E' → t2 ≠ some t → a ∈ G.fpx t2 → a ∉ E → False := fun t2 a m ne q nE => by
      rcases List.mem_append.mp (sub a m) with m | m
      · exact ne (o.dj t2 (some t) a (plus_fpx q) (inF a m))
      · exact nE m
    intro t1 t2 a m1 m2
    rcases cls t1 a m1 with ⟨rfl, c1⟩ | ⟨rfl, c1⟩ | ⟨n1, c1, d1⟩ <;> rcases cls t2 a m2 with ⟨rfl, c2⟩ | ⟨rfl, c2⟩ | ⟨n2, c2, d2⟩
    · rfl
    · exfalso
      rcases c1 with c1 | c1
      · rcases List.mem_append.mp (sub a (List.mem_append_right _ c2)) with q | q
        · exact nin a c1 q
        · exact fE a c1 q
      · exact (List.nodup_append.mp nd').2.2 a c1 a c2 rfl
    · exfalso
      rcases c1 with c1 | c1
      · exact n2 (o.dj t2 (some t) a (plus_fpx c2) (ftx a c1))
      · exact one t2 a (List.mem_append_left _ c1) n2 c2 d2
    · exfalso
      rcases c2 with c2 | c2
      · rcases List.mem_append.mp (sub a (List.mem_append_right _ c1)) with q | q
        · exact nin a c2 q
        · exact fE a c2 q
      · exact (List.nodup_append.mp nd').2.2 a c2 a c1 rfl
    · rfl
    · exact (one t2 a (List.mem_append_right _ c1) n2 c2 d2).elim
    · exfalso
      rcases c2 with c2 | c2
      · exact n1 (o.dj t1 (some t) a (plus_fpx c1) (ftx a c2))
      · exact one t1 a (List.mem_append_left _ c2) n1 c1 d1
    · exact (one t1 a (List.mem_append_right _ c2) n1 c1 d1).elim
    · exact o.dj t1 t2 a (plus_fpx c1) (plus_fpx c2)
  have ndA : ∀ (t1 : Option Rt) (a : Addr), a ∈ ((G.setFp t (F1 ++ (F2' ++ F3))).plus E').fpx t1 → ¬ G.A a := fun t1 a m z => by
    obtain ⟨t2, m2⟩ := px t1 a m
    exact o.dA t2 a m2 z
  refine ⟨G.setFp t (F1 ++ (F2' ++ F3)), ⟨by rw [q3]; exact o.len, by rw [q4, io']; exact o.hlen, fun i z e => ?_, fun t' sh1 z e => ?_, fun t' e => ?_, fun t1 => ?_, uniq, fun t1 a m z => ndA t1 a m (by
      have z : (G.setFp t (F1 ++ (F2' ++ F3))).A a := z
      rw [i3] at z; exact z), fun a m => ?_⟩,
    ⟨⟨[], by rw [i1]; simp⟩, i3, fun a w e nn => ⟨(k a w e nn).1, fun z => (k a w e nn).2 (plus_mm z)⟩, fun t1 a m z => ndA t1 a (plus_fpx m) (by rw [i3] at z; exact z), ⟨i2, fun a m => same a fun q => nomatch o.dj none (some t) a (List.mem_append_right _ m) (inF a q)⟩, fun a m => same a fun q => o.dA (some t) a (inF a q) m, fun t' q e => ?_, q6, fun a w e => ?_⟩, k, i1, less⟩
  · obtain ⟨v, h1, h2⟩ := o.val i z (q5 i z e)
    refine ⟨v, h1, ?_⟩
    cases z with
    | d z => exact Dn.mono k _ _ h2
    | r m =>
      obtain ⟨a, h3, h4⟩ := h2
      exact ⟨a, by rw [io']; exact h3, h4⟩
    | w z => exact Dn.mono kw _ _ h2
    | k z => exact h2
    | pk t p => exact h2
  · have rv : ∀ t'', rootV ((G.setFp t (F1 ++ (F2' ++ F3))).plus E') σ t'' = rootV (G.plus E) σ t'' := fun t'' => by
      cases t'' with
      | s i => rfl
      | c m =>
        show Option.map V.ref (((G.setFp t (F1 ++ (F2' ++ F3))).plus E').io[m]?) = _
        rw [io']
        rfl
    rw [plus_fp]
    by_cases e2 : t' = t
    · subst e2
      rw [q1] at e
      cases e
      refine ⟨v0, by rw [rv]; exact r0, ?_⟩
      rw [fp_self]
      exact f4 k ⟨[], by rw [io']; simp⟩ (fun a m => same a (nin a m)) (by
        rw [io']
        exact OT.anti less _ _ _ _ ot')
    · rw [q2 t' e2] at e
      obtain ⟨v, h1, h2⟩ := o.own t' sh1 z e
      refine ⟨v, by rw [rv]; exact h1, ?_⟩
      rw [fp_ne G _ e2]
      rw [plus_fp] at h2
      exact OT.mono k ⟨[], by rw [io']; simp⟩ _ _ _ _ h2 fun a m => far t' a e2 m
  · rw [plus_fp]
    by_cases e2 : t' = t
    · subst e2; rw [q1] at e; cases e
    · rw [q2 t' e2] at e
      rw [fp_ne G _ e2]
      exact o.no t' e
  · cases t1 with
    | some t1 =>
      show (((G.setFp t (F1 ++ (F2' ++ F3))).plus E').fp t1).Nodup
      rw [plus_fp]
      by_cases e2 : t1 = t
      · subst e2
        rw [fp_self]
        have a1 := List.nodup_append.mp ndF
        have a2 := List.nodup_append.mp a1.2.1
        have b1 := List.nodup_append.mp nd'
        have fE : ∀ a, a ∈ F1 ++ F3 → a ∉ F2' := fun a m q => by
          rcases List.mem_append.mp (sub a (List.mem_append_left _ q)) with q | q
          · exact nin a m q
          · exact nomatch o.dj none (some t1) a (List.mem_append_left _ q) (show a ∈ G.fp t1 by rw [f3]; simp at m ⊢; rcases m with m | m <;> simp [m])
        refine List.nodup_append.mpr ⟨a1.1, List.nodup_append.mpr ⟨b1.1, a2.2.1, fun a m b m2 e => ?_⟩, fun a m b m2 e => ?_⟩
        · subst e
          exact fE a (List.mem_append_right _ m2) m
        · subst e
          rcases List.mem_append.mp m2 with m2 | m2
          · exact fE a (List.mem_append_left _ m) m2
          · exact a1.2.2 a m a (List.mem_append_right _ m2) rfl
      · rw [fp_ne G _ e2]
        exact o.nd (some t1)
    | none =>
      show (E' ++ (G.setFp t (F1 ++ (F2' ++ F3))).tm).Nodup
      rw [i2]
      refine List.nodup_append.mpr ⟨(List.nodup_append.mp nd').2.1, (List.nodup_append.mp (o.nd none)).2.1, fun a m b m2 e => ?_⟩
      subst e
      rcases List.mem_append.mp (sub a (List.mem_append_right _ m)) with q | q
      · exact nomatch o.dj none (some t) a (List.mem_append_right _ m2) (inF a q)
      · exact (List.nodup_append.mp (o.nd none)).2.2 a q a m2 rfl
  · rcases m with m | m
    · rcases List.mem_append.mp m with m | m
      · exact trE a m
      · rw [i2] at m
        obtain ⟨w, h1, h2⟩ := o.tr a (.inl (List.mem_append_right _ m))
        exact ⟨w, by rw [same a fun q => nomatch o.dj none (some t) a (List.mem_append_right _ m) (inF a q)]; exact h1, h2⟩
    · have m : (G.setFp t (F1 ++ (F2' ++ F3))).A a := m
      rw [i3] at m
      obtain ⟨w, h1, h2⟩ := o.tr a (.inr m)
      exact ⟨w, by rw [same a fun q => o.dA (some t) a (inF a q) m]; exact h1, h2⟩
  · obtain ⟨ne, h1⟩ := q7 t' q e
    refine ⟨h1, ?_, fp_ne G _ ne, fun a m => far t' a ne m⟩
    cases t' with
    | s i => rfl
    | c m =>
      show Option.map V.ref ((G.setFp t (F1 ++ (F2' ++ F3))).io[m]?) = _
      rw [i1]
      rfl
  · by_cases q : a ∈ F2
    · exact there a q
    · exact ⟨w, by rw [same a q]; exact e⟩
end
end EV
end
section
set_option Elab.async false
set_option linter.all false
set_option maxRecDepth 100000
set_option maxHeartbeats 4000000
set_option autoImplicit false
/-! GK: dicts by their entries: keys are ints, texts, pairs of such -/
namespace EV
open PySem PyProof.Rows L2
section
variable {κ : Type} [DecidableEq κ]
def ixK (k : κ) : List (κ × V) → Option Nat
  | [] => none
  | p :: r => if p.1 = k then some 0 else (ixK k r).map (· + 1)
theorem valV_ix (k : κ) : ∀ es : List (κ × V), valV es k = (ixK k es).bind fun i => (es[i]?).map (·.2)
  | [] => rfl
  | p :: r => by
    unfold ixK
    by_cases h : p.1 = k
    · rw [valV_pos h, if_pos h]; simp
    · rw [valV_neg h, if_neg h, valV_ix k r]
      cases ixK k r <;> simp
theorem ixK_lt {k : κ} : ∀ {es : List (κ × V)} {i : Nat}, ixK k es = some i → ∃ v, es[i]? = some (k, v)
  | [], _, h => by cases h
  | p :: r, i, h => by
    unfold ixK at h
    split at h
    · rename_i e
      cases h
      exact ⟨p.2, by rw [← e]; simp⟩
    · cases e : ixK k r with
      | none => rw [e] at h; cases h
      | some j =>
        rw [e] at h
        cases h
        obtain ⟨v, h⟩ := ixK_lt e
        exact ⟨v, by simpa using h⟩
theorem ixK_none {k : κ} : ∀ {es : List (κ × V)}, ixK k es = none → ∀ p ∈ es, p.1 ≠ k
  | [], _, p, m => nomatch m
  | q :: r, h, p, m => by
    unfold ixK at h
    split at h
    · cases h
    · rename_i e
      have h : ixK k r = none := by
        cases e2 : ixK k r with
        | none => rfl
        | some j => rw [e2] at h; cases h
      rcases List.mem_cons.mp m with rfl | m
      · exact e
      · exact ixK_none h p m
theorem map_no {k : κ} {v : V} : ∀ {es : List (κ × V)}, (∀ p ∈ es, p.1 ≠ k) → (es.map fun kv => if kv.1 = k then (kv.1, v) else kv) = es
  | [], _ => rfl
  | p :: r, h => by rw [List.map_cons, if_neg (h p List.mem_cons_self), map_no fun q m => h q (List.mem_cons_of_mem _ m)]
theorem putK_ix {k : κ} {v : V} : ∀ {es : List (κ × V)}, (es.map (·.1)).Nodup → putK es k v = match ixK k es with
    | some i => es.modify i fun p => (p.1, v)
    | none => es ++ [(k, v)] := by
  intro es nd
  unfold putK
  have key : ∀ es : List (κ × V), (es.map (·.1)).Nodup → (es.any (fun kv => decide (kv.1 = k)) = (ixK k es).isSome) ∧ ∀ i, ixK k es = some i → (es.map fun kv => if kv.1 = k then (kv.1, v) else kv) = es.modify i fun p => (p.1, v) := by
    intro es
    induction es with
    | nil => intro _; exact ⟨rfl, fun i h => nomatch h⟩
    | cons p r ih =>
      intro nd
      rw [List.map_cons, List.nodup_cons] at nd
      obtain ⟨h1, h2⟩ := ih nd.2
      unfold ixK
      by_cases h : p.1 = k
      · rw [if_pos h]
        refine ⟨by simp [h], fun i hi => ?_⟩
        cases hi
        rw [List.map_cons, if_pos h, map_no fun q m e => nd.1 (by rw [h, ← e]; exact List.mem_map_of_mem m)]
        simp
      · rw [if_neg h]
        refine ⟨by rw [List.any_cons, h1]; cases ixK k r <;> simp [h], fun i hi => ?_⟩
        cases e : ixK k r with
        | none => rw [e] at hi; cases hi
        | some j =>
          rw [e] at hi
          cases hi
          rw [List.map_cons, if_neg h, h2 j e]
          simp
  obtain ⟨h1, h2⟩ := key es nd
  rw [h1]
  cases e : ixK k es with
  | none => simp
  | some i => simp [h2 i e]
theorem dropK_ix {k : κ} : ∀ {es : List (κ × V)}, (es.map (·.1)).Nodup → dropK es k = match ixK k es with
    | some i => es.eraseIdx i
    | none => es
  | [], _ => rfl
  | p :: r, nd => by
    rw [List.map_cons, List.nodup_cons] at nd
    have ih := dropK_ix (k := k) nd.2
    unfold dropK at ih ⊢
    unfold ixK
    by_cases h : p.1 = k
    · rw [if_pos h, List.filter_cons_of_neg (by simp [h])]
      show r.filter _ = r
      rw [List.filter_eq_self]
      intro q m
      simp only [decide_eq_true_eq]
      intro e
      exact nd.1 (by rw [h, ← e]; exact List.mem_map_of_mem m)
    · rw [if_neg h, List.filter_cons_of_pos (by simp [h]), ih]
      cases ixK k r <;> simp
end
theorem eqv_key (a b : Key) : PyData.eqv (keyD a) (keyD b) = decide (a = b) := by
  cases a <;> cases b <;> simp [keyD, PyData.eqv] <;> (rw [Bool.eq_iff_iff]; simp)
theorem eqv_keys : ∀ (a b : List Key), PyData.eqvAll (a.map keyD) (b.map keyD) = decide (a = b)
  | [], [] => by simp [PyData.eqvAll]
  | [], _ :: _ => by simp [PyData.eqvAll]
  | _ :: _, [] => by simp [PyData.eqvAll]
  | x :: a, y :: b => by
    rw [List.map_cons, List.map_cons, PyData.eqvAll, eqv_key, eqv_keys a b]
    simp
theorem eqv_tkey (a b : List Key) : PyData.eqv (.tuple (a.map keyD)) (.tuple (b.map keyD)) = decide (a = b) := by rw [PyData.eqv, eqv_keys]
theorem dIx_K (k : Key) : ∀ {kvs : List (D × D)} {es : List (Key × V)}, kvs.map (·.1) = es.map (fun p => keyD p.1) → dIx kvs (keyD k) = ixK k es
  | [], [], _ => rfl
  | [], _ :: _, h => by simp at h
  | _ :: _, [], h => by simp at h
  | p :: r, q :: t, h => by
    simp only [List.map_cons, List.cons.injEq] at h
    unfold dIx ixK
    rw [h.1, eqv_key, dIx_K k h.2]
    by_cases e : q.1 = k <;> simp [e]
theorem dIx_T (k : List Key) : ∀ {kvs : List (D × D)} {es : List (List Key × V)}, kvs.map (·.1) = es.map (fun p => PyData.tuple (p.1.map keyD)) → dIx kvs (.tuple (k.map keyD)) = ixK k es
  | [], [], _ => rfl
  | [], _ :: _, h => by simp at h
  | _ :: _, [], h => by simp at h
  | p :: r, q :: t, h => by
    simp only [List.map_cons, List.cons.injEq] at h
    unfold dIx ixK
    rw [h.1, eqv_tkey, dIx_T k h.2]
    by_cases e : q.1 = k <;> simp [e]
theorem isK_key {d : D} (h : isK d = true) : ∃ k : Key, d = keyD k := by
  cases d <;> first | cases h | skip
  · exact ⟨.inl _, rfl⟩
  · exact ⟨.inr _, rfl⟩
theorem isTK_key {d : D} (h : isTK d = true) : ∃ a b : Key, d = .tuple ([a, b].map keyD) := by
  unfold isTK at h
  split at h
  · rw [Bool.and_eq_true] at h
    obtain ⟨a, rfl⟩ := isK_key h.1
    obtain ⟨b, rfl⟩ := isK_key h.2
    exact ⟨a, b, rfl⟩
  · cases h
theorem dn_key {K : PySem.W.Frag} {M : Addr → Prop} {H : Hp} {b : Bool} {k : Key} {v : V} (h : Dn K M H b (keyD k) v) : v = kV k := by
  cases k <;> (cases h; rfl)
theorem dnl_keys {K : PySem.W.Frag} {M : Addr → Prop} {H : Hp} : ∀ {k : List Key} {vs : List V}, DnL K M H (k.map keyD) vs → vs = k.map kV
  | [], _, h => by cases h; rfl
  | k :: r, _, h => by
    cases h with
    | cons a t => rw [dn_key a, dnl_keys t]; rfl
theorem dn_tkey {K : PySem.W.Frag} {M : Addr → Prop} {H : Hp} {bb : Bool} {a b : Key} {v : V} (h : Dn K M H bb (.tuple ([a, b].map keyD)) v) : ∃ p, v = .ref p ∧ SqT K H p ([a, b].map kV) ∧ (bb = true → H p = some (.tup ([a, b].map kV))) := by
  cases h with
  | tup r n l =>
    rw [dnl_keys (k := [a, b]) l] at r
    exact ⟨_, rfl, .inl (.inl r), fun _ => r⟩
  | tupK r q l =>
    rw [dnl_keys (k := [a, b]) l] at r
    exact ⟨_, rfl, .inr r, fun z => (q z rfl).elim⟩
/-- a dict at a, perhaps locked -/
def DKr (H : Hp) (a : Addr) (kvs : List (D × D)) (vs : List V) : Prop :=
  (∃ es, Rd H a (.dK es) ∧ kvs.map (·.1) = es.map (fun p => keyD p.1) ∧ vs = es.map (·.2)) ∨
  ∃ es, Rd H a (.dT es) ∧ kvs.map (·.1) = es.map (fun p => .tuple (p.1.map keyD)) ∧ vs = es.map (·.2)
theorem DK.r {H : Hp} {a : Addr} {kvs : List (D × D)} {vs : List V} (h : DK H a kvs vs) : DKr H a kvs vs := h.imp (fun ⟨es, e, q⟩ => ⟨es, .inl e, q⟩) fun ⟨es, e, q⟩ => ⟨es, .inl e, q⟩
theorem Dn.dkr {K : PySem.W.Frag} {M : Addr → Prop} {H : Hp} {b : Bool} {kvs : List (D × D)} {v : V} (h : Dn K M H b (.dict kvs) v) (n : isX kvs = false) : ∃ a vs, v = .ref a ∧ DKr H a kvs vs ∧ DnL K M H (kvs.map (·.2)) vs ∧ (b = true → ¬ M a) := by
  cases h with
  | dK r n q0 q l q2 => subst q; exact ⟨_, _, rfl, .inl ⟨_, r, q0, q2⟩, l, n⟩
  | dT r n q0 q l q2 => subst q; exact ⟨_, _, rfl, .inr ⟨_, r, q0, q2⟩, l, n⟩
  | exc => cases n
section
variable {X : Cx} {pins : List (Addr × Obj)} {σ : L2.St} {H : Hp} {s : Shared} {a : Addr}
theorem empty_T {P : Program} {w : World} {h : Heap} (d : h.DictOf (mixKind P w) a []) : h.DictOfH (tupleKind (mixKind P w)) a [] := by
  obtain ⟨o, es, ep, h1, h2, h3, h4, h5, h6⟩ := d
  have : es.toList = [] := by
    cases e : es.toList with
    | nil => rfl
    | cons x r => rw [e] at h5; cases h5
  exact ⟨o, es, ep, h1, h2, h3, by rw [this]; rfl, fun x m => (nomatch m), List.nodup_nil⟩
theorem empty_K {P : Program} {w : World} {h : Heap} (d : h.DictOfH (tupleKind (mixKind P w)) a []) : h.DictOf (mixKind P w) a [] := by
  obtain ⟨o, es, ep, h1, h2, h3, h4, h5, h6⟩ := d
  have e0 : es.toList = [] := h4
  have e1 : es = #[] := by
    apply Array.toList_inj.mp
    rw [e0]
  refine ⟨o, es, ep, h1, h2, h3, ?_, by rw [e0]; exact .nil, List.nodup_nil⟩
  subst e1
  intro e m
  simp at m
/-- a dict with int and text keys: what is known of it -/
theorem kfacts (I : Inv X pins σ H s) {kvs : List (D × D)} {vs : List V} (d : DKr H a kvs vs) (ok : kvs.all (fun p => isK p.1) = true) : (a == sysModules) = false ∧ ∃ es ws, KV es ws ∧ s.heap.DictOf (mixKind X.prog X.w) a ws ∧ kvs.map (·.1) = es.map (fun p => keyD p.1) ∧ vs = es.map (·.2) ∧ es.length ≤ sizeLine ∧ (es.map (·.1)).Nodup := by
  have nd : ∀ {es : List (Key × V)} {ws : List (Key × Value)}, KV es ws → s.heap.DictOf (mixKind X.prog X.w) a ws → (es.map (·.1)).Nodup := fun rel dd => by
    obtain ⟨o, es, ep, h1, h2, h3, h4, h5, h6⟩ := dd
    rw [rel.keys]
    exact h6
  rcases d with ⟨es, r, q, rfl⟩ | ⟨es, r, q, rfl⟩
  · obtain ⟨z, hd, ws, rel, dd⟩ := dk_rd I.hok r
    exact ⟨hd, es, ws, rel, dd, q, rfl, z, nd rel dd⟩
  · obtain ⟨z, hd, xs, rel, dd⟩ := dt_rd I.hok r
    cases es with
    | nil =>
      cases rel
      exact ⟨hd, [], [], .nil, empty_K dd, q, rfl, Nat.zero_le _, List.nodup_nil⟩
    | cons p t =>
      cases kvs with
      | nil => simp at q
      | cons p0 t0 =>
        simp only [List.map_cons, List.cons.injEq] at q
        rw [List.all_cons, q.1] at ok
        cases ok
theorem tfacts (I : Inv X pins σ H s) {kvs : List (D × D)} {vs : List V} (d : DKr H a kvs vs) (ok : kvs.all (fun p => isTK p.1) = true) : (a == sysModules) = false ∧ ∃ es xs, KT H es xs ∧ s.heap.DictOfH (tupleKind (mixKind X.prog X.w)) a xs ∧ kvs.map (·.1) = es.map (fun p => .tuple (p.1.map keyD)) ∧ vs = es.map (·.2) ∧ es.length ≤ sizeLine ∧ (es.map (·.1)).Nodup := by
  rcases d with ⟨es, r, q, rfl⟩ | ⟨es, r, q, rfl⟩
  · obtain ⟨z, hd, ws, rel, dd⟩ := dk_rd I.hok r
    cases es with
    | nil =>
      cases rel
      exact ⟨hd, [], [], .nil, empty_T dd, q, rfl, Nat.zero_le _, List.nodup_nil⟩
    | cons p t =>
      cases kvs with
      | nil => simp at q
      | cons p0 t0 =>
        simp only [List.map_cons, List.cons.injEq] at q
        rw [List.all_cons, q.1] at ok
        obtain ⟨k, v⟩ := p
        cases k <;> cases ok
  · obtain ⟨z, hd, xs, rel, dd⟩ := dt_rd I.hok r
    refine ⟨hd, es, xs, rel, dd, q, rfl, z, ?_⟩
    obtain ⟨o, es', ep, h1, h2, h3, h4, h5, h6⟩ := dd
    have : es.map (·.1) = xs.map (·.1) := by
      clear h4 h5 h6 r q z
      induction rel with
      | nil => rfl
      | cons hq t ih => rw [List.map_cons, List.map_cons, hq.1, ih]
    rw [this]
    exact h6
/-- what stands at a key -/
def atK (kvs : List (D × D)) (vs : List V) (kd : D) : Option V := (dIx kvs kd).bind fun i => vs[i]?
theorem atK_val {κ : Type} [DecidableEq κ] (es : List (κ × V)) (k : κ) : valV es k = (ixK k es).bind fun i => (es.map (·.2))[i]? := by
  rw [valV_ix]
  cases ixK k es <;> simp
theorem dIx_lt {k : D} : ∀ {kvs : List (D × D)} {i : Nat}, dIx kvs k = some i → i < kvs.length
  | [], _, h => by cases h
  | p :: r, i, h => by
    unfold dIx at h
    split at h
    · cases h; simp
    · cases e : dIx r k with
      | none => rw [e] at h; cases h
      | some j =>
        rw [e] at h
        cases h
        have := dIx_lt e
        simp; omega
theorem atK_some {kvs : List (D × D)} {vs : List V} {kd : D} (h : kvs.length = vs.length) : (atK kvs vs kd).isSome = (dIx kvs kd).isSome := by
  unfold atK
  cases e : dIx kvs kd with
  | none => rfl
  | some i =>
    have := dIx_lt e
    simp
    omega
inductive DFacts (X : Cx) (H : Hp) (s : Shared) (a : Addr) (kvs : List (D × D)) (vs : List V) (kd : D) (u : Value) (bb : Bool) : Prop
  | k {es : List (Key × V)} {ws : List (Key × Value)} (k : Key) : kd = keyD k → RelV (kV k) u → KV es ws → s.heap.DictOf (mixKind X.prog X.w) a ws → kvs.map (·.1) = es.map (fun p => keyD p.1) → vs = es.map (·.2) → es.length ≤ sizeLine → (es.map (·.1)).Nodup → DFacts X H s a kvs vs kd u bb
  | t {es : List (List Key × V)} {xs : List (List Key × Addr × Value)} (k : List Key) (b : Addr) : kd = .tuple (k.map keyD) → u = .ref b → (tupleKind (mixKind X.prog X.w)).is s.heap k b ∧ (bb = true → H b = some (.tup (k.map kV))) → KT H es xs → s.heap.DictOfH (tupleKind (mixKind X.prog X.w)) a xs → kvs.map (·.1) = es.map (fun p => .tuple (p.1.map keyD)) → vs = es.map (·.2) → es.length ≤ sizeLine → (es.map (·.1)).Nodup → DFacts X H s a kvs vs kd u bb
theorem dfacts {M : Addr → Prop} {bb : Bool} (I : Inv X pins σ H s) {kvs : List (D × D)} {vs : List V} {kd : D} {y : V} {u : Value} (d : DKr H a kvs vs) (ok : keyOk kvs kd = true) (dk : Dn X.K M H bb kd y) (ry : RelV y u) : (a == sysModules) = false ∧ DFacts X H s a kvs vs kd u bb := by
  unfold keyOk at ok
  rw [Bool.or_eq_true, Bool.and_eq_true, Bool.and_eq_true] at ok
  rcases ok with ⟨h1, h2⟩ | ⟨h1, h2⟩
  · obtain ⟨k, rfl⟩ := isK_key h1
    obtain rfl := dn_key dk
    obtain ⟨hd, es, ws, rel, dd, q1, q2, z, nd⟩ := kfacts I d h2
    exact ⟨hd, .k k rfl ry rel dd q1 q2 z nd⟩
  · obtain ⟨k1, k2, rfl⟩ := isTK_key h1
    obtain ⟨p, rfl, sq, hp⟩ := dn_tkey dk
    obtain ⟨hd, es, xs, rel, dd, q1, q2, z, nd⟩ := tfacts I d h2
    obtain ⟨its, rv, ⟨o, g, c, n, dt⟩, _⟩ := I.tuple sq
    exact ⟨hd, .t [k1, k2] p rfl ry ⟨⟨o, its.toArray, n, g, c, dt, by simpa using items_are rv⟩, hp⟩ rel dd q1 q2 z nd⟩
variable {A : Around} {E : Value → Shared → Prop}
theorem dict_is {kvs : List (D × D)} {vs : List V} {kd : D} {u : Value} {bb : Bool} (f : DFacts X H s a kvs vs kd u bb) : s.TypeIs (.ref a) "dict" := by
  cases f with
  | k k h1 h2 h3 h4 h5 h6 h7 h8 => exact h4.typeIs
  | t k b h1 h2 h3 h4 h5 h6 h7 h8 h9 => exact h5.typeIs
theorem g_getItem {M : Addr → Prop} {bb : Bool} {Q : Value → Shared → Prop} (hu : A.units + 1 < cLine) (I : Inv X pins σ H s) {kvs : List (D × D)} {vs : List V} {kd : D} {y v : V} {u : Value} (d : DKr H a kvs vs) (ok : keyOk kvs kd = true) (dk : Dn X.K M H bb kd y) (ry : RelV y u) (e : atK kvs vs kd = some v)
    (h : ∀ w' s', Inv X pins σ H s' → RelV v w' → Q w' s') : wpAny (model X.prog X.w) A (getItem (.ref a) u) Q E s := by
  obtain ⟨hd, f⟩ := dfacts I d ok dk ry
  unfold atK at e
  cases f with
  | k k h1 h2 h3 h4 h5 h6 h7 h8 =>
    subst h1 h6
    rw [dIx_K k h5, ← atK_val] at e
    obtain ⟨w', hw, rw'⟩ := RelO.some_of (v := v) (by rw [← e]; exact h3.val k)
    exact wpAny_getItem_of (kV_is h2) h4.mapOf hw (h w' _ (I.tok _) rw')
  | t k b h1 h2 h3 h4 h5 h6 h7 h8 h9 =>
    subst h1 h7 h2
    rw [dIx_T k h6, ← atK_val] at e
    obtain ⟨w', hw, rw'⟩ := RelO.some_of (v := v) (by rw [← e]; exact h4.val k)
    obtain ⟨p, hp, hp2⟩ := Option.map_eq_some_iff.mp hw
    refine wpAny_getItem_heap (tupleKind_room_in1 hu) h3.1 h5 hp ?_
    rw [hp2]
    exact h w' _ (I.tok _) rw'
theorem g_in {M : Addr → Prop} {bb : Bool} {Q : Value → Shared → Prop} (hu : A.units + 1 < cLine) (I : Inv X pins σ H s) {kvs : List (D × D)} {vs : List V} {kd : D} {y : V} {u : Value} (d : DKr H a kvs vs) (ok : keyOk kvs kd = true) (dk : Dn X.K M H bb kd y) (ry : RelV y u)
    (h : ∀ s', Inv X pins σ H s' → Q (.bool (atK kvs vs kd).isSome) s') : wpAny (model X.prog X.w) A (compareOp .In u (.ref a)) Q E s := by
  obtain ⟨hd, f⟩ := dfacts I d ok dk ry
  unfold atK at h
  cases f with
  | k k h1 h2 h3 h4 h5 h6 h7 h8 =>
    subst h1 h6
    rw [dIx_K k h5, ← atK_val] at h
    refine wpAny_in_of (kV_is h2) hd h4.mapOf ?_
    rw [← (h3.val k).isSome_eq]
    exact h _ (I.tok _)
  | t k b h1 h2 h3 h4 h5 h6 h7 h8 h9 =>
    subst h1 h7 h2
    rw [dIx_T k h6, ← atK_val] at h
    refine wpAny_in_heap (tupleKind_room_in1 hu) h3.1 hd h5 ?_
    have q := (h4.val k).isSome_eq
    rw [Option.isSome_map] at q
    rw [← q]
    exact h _ (I.tok _)
theorem g_notIn {M : Addr → Prop} {bb : Bool} {Q : Value → Shared → Prop} (hu : A.units + 1 < cLine) (I : Inv X pins σ H s) {kvs : List (D × D)} {vs : List V} {kd : D} {y : V} {u : Value} (d : DKr H a kvs vs) (ok : keyOk kvs kd = true) (dk : Dn X.K M H bb kd y) (ry : RelV y u)
    (h : ∀ s', Inv X pins σ H s' → Q (.bool (!(atK kvs vs kd).isSome)) s') : wpAny (model X.prog X.w) A (compareOp .NotIn u (.ref a)) Q E s := by
  obtain ⟨hd, f⟩ := dfacts I d ok dk ry
  unfold atK at h
  cases f with
  | k k h1 h2 h3 h4 h5 h6 h7 h8 =>
    subst h1 h6
    rw [dIx_K k h5, ← atK_val] at h
    refine wpAny_notIn_of (kV_is h2) hd h4.mapOf ?_
    rw [← (h3.val k).isSome_eq]
    exact h _ (I.tok _)
  | t k b h1 h2 h3 h4 h5 h6 h7 h8 h9 =>
    subst h1 h7 h2
    rw [dIx_T k h6, ← atK_val] at h
    refine wpAny_notIn_heap (tupleKind_room_in1 hu) h3.1 hd h5 ?_
    have q := (h4.val k).isSome_eq
    rw [Option.isSome_map] at q
    rw [← q]
    exact h _ (I.tok _)
theorem g_get1 {M : Addr → Prop} {bb : Bool} {Q : Value → Shared → Prop} (hu : A.units + 1 < cLine) (I : Inv X pins σ H s) {kvs : List (D × D)} {vs : List V} {kd : D} {y : V} {u : Value} (d : DKr H a kvs vs) (ok : keyOk kvs kd = true) (dk : Dn X.K M H bb kd y) (ry : RelV y u)
    (h : ∀ w' s', Inv X pins σ H s' → RelV ((atK kvs vs kd).getD .non) w' → Q w' s') : wpAny (model X.prog X.w) A (call (.builtin "dict.get") [.ref a, u]) Q E s := by
  obtain ⟨hd, f⟩ := dfacts I d ok dk ry
  unfold atK at h
  cases f with
  | k k h1 h2 h3 h4 h5 h6 h7 h8 =>
    subst h1 h6
    rw [dIx_K k h5, ← atK_val] at h
    refine call_meetsIn PySem.F.slot_dict_get h4.typeIs PySem.F.entry_dict_get (PySem.F.args_dict_get_2 _ _) (meets_dict_get (mixKind X.prog X.w) a (kV_is h2) hd) ⟨_, h4.mapOf, h _ _ (I.tok _) ?_⟩
    exact (h3.val k).getD rfl
  | t k b h1 h2 h3 h4 h5 h6 h7 h8 h9 =>
    subst h1 h7 h2
    rw [dIx_T k h6, ← atK_val] at h
    refine call_meetsIn PySem.F.slot_dict_get h5.typeIs PySem.F.entry_dict_get (PySem.F.args_dict_get_2 _ _) (meetsH_dict_get (tupleKind (mixKind X.prog X.w)) a b hd) ⟨tupleKind_room_in1 hu, k, _, h3.1, h5, h _ _ (I.tok _) ?_⟩
    exact (h4.val k).getD rfl
theorem g_get2 {M : Addr → Prop} {bb : Bool} {Q : Value → Shared → Prop} (hu : A.units + 1 < cLine) (I : Inv X pins σ H s) {kvs : List (D × D)} {vs : List V} {kd : D} {y z : V} {u r : Value} (d : DKr H a kvs vs) (ok : keyOk kvs kd = true) (dk : Dn X.K M H bb kd y) (ry : RelV y u) (rz : RelV z r)
    (h : ∀ w' s', Inv X pins σ H s' → RelV ((atK kvs vs kd).getD z) w' → Q w' s') : wpAny (model X.prog X.w) A (call (.builtin "dict.get") [.ref a, u, r]) Q E s := by
  obtain ⟨hd, f⟩ := dfacts I d ok dk ry
  unfold atK at h
  cases f with
  | k k h1 h2 h3 h4 h5 h6 h7 h8 =>
    subst h1 h6
    rw [dIx_K k h5, ← atK_val] at h
    refine call_meetsIn PySem.F.slot_dict_get h4.typeIs PySem.F.entry_dict_get (PySem.F.args_dict_get_3 _ _ _) (meets_dict_get_default (mixKind X.prog X.w) a (kV_is h2) hd r) ⟨_, h4.mapOf, h _ _ (I.tok _) ?_⟩
    exact (h3.val k).getD rz
  | t k b h1 h2 h3 h4 h5 h6 h7 h8 h9 =>
    subst h1 h7 h2
    rw [dIx_T k h6, ← atK_val] at h
    refine call_meetsIn PySem.F.slot_dict_get h5.typeIs PySem.F.entry_dict_get (PySem.F.args_dict_get_3 _ _ _) (meetsH_dict_get_default (tupleKind (mixKind X.prog X.w)) a b hd r) ⟨tupleKind_room_in1 hu, k, _, h3.1, h5, h _ _ (I.tok _) ?_⟩
    exact (h4.val k).getD rz
/-- a part put in, or added -/
def vPut (kvs : List (D × D)) (vs : List V) (kd : D) (v : V) : List V := match dIx kvs kd with
  | some i => vs.set i v
  | none => vs ++ [v]
theorem DK.mut {kvs : List (D × D)} {vs : List V} (h : DK H a kvs vs) : Mut (H a) := by
  rcases h with ⟨_, e, _⟩ | ⟨_, e, _⟩ <;> (rw [e]; exact True.intro)
theorem g_setItem {M : Addr → Prop} {Q : Unit → Shared → Prop} (hu : A.units + 1 < cLine) (I : Inv X pins σ H s) {kvs : List (D × D)} {vs : List V} {kd vd : D} {y v : V} {u r : Value} (d : DK H a kvs vs) (ok : keyOk kvs kd = true) (dk : Dn X.K M H true kd y) (ry : RelV y u) (rv : RelV v r) (hl : kvs.length < sizeLine)
    (h : ∀ s' o, DK (upd H a o) a (dPut kvs kd vd) (vPut kvs vs kd v) → Inv X pins σ (upd H a o) s' → notTup o → Q () s') : wpAny (model X.prog X.w) A (setItem (.ref a) u r) Q E s := by
  obtain ⟨hd, f⟩ := dfacts I d.r ok dk ry
  cases f with
  | @k es ws k h1 h2 h3 h4 h5 h6 h7 h8 =>
    subst h1 h6
    have hz : ws.length ≤ sizeLine := by rw [← h3.length]; exact h7
    have le : es.length = kvs.length := by have := congrArg List.length h5; simpa using this.symm
    have hl2 : (putK es k v).length ≤ sizeLine := by have := length_putK es k v; omega
    refine wpAny_setItem_pairs (hsz := hz) (kV_is h2) h4 fun h' dd' hs => h _ (.dK (putK es k v)) (.inl ⟨_, upd_same, ?_, ?_⟩) ?_ trivial
    · rw [putK_ix h8]
      unfold dPut
      rw [dIx_K k h5]
      cases ixK k es with
      | none => simp [h5]
      | some i =>
        dsimp only
        rw [modify_fst, h5]
        have := congrArg (List.map keyD) (modify_fst es i v)
        rw [List.map_map, List.map_map] at this
        exact this.symm
    · rw [putK_ix h8]
      unfold vPut
      rw [dIx_K k h5]
      cases ixK k es with
      | none => simp
      | some i => dsimp only; rw [modify_snd]
    · have he : ∃ q, h'.get? a = some q := let ⟨q, _, _, hq, _⟩ := dd'; ⟨q, hq⟩
      exact d_write I d.mut hs he (dk_new hl2 hd (h3.put k rv) dd')
  | @t es xs k b h1 h2 h3 h4 h5 h6 h7 h8 h9 =>
    subst h1 h7 h2
    have hz : xs.length ≤ sizeLine := by rw [← Paired.length h4]; exact h8
    have le : es.length = kvs.length := by have := congrArg List.length h6; simpa using this.symm
    have hl2 : (putK es k v).length ≤ sizeLine := by have := length_putK es k v; omega
    refine wpAny_setItem_heap (hsz := hz) (tupleKind_room_in1 hu) h3.1 h5 fun h' dd' hs => h _ (.dT (putK es k v)) (.inr ⟨_, upd_same, ?_, ?_⟩) ?_ trivial
    · rw [putK_ix h9]
      unfold dPut
      rw [dIx_T k h6]
      cases ixK k es with
      | none => simp [h6]
      | some i =>
        dsimp only
        rw [modify_fst, h6]
        have := congrArg (List.map fun k : List Key => PyData.tuple (k.map keyD)) (modify_fst es i v)
        rw [List.map_map, List.map_map] at this
        exact this.symm
    · rw [putK_ix h9]
      unfold vPut
      rw [dIx_T k h6]
      cases ixK k es with
      | none => simp
      | some i => dsimp only; rw [modify_snd]
    · obtain ⟨q, es', ep, hq, g2, g3, g4, _, g5⟩ := dd'
      refine d_write I d.mut hs ⟨q, hq⟩ ⟨hl2, hd, _, (h4.put k (h3.2 rfl) rv).keeps fun c ys ec => ?_, q, es', ep, hq, g2, g3, g4, g5⟩
      rw [upd_ne]
      · exact ec
      · rintro rfl
        rcases d with ⟨_, e, _⟩ | ⟨_, e, _⟩ <;> (rw [e] at ec; cases ec)
end
end EV
end
section
set_option Elab.async false
set_option linter.all false
set_option maxRecDepth 100000
set_option maxHeartbeats 4000000
set_option autoImplicit false
/-! EvOd: a tuple beside a dict; a dict in a list of tuples -/
namespace EV
open PySem PySem.Spec PySem.SeqAt L2
theorem tuple_eq_declines_dict (l b : Addr) (items : Array Value) (es : Array DictEntry) (n n2 : Nat) (dd dd2 : Option Addr) (sl sl2 : Array (Option Value)) :
    Meets (Builtin.«tuple.__eq__» ⟨[.ref l, .ref b], []⟩) (fun _ R s => s.heap.get? l = some { cls := .type "tuple", dict := dd, data := .seq items n, slots := sl } ∧ s.heap.get? b = some { cls := .type "dict", dict := dd2, data := .dict es n2, slots := sl2 } ∧ R (.ok (.ret .notImplemented)) s) :=
  .of_wp fun prog w A R s h => by obtain ⟨hp, g, d, tk, os⟩ := s; obtain ⟨hl, hb, h⟩ := h; have f1 := F.sub_dict_tuple; wp_walk using wpAny_loadPart' hl, wpAny_loadPart' hb; exact ⟨_, rfl, h⟩
theorem dict_eq_declines {prog : Program} {w : World} {A : Around} {E : Value → Shared → Prop} {s : Shared} {l b : Addr} {items : Array Value} {es : Array DictEntry} {n n2 : Nat} {dd dd2 : Option Addr} {sl sl2 : Array (Option Value)} {Q : Value → Shared → Prop}
    (hl : s.heap.get? l = some { cls := .type "tuple", dict := dd, data := .seq items n, slots := sl }) (hb : s.heap.get? b = some { cls := .type "dict", dict := dd2, data := .dict es n2, slots := sl2 }) (hq : Q .notImplemented s) :
    wpAny (model prog w) A (call (.builtin "dict.__eq__") [.ref b, .ref l]) Q E s := by
  have tb : s.TypeIs (.ref b) "dict" := ⟨_, hb, rfl⟩
  have tl : s.TypeIs (.ref l) "tuple" := ⟨_, hl, rfl⟩
  refine wpAny_call_entry PySem.F.slot_dict_eq tb PySem.F.entry_dict_eq ?_ (PySem.F.args_dict_eq_2 _ _)
  show wpAny _ _ (Builtin.Dict.dictSlotArgs "__eq__" ⟨[.ref b, .ref l], []⟩ >>= _) _ _ s
  refine wpAny_bind ?_
  unfold Builtin.Dict.dictSlotArgs
  refine wpAny_bind (wpAny_notOrdered_dict tb ?_)
  show wpAny _ _ (pure (Value.ref b, Value.ref l)) _ _ s
  refine wpAny_pure ?_
  refine wpAny_bind (wpAny_isInstance (T := "tuple") tl F.sub_tuple_dict ?_)
  simp only [Bool.not_false, if_true]
  exact wpAny_bind (wpAny_rule (wpAny_pure ⟨_, rfl, hq⟩))
section
variable {A : Around} {s : Shared}
theorem eqAt_tuple_dict {l b : Addr} {items : Array Value} {o : Obj} {es : Array DictEntry} {n : Nat} (hl : s.heap.IsTuple l items) (hb : s.heap.get? b = some o) (hc2 : o.cls = .type "dict") (hd2 : o.data = .dict es n) (hu : A.units < cLine) : EqAt A s (.ref l) (.ref b) false := by
  have hne : l ≠ b := fun e => by
    subst e
    obtain ⟨o', ho, hc, _⟩ := hl
    rw [hb] at ho
    cases ho
    rw [hc2] at hc
    exact absurd hc (by simp)
  refine .of_refs hne fun prog w E Q h => ?_
  obtain ⟨⟨cls, dd, data, sl⟩, ho, hc, n1, hd⟩ := id hl
  obtain ⟨cls2, dd2, data2, sl2⟩ := o
  simp only at hc hd hc2 hd2
  subst hc hd hc2 hd2
  exact (rc_eq_decline_or (k := false) ⟨_, ho, rfl⟩ ⟨_, hb, rfl⟩ (by decide) F.sub_dict_tuple F.slot_tuple_eq F.slot_dict_eq_refl
    (fun _ hq => call_meets F.slot_tuple_eq ⟨_, ho, rfl⟩ F.entry_tuple_eq (F.args_tuple_eq_2 _ _) (tuple_eq_declines_dict l b items es n1 n dd dd2 sl sl2) ⟨ho, hb, hq⟩)
    (fun _ hq => dict_eq_declines ho hb hq)
    (fun _ hq => wpAny_isSame_ref_other' hne ho hb (by simp) hq) (.inr hu) h)
end
theorem dictNo_of {x : D} {ys : List D} {d : D} (h : dictNo x ys = some d) : ∃ kvs, x = .dict kvs ∧ isX kvs = false ∧ (∀ y ∈ ys, ∃ zs, y = .tuple zs) ∧ d = .bool false := by
  cases x with
  | dict kvs =>
    have h : (if !isX kvs && ys.all isTupD then some (PyData.bool false) else none) = some d := h
    by_cases hl : (!isX kvs && ys.all isTupD) = true
    · rw [if_pos hl] at h
      cases h
      rw [Bool.and_eq_true, Bool.not_eq_true'] at hl
      refine ⟨kvs, rfl, hl.1, fun y hy => ?_, rfl⟩
      have := List.all_eq_true.mp hl.2 y hy
      cases y with
      | tuple zs => exact ⟨zs, rfl⟩
      | _ => cases this
    · rw [if_neg hl] at h
      cases h
  | _ => cases h
section
variable {X : Cx}
theorem Dn.dobj {pins : List (Addr × Obj)} {σ : St} {H : Hp} {s : Shared} {M : Addr → Prop} {x : V} {v : Value} {b : Bool} {kvs : List (D × D)} (I : Inv X pins σ H s) (nx : isX kvs = false) (h : Dn X.K M H b (.dict kvs) x) (r : RelV x v) :
    ∃ a o es n, v = .ref a ∧ s.heap.get? a = some o ∧ o.cls = .type "dict" ∧ o.data = .dict es n := by
  cases h with
  | dK e _ q0 q l q2 =>
    cases r
    obtain ⟨_, far, ps, kv, o, a, n, g, c, dt, _, pr, _⟩ := dk_rd I.hok e
    exact ⟨_, o, _, _, rfl, g, c.1, dt⟩
  | dT e _ q0 q l q2 =>
    cases r
    obtain ⟨_, far, xs, kt, o, a, n, g, c, dt, ee, ks, _⟩ := dt_rd I.hok e
    exact ⟨_, o, _, _, rfl, g, c.1, dt⟩
  | exc _ _ _ _ => exact nomatch (show true = false from nx)
theorem tups_mem {pins : List (Addr × Obj)} {σ : St} {H : Hp} {s : Shared} {M : Addr → Prop} (I : Inv X pins σ H s) : ∀ {ys : List D} {vs : List V} {its : List Value}, DnL X.K M H ys vs → Vals vs its → (∀ y ∈ ys, ∃ zs, y = PyData.tuple zs) → ∀ u ∈ its, ∃ l items, u = .ref l ∧ s.heap.IsTuple l items
  | _, _, _, .nil, r, _ => by cases r; exact fun u m => nomatch m
  | _, _, _, .cons a l, r, t => by
    cases r with
    | cons r1 r2 =>
      intro u m
      cases m with
      | tail _ m => exact tups_mem I l r2 (fun y hy => t y (List.Mem.tail _ hy)) u m
      | head =>
        obtain ⟨zs, rfl⟩ := t _ List.mem_cons_self
        obtain ⟨a1, vs1, rfl, h1, _⟩ := a.sqt
        cases r1
        obtain ⟨i1, _, ⟨o, g, c, n, dt⟩, _⟩ := I.tuple h1
        exact ⟨_, _, rfl, _, g, c, _, dt⟩
theorem in_no {pins : List (Addr × Obj)} {σ : St} {H : Hp} {s : Shared} {M : Addr → Prop} {x y : V} {v u : Value} {b b' : Bool} {kvs : List (D × D)} {ys : List D} {Q : Value → Shared → Prop} {E : Value → Shared → Prop} (hu : X.A.units + 200 < cLine) (I : Inv X pins σ H s) (nx : isX kvs = false) (ha : Dn X.K M H b (.dict kvs) x) (hb : Dn X.K M H b' (.list ys) y) (rx : RelV x v) (ry : RelV y u)
    (t : ∀ y ∈ ys, ∃ zs, y = PyData.tuple zs) (h : Q (.bool false) s) : wpAny (model X.prog X.w) X.A (compareOp .In v u) Q E s := by
  obtain ⟨a, o, es, n, rfl, g, c, dt⟩ := Dn.dobj I nx ha rx
  obtain ⟨a2, us, rfl, h2, l2⟩ := hb.sql
  cases ry
  obtain ⟨its, rv, p1, _⟩ := I.list h2
  refine in_listAt (fun _ => false) p1.isList (fun z m => ?_) ?_
  · obtain ⟨l, items, rfl, tl⟩ := tups_mem I l2 rv t z (by simpa using m)
    exact eqAt_tuple_dict tl g c dt (show X.A.units + 1 < cLine by omega)
  · rw [show (its.toArray.any fun _ => false) = false by simp]
    exact h
end
end EV
end
section
set_option Elab.async false
set_option linter.all false
set_option maxRecDepth 100000
set_option maxHeartbeats 4000000
set_option autoImplicit false
/-! EvO: operations on data -/
namespace EV
open PySem L2
theorem DnF.one {K : PySem.W.Frag} {M : Addr → Prop} {H : Hp} {ds : List D} {x : V} (h : DnF K M H ds [x]) : ∃ a, ds = [a] ∧ Dn K M H false a x := by
  cases h with
  | cons a r => cases r; exact ⟨_, rfl, a⟩
theorem DnF.two {K : PySem.W.Frag} {M : Addr → Prop} {H : Hp} {ds : List D} {x y : V} (h : DnF K M H ds [x, y]) : ∃ a b, ds = [a, b] ∧ Dn K M H false a x ∧ Dn K M H false b y := by
  cases h with
  | cons a r => cases r with
    | cons b r => cases r; exact ⟨_, _, rfl, a, b⟩
section
variable {X : Cx} {pins : List (Addr × Obj)} {σ : St} {H : Hp} {s : Shared} {M : Addr → Prop}
/-! ### data is read -/
mutual
theorem Dn.reads (I : Inv X pins σ H s) : ∀ (b : Bool) (d : D) (v : V) (u : Value), Dn X.K M H b d v → RelV v u → d.plain = true → ∃ as, Reads s.heap u d as
  | _, .none, _, _, h, r, _ => by
    cases h
    cases r
    exact ⟨_, Reads.none⟩
  | _, .bool b, _, _, h, r, _ => by
    cases h
    cases r
    exact ⟨_, Reads.bool b⟩
  | _, .int i, _, _, h, r, _ => by
    cases h
    obtain ⟨t, rfl⟩ := r
    exact ⟨_, Reads.int i t⟩
  | _, .str x, _, _, h, r, _ => by
    cases h
    obtain ⟨t, rfl⟩ := r
    exact ⟨_, Reads.str x t⟩
  | _, .list ds, _, _, h, r, p => by
    obtain ⟨a, vs, rfl, hs, ha⟩ := h.sql
    cases r
    obtain ⟨its, rv, ⟨o, n, ho, hc, _, hd⟩, _⟩ := I.list hs
    obtain ⟨as, hr⟩ := DnL.reads I ds _ its ha rv (by simpa [PyData.plain] using p)
    exact ⟨_, Reads.list ho hc hd hr⟩
  | _, .tuple ds, _, _, h, r, p => by
    obtain ⟨a, vs, rfl, hs, ha⟩ := h.sqt
    cases r
    obtain ⟨its, rv, ⟨o, ho, hc, n, hd⟩, _⟩ := I.tuple hs
    obtain ⟨as, hr⟩ := DnL.reads I ds _ its ha rv (by simpa [PyData.plain] using p)
    exact ⟨_, Reads.tuple ho hc hd hr⟩
  | _, .dict _, _, _, _, _, p => by simp [PyData.plain] at p
theorem DnL.reads (I : Inv X pins σ H s) : ∀ (ds : List D) (vs : List V) (us : List Value), DnL X.K M H ds vs → Vals vs us → PyData.plainAll ds = true → ∃ as, ReadsAll s.heap us ds as
  | [], _, _, h, r, _ => by
    cases h
    cases r
    exact ⟨_, ReadsAll.nil⟩
  | d :: ds, _, _, h, r, p => by
    simp only [PyData.plainAll, Bool.and_eq_true] at p
    cases h with
    | cons h1 h2 =>
      cases r with
      | cons r1 r2 =>
        obtain ⟨as, q1⟩ := Dn.reads I true d _ _ h1 r1 p.1
        obtain ⟨bs, q2⟩ := DnL.reads I ds _ _ h2 r2 p.2
        exact ⟨_, ReadsAll.cons q1 q2⟩
end
end
section
variable {X : Cx}
def OpP (X : Cx) (f : Value → Value → Sem Value) (fr : Bool) (g : List D → Option D) : Prop := OpR X f fun x y H Q => rP X.K fr g [x, y] H Q
theorem fin0 {K : PySem.W.Frag} {M : Addr → Prop} {d : D} {H' : Hp} {fr : Bool} {z : V} (h : ∀ a, z ≠ .ref a) (H : Hp) : fr = true → ∀ a, z = .ref a → NewC K M H d a H' := fun _ a e => absurd e (h a)
theorem o_sub : OpP X (binaryOp .Sub) true fSub := by
  intro pins s σ H x y v u Q I rx ry h
  obtain ⟨M, ds, d, tr, hd, hg, q⟩ := h
  obtain ⟨a, b, rfl, ha, hb⟩ := hd.two
  unfold fSub at hg
  split at hg
  · rename_i i j e
    cases e; cases hg; cases ha; cases hb
    exact op_sub pins s σ H _ _ v u Q I rx ry ⟨_, _, rfl, rfl, q _ H (Same.refl H) (.int _) (fin0 (by intro a e; cases e) H)⟩
  · cases hg
theorem o_add : OpP X (binaryOp .Add) true fAdd := by
  intro pins s σ H x y v u Q I rx ry h
  obtain ⟨M, ds, d, tr, hd, hg, q⟩ := h
  obtain ⟨a, b, rfl, ha, hb⟩ := hd.two
  unfold fAdd at hg
  split at hg
  · rename_i i j e
    cases e; cases hg; cases ha; cases hb
    exact op_add pins s σ H _ _ v u Q I rx ry ⟨_, _, rfl, rfl, q _ H (Same.refl H) (.int _) (fin0 (by intro a e; cases e) H)⟩
  · rename_i i j e
    cases e
    split at hg
    · rename_i hl
      cases hg; cases ha; cases hb
      exact op_add_str pins s σ H _ _ v u Q I rx ry ⟨_, _, rfl, rfl, Nat.le_trans hl (by decide), q _ H (Same.refl H) (.str _) (fin0 (by intro a e; cases e) H)⟩
    · cases hg
  · rename_i as bs e
    cases e
    split at hg
    · rename_i hl
      cases hg
      obtain ⟨p1, vs, rfl, h1, l1⟩ := ha.sql
      obtain ⟨p2, us, rfl, h2, l2⟩ := hb.sql
      cases rx; cases ry
      obtain ⟨its, r1, ⟨⟨c1, d1, t1, sl1⟩, n1, e1, hc1, hd1, hs1⟩, z1⟩ := I.list h1
      obtain ⟨its2, r2, ⟨⟨c2, d2, t2, sl2⟩, n2, e2, hc2, hd2, hs2⟩, z2⟩ := I.list h2
      simp only at hc1 hd1 hs1 hc2 hd2 hs2
      subst hc1 hd1 hs1 hc2 hd2 hs2
      have hlen : vs.length + us.length ≤ sizeLine := by
        have e1 := l1.length
        have e2 := l2.length
        have h4 : lim = 1000000 := rfl
        have h5 : sizeLine = 16777216 := sizeLine_eq
        omega
      have e : its.toArray ++ its2.toArray = (its ++ its2).toArray := by simp
      refine concat_meets ⟨_, e1, rfl⟩ ⟨_, e2, rfl⟩ noFill_list_add seq_list_add PySem.F.slot_list_add PySem.F.entry_list_add (PySem.F.args_list_add_2 _ _)
        (PyProof.Rows.list_addW p1 p2 its.toArray its2.toArray n1 n2 none none sl1 sl2 (by rw [List.size_toArray, List.size_toArray, ← r1.length, ← r2.length]; exact hlen)) ⟨e1, e2, ?_⟩
      rw [e]
      have I1 := I.lnew (t' := s.toks) (r1.append r2) (by rw [List.length_append]; exact hlen)
      exact ⟨.ref _, _, I1, rfl, q _ _ (Same.upd I.fresh) (newL tr I.fresh (l1.append l2)) (fun _ a e => by cases e; exact ⟨fun _ => I.fresh, fun ys e => by cases e; exact ⟨_, rfl, l1.append l2⟩⟩)⟩
    · cases hg
  · rename_i as bs e
    cases e
    split at hg
    · rename_i hl
      cases hg
      obtain ⟨hl, qb, qa⟩ := hl
      have ha2 := fun z => ha.ever (qa z)
      have hb2 := fun z => hb.ever (qb z)
      obtain ⟨p1, vs, rfl, h1, l1⟩ := ha.sqt
      obtain ⟨p2, us, rfl, h2, l2⟩ := hb.sqt
      have e1 := l1.length
      have e2 := l2.length
      have h4 : lim = 1000000 := rfl
      have h5 : sizeLine = 16777216 := sizeLine_eq
      refine op_catA pins s σ H _ _ v u Q I rx ry ⟨p1, p2, vs, us, rfl, rfl, h1, h2, by omega, fun z => ?_, fun z1 z2 => ?_, fun _ _ p hp => q _ _ (Same.upd hp) (newT tr hp (l1.append l2)) fun _ a e => .tup⟩
      · subst z
        cases l1
        exact q _ H (Same.refl H) (by rw [List.nil_append]; exact hb2 rfl) fun _ a e => .tup
      · subst z2
        cases l2
        exact q _ H (Same.refl H) (by rw [List.append_nil]; exact ha2 rfl) fun _ a e => .tup
    · cases hg
  · cases hg
theorem bigB_ok {i j : Int} (h1 : i.natAbs < bigB) (h2 : j.natAbs < bigB) : CMulW i j := wide_mul (a := 400000) (b := 400000) h1 h2 (by decide) (by decide) (by decide)
theorem rep_cps (x : Array Nat) : ∀ n : Nat, ∀ acc : Array Nat, (List.replicate n x).foldl (· ++ ·) acc = acc ++ (List.replicate n x.toList).flatten.toArray
  | 0, acc => by simp
  | n + 1, acc => by
    rw [List.replicate_succ, List.foldl_cons, rep_cps x n, List.replicate_succ, List.flatten_cons]
    apply Array.toList_inj.mp
    simp
theorem o_mul : OpP X (binaryOp .Mult) true fMul := by
  intro pins s σ H x y v u Q I rx ry h
  obtain ⟨M, ds, d, tr, hd, hg, q⟩ := h
  obtain ⟨a, b, rfl, ha, hb⟩ := hd.two
  unfold fMul at hg
  split at hg
  · rename_i i j e
    cases e
    split at hg
    · rename_i hl
      cases hg; cases ha; cases hb
      exact op_mulW pins s σ H _ _ v u Q I rx ry ⟨_, _, rfl, rfl, bigB_ok hl.1 hl.2, q _ H (Same.refl H) (.int _) (fin0 (by intro a e; cases e) H)⟩
    · cases hg
  · rename_i z j e
    cases e
    split at hg
    · rename_i hl
      obtain ⟨h0, h1, h2⟩ := hl
      cases hg; cases ha; cases hb
      obtain ⟨t, rfl⟩ := rx
      obtain ⟨t', rfl⟩ := ry
      have hz : (z.length * j.toNat : Nat) ≤ lim := h2
      refine PySem.P.mul_str (by rw [decide_eq_false (by omega), decide_eq_false (by omega)]; rfl) (fun n1 n2 => ?_) (fun n1 n2 => ?_) ?_
      · simp only [Bool.or_eq_false_iff, beq_eq_false_iff_ne] at n2
        have hj : (0 : Int) < j := by omega
        have : (z.length : Int) ≤ 1000000 := by
          have h3 : z.length * 1 ≤ z.length * j.toNat := Nat.mul_le_mul_left _ (by omega)
          have h4 : lim = 1000000 := rfl
          omega
        have h5 : (1000000 : Int) ≤ (2 ^ 63 - 1) / j := by
          rw [Int.le_ediv_iff_mul_le hj]
          omega
        omega
      · unfold Builtin.Str.tooLong
        have h4 : lim = 1000000 := rfl
        have h5 : sizeLine = 16777216 := sizeLine_eq
        simp
        omega
      · have fin : ∀ w : Str, w = repS z j.toNat → ∀ tk tk', EP X pins σ Q (.str w tk) { s with toks := tk' } := fun w e tk tk' => by
          subst e
          exact ⟨.str _, H, I.tok _, ⟨_, rfl⟩, q _ H (Same.refl H) (.str _) (fin0 (by intro a e; cases e) H)⟩
        split
        · rename_i n1
          refine ⟨by decide, fin _ ?_ _ _⟩
          have : j.toNat = 0 := by omega
          rw [this]; rfl
        · split
          · rename_i n2
            simp only [Bool.or_eq_true, beq_iff_eq] at n2
            refine fin z ?_ _ s.toks
            rcases n2 with n2 | n2
            · subst n2
              show z = repS z 1
              unfold repS
              simp
            · have : z.cps.toList = [] := by
                have : z.cps.size = 0 := n2
                simpa using this
              unfold repS
              rw [this]
              have e0 : z = ⟨#[]⟩ := by
                obtain ⟨c⟩ := z
                simp at this
                rw [this]
              rw [e0]
              simp
          · rename_i n1 n2
            have eq : (⟨(List.replicate j.toNat z.cps).foldl (· ++ ·) #[]⟩ : Str) = repS z j.toNat := by
              rw [rep_cps]
              unfold repS
              simp
            rw [eq]
            refine ⟨?_, fin _ rfl _ _⟩
            unfold repS Str.length
            simp
            have h4 : lim = 1000000 := rfl
            have h5 : sizeLine = 16777216 := sizeLine_eq
            have h6 : j.toNat * z.cps.size = z.length * j.toNat := Nat.mul_comm _ _
            omega
    · cases hg
  · cases hg
theorem o_lt : OpP X (compareOp .Lt) true fLt := by
  intro pins s σ H x y v u Q I rx ry h
  obtain ⟨M, ds, d, tr, hd, hg, q⟩ := h
  obtain ⟨a, b, rfl, ha, hb⟩ := hd.two
  unfold fLt at hg
  split at hg
  · rename_i i j e
    cases e; cases hg; cases ha; cases hb
    exact op_lt pins s σ H _ _ v u Q I rx ry ⟨_, _, rfl, rfl, q _ H (Same.refl H) (.bl _) (fin0 (by intro a e; cases e) H)⟩
  · cases hg
theorem o_le : OpP X (compareOp .LtE) true fLe := by
  intro pins s σ H x y v u Q I rx ry h
  obtain ⟨M, ds, d, tr, hd, hg, q⟩ := h
  obtain ⟨a, b, rfl, ha, hb⟩ := hd.two
  unfold fLe at hg
  split at hg
  · rename_i i j e
    cases e; cases hg; cases ha; cases hb
    exact op_le pins s σ H _ _ v u Q I rx ry ⟨_, _, rfl, rfl, q _ H (Same.refl H) (.bl _) (fin0 (by intro a e; cases e) H)⟩
  · cases hg
theorem o_gt : OpP X (compareOp .Gt) true fGt := by
  intro pins s σ H x y v u Q I rx ry h
  obtain ⟨M, ds, d, tr, hd, hg, q⟩ := h
  obtain ⟨a, b, rfl, ha, hb⟩ := hd.two
  unfold fGt at hg
  split at hg
  · rename_i i j e
    cases e; cases hg; cases ha; cases hb
    exact op_gt pins s σ H _ _ v u Q I rx ry ⟨_, _, rfl, rfl, q _ H (Same.refl H) (.bl _) (fin0 (by intro a e; cases e) H)⟩
  · cases hg
theorem o_ge : OpP X (compareOp .GtE) true fGe := by
  intro pins s σ H x y v u Q I rx ry h
  obtain ⟨M, ds, d, tr, hd, hg, q⟩ := h
  obtain ⟨a, b, rfl, ha, hb⟩ := hd.two
  unfold fGe at hg
  split at hg
  · rename_i i j e
    cases e; cases hg; cases ha; cases hb
    exact op_ge pins s σ H _ _ v u Q I rx ry ⟨_, _, rfl, rfl, q _ H (Same.refl H) (.bl _) (fin0 (by intro a e; cases e) H)⟩
  · cases hg
theorem o_fdiv : OpP X (binaryOp .FloorDiv) true fDiv := by
  intro pins s σ H x y v u Q I rx ry h
  obtain ⟨M, ds, d, tr, hd, hg, q⟩ := h
  obtain ⟨a, b, rfl, ha, hb⟩ := hd.two
  unfold fDiv at hg
  split at hg
  · rename_i i j e
    cases e
    split at hg
    · rename_i hl
      cases hg; cases ha; cases hb
      exact op_fdiv pins s σ H _ _ v u Q I rx ry ⟨_, _, rfl, rfl, hl, q _ H (Same.refl H) (.int _) (fin0 (by intro a e; cases e) H)⟩
    · cases hg
  · cases hg
theorem o_mod : OpP X (binaryOp .Mod) true fMod := by
  intro pins s σ H x y v u Q I rx ry h
  obtain ⟨M, ds, d, tr, hd, hg, q⟩ := h
  obtain ⟨a, b, rfl, ha, hb⟩ := hd.two
  unfold fMod at hg
  split at hg
  · rename_i i j e
    cases e
    split at hg
    · rename_i hl
      cases hg; cases ha; cases hb
      exact op_mod pins s σ H _ _ v u Q I rx ry ⟨_, _, rfl, rfl, hl, q _ H (Same.refl H) (.int _) (fin0 (by intro a e; cases e) H)⟩
    · cases hg
  · cases hg
theorem op_powW : OpR X (binaryOp .Pow) (rI (fun i j => 0 ≤ j ∧ (Builtin.Int.intBits i : Int) * j ≤ 2 ^ 27) fun i j => .int (i ^ j.toNat)) := opI fun _ _ _ _ _ _ _ hc q => PyProof.Rows.pow_int hc.1 hc.2 q
theorem o_pow : OpP X (binaryOp .Pow) true fPow := by
  intro pins s σ H x y v u Q I rx ry h
  obtain ⟨M, ds, d, tr, hd, hg, q⟩ := h
  obtain ⟨a, b, rfl, ha, hb⟩ := hd.two
  unfold fPow at hg
  split at hg
  · rename_i i j e
    cases e
    split at hg
    · rename_i hl
      cases hg; cases ha; cases hb
      exact op_powW pins s σ H _ _ v u Q I rx ry ⟨_, _, rfl, rfl, hl, q _ H (Same.refl H) (.int _) (fin0 (by intro a e; cases e) H)⟩
    · cases hg
  · cases hg
theorem nil_plain : plainD (.list []) = true := by decide
theorem isNil_of {a b d : D} (h : isNil a b = some d) (n : ¬ (plainD a && plainD b) = true) : ∃ xs, a = .list xs ∧ b = .list [] ∧ xs ≠ [] ∧ d = .bool false := by
  unfold isNil at h
  split at h
  · rename_i xs
    cases h
    cases xs with
    | nil => exact absurd (by rw [nil_plain]; rfl) n
    | cons x xs => exact ⟨_, rfl, rfl, List.cons_ne_nil _ _, rfl⟩
  · cases h
theorem notNil_of {a b d : D} (h : notNil a b = some d) (n : ¬ (plainD a && plainD b) = true) : ∃ xs, a = .list xs ∧ b = .list [] ∧ xs ≠ [] ∧ d = .bool true := by
  unfold notNil at h
  split at h
  · rename_i xs
    cases h
    cases xs with
    | nil => exact absurd (by rw [nil_plain]; rfl) n
    | cons x xs => exact ⟨_, rfl, rfl, List.cons_ne_nil _ _, rfl⟩
  · cases h
theorem unlike_lists {pins : List (Addr × Obj)} {σ : St} {H : Hp} {s : Shared} {M : Addr → Prop} {x y : V} {v u : Value} {b b' : Bool} {xs : List D} (I : Inv X pins σ H s) (ha : Dn X.K M H b (.list xs) x) (hb : Dn X.K M H b' (.list []) y) (rx : RelV x v) (ry : RelV y u) (ne : xs ≠ []) :
    ∃ a1 a2, v = .ref a1 ∧ u = .ref a2 ∧ ∃ i1 i2 : Array Value, s.heap.IsList a1 i1 ∧ s.heap.IsList a2 i2 ∧ (i1.size != i2.size) = true := by
  obtain ⟨a1, vs, rfl, h1, l1⟩ := ha.sql
  obtain ⟨a2, us, rfl, h2, l2⟩ := hb.sql
  cases rx
  cases ry
  obtain ⟨i1, r1, p1, _⟩ := I.list h1
  obtain ⟨i2, r2, p2, _⟩ := I.list h2
  refine ⟨a1, a2, rfl, rfl, i1.toArray, i2.toArray, p1.isList, p2.isList, ?_⟩
  have e1 := l1.length
  have e2 := l2.length
  have e3 := r1.length
  have e4 := r2.length
  have : 0 < xs.length := List.length_pos_iff.mpr ne
  simp only [List.length_nil] at e2
  rw [bne_iff_ne, List.size_toArray, List.size_toArray]
  omega
theorem o_eq (hu : X.A.units + 200 < cLine) : OpP X (compareOp .Eq) true fEq := by
  intro pins s σ H x y v u Q I rx ry h
  obtain ⟨M, ds, d, tr, hd, hg, q⟩ := h
  obtain ⟨a, b, rfl, ha, hb⟩ := hd.two
  have hg : (if plainD a && plainD b then some (PyData.bool (PyData.eqv a b)) else isNil a b) = some d := hg
  split at hg
  · rename_i hl
    · cases hg
      simp only [plainD, Bool.and_eq_true, decide_eq_true_eq] at hl
      obtain ⟨⟨p1, d1⟩, p2, d2⟩ := hl
      obtain ⟨as, r1⟩ := Dn.reads I _ _ _ _ ha rx p1
      obtain ⟨bs, r2⟩ := Dn.reads I _ _ _ _ hb ry p2
      exact PySem.SeqAt.eq_plain r1 r2 p1 p2 (by omega) ⟨.bl _, H, I, rfl, q _ H (Same.refl H) (.bl _) (fin0 (by intro a e; cases e) H)⟩
  · obtain ⟨xs, rfl, rfl, ne, rfl⟩ := isNil_of hg ‹_›
    obtain ⟨a1, a2, rfl, rfl, i1, i2, l1, l2, ls⟩ := unlike_lists I ha hb rx ry ne
    exact PySem.SeqAt.eq_list_lengthsAt l1 l2 ls (by omega) ⟨.bl _, H, I, rfl, q _ H (Same.refl H) (.bl _) (fin0 (by intro a e; cases e) H)⟩
theorem o_ne (hu : X.A.units + 200 < cLine) : OpP X (compareOp .NotEq) true fNe := by
  intro pins s σ H x y v u Q I rx ry h
  obtain ⟨M, ds, d, tr, hd, hg, q⟩ := h
  obtain ⟨a, b, rfl, ha, hb⟩ := hd.two
  have hg : (if plainD a && plainD b then some (PyData.bool (!PyData.eqv a b)) else notNil a b) = some d := hg
  split at hg
  · rename_i hl
    · cases hg
      simp only [plainD, Bool.and_eq_true, decide_eq_true_eq] at hl
      obtain ⟨⟨p1, d1⟩, p2, d2⟩ := hl
      obtain ⟨as, r1⟩ := Dn.reads I _ _ _ _ ha rx p1
      obtain ⟨bs, r2⟩ := Dn.reads I _ _ _ _ hb ry p2
      exact PySem.SeqAt.ne_plain r1 r2 p1 p2 (by omega) ⟨.bl _, H, I, rfl, q _ H (Same.refl H) (.bl _) (fin0 (by intro a e; cases e) H)⟩
  · obtain ⟨xs, rfl, rfl, ne, rfl⟩ := notNil_of hg ‹_›
    obtain ⟨a1, a2, rfl, rfl, i1, i2, l1, l2, ls⟩ := unlike_lists I ha hb rx ry ne
    exact PySem.SeqAt.RcNeAt.lists_lengths l1 l2 ls (by omega) X.prog X.w _ _ ⟨.bl _, H, I, rfl, q _ H (Same.refl H) (.bl _) (fin0 (by intro a e; cases e) H)⟩
theorem o_is : OpP X (compareOp .Is) true fIs := by
  intro pins s σ H x y v u Q I rx ry h
  obtain ⟨M, ds, d, tr, hd, hg, q⟩ := h
  obtain ⟨a, b, rfl, ha, hb⟩ := hd.two
  unfold fIs at hg
  split at hg
  · rename_i z e
    cases e; cases hg; cases hb
    have e2 : decide (x = V.non) = isNon a := by cases ha <;> simp [isNon]
    refine op_isN pins s σ H _ _ v u Q I rx ry ⟨rfl, ?_⟩
    rw [e2]
    exact q _ H (Same.refl H) (.bl _) (fin0 (by intro a e; cases e) H)
  · rename_i i j e
    cases e; cases hg; cases ha; cases hb
    exact op_is_bl pins s σ H _ _ v u Q I rx ry ⟨_, _, rfl, rfl, q _ H (Same.refl H) (.bl _) (fin0 (by intro a e; cases e) H)⟩
  · cases hg
theorem o_isnt : OpP X (compareOp .IsNot) true fIsnt := by
  intro pins s σ H x y v u Q I rx ry h
  obtain ⟨M, ds, d, tr, hd, hg, q⟩ := h
  obtain ⟨a, b, rfl, ha, hb⟩ := hd.two
  unfold fIsnt at hg
  split at hg
  · rename_i z e
    cases e; cases hg; cases hb
    have e2 : decide (x = V.non) = isNon a := by cases ha <;> simp [isNon]
    refine op_notN pins s σ H _ _ v u Q I rx ry ⟨rfl, ?_⟩
    rw [e2]
    exact q _ H (Same.refl H) (.bl _) (fin0 (by intro a e; cases e) H)
  · rename_i i j e
    cases e; cases hg; cases ha; cases hb
    exact op_isnot_bl pins s σ H _ _ v u Q I rx ry ⟨_, _, rfl, rfl, q _ H (Same.refl H) (.bl _) (fin0 (by intro a e; cases e) H)⟩
  · cases hg
theorem plain_all : ∀ {ys : List D}, ys.all plainD = true → PyData.plainAll ys = true
  | [], _ => rfl
  | y :: ys, h => by
    simp only [List.all_cons, Bool.and_eq_true, plainD] at h
    simp only [PyData.plainAll, Bool.and_eq_true]
    exact ⟨h.1.1, plain_all (by simpa [plainD] using h.2)⟩
theorem o_in (hu : X.A.units + 200 < cLine) : OpP X (compareOp .In) true fIn := by
  intro pins s σ H x y v u Q I rx ry h
  obtain ⟨M, ds, d, tr, hd, hg, q⟩ := h
  obtain ⟨a, b, rfl, ha, hb⟩ := hd.two
  unfold fIn at hg
  split at hg
  · rename_i i j e
    cases e; cases hg; cases ha; cases hb
    exact op_in_str pins s σ H _ _ v u Q I rx ry ⟨_, _, rfl, rfl, q _ H (Same.refl H) (.bl _) (fin0 (by intro a e; cases e) H)⟩
  · rename_i z ys e
    cases e
    split at hg
    · rename_i hl
      cases hg
      simp only [Bool.and_eq_true] at hl
      obtain ⟨h1, h2⟩ := hl
      have h2 := plain_all h2
      simp only [plainD, Bool.and_eq_true, decide_eq_true_eq] at h1
      obtain ⟨as, r1⟩ := Dn.reads I _ _ _ _ ha rx h1.1
      obtain ⟨bs, r2⟩ := Dn.reads I _ _ _ _ hb ry (by simpa [PyData.plain] using h2)
      exact PySem.SeqAt.in_list_data r2 r1 h2 h1.1 (by omega) ⟨.bl _, H, I, rfl, q _ H (Same.refl H) (.bl _) (fin0 (by intro a e; cases e) H)⟩
    · obtain ⟨kvs, rfl, nx, t, rfl⟩ := dictNo_of hg
      exact in_no hu I nx ha hb rx ry t ⟨.bl _, H, I, rfl, q _ H (Same.refl H) (.bl _) (fin0 (by intro a e; cases e) H)⟩
  · rename_i z ys e
    cases e
    split at hg
    · rename_i hl
      cases hg
      simp only [Bool.and_eq_true] at hl
      obtain ⟨h1, h2⟩ := hl
      have h2 := plain_all h2
      simp only [plainD, Bool.and_eq_true, decide_eq_true_eq] at h1
      obtain ⟨as, r1⟩ := Dn.reads I _ _ _ _ ha rx h1.1
      obtain ⟨bs, r2⟩ := Dn.reads I _ _ _ _ hb ry (by simpa [PyData.plain] using h2)
      exact PySem.SeqAt.in_tuple_data r2 r1 h2 h1.1 (by omega) ⟨.bl _, H, I, rfl, q _ H (Same.refl H) (.bl _) (fin0 (by intro a e; cases e) H)⟩
    · cases hg
  · rename_i kk kvs e
    cases e
    split at hg
    · rename_i hl
      cases hg
      simp only [Bool.and_eq_true, Bool.not_eq_true'] at hl
      obtain ⟨p, vs, rfl, dk, l, _⟩ := hb.dkr hl.1
      cases ry
      have ln : kvs.length = vs.length := by rw [← l.length, List.length_map]
      exact g_in (by omega) I dk hl.2 ha rx fun s' I' => ⟨.bl _, H, I', rfl, by rw [atK_some ln]; exact q _ H (Same.refl H) (.bl _) (fin0 (by intro a e; cases e) H)⟩
    · cases hg
  · cases hg
theorem o_notin (hu : X.A.units + 200 < cLine) : OpP X (compareOp .NotIn) true fNotin := by
  intro pins s σ H x y v u Q I rx ry h
  obtain ⟨M, ds, d, tr, hd, hg, q⟩ := h
  obtain ⟨a, b, rfl, ha, hb⟩ := hd.two
  unfold fNotin at hg
  split at hg
  · rename_i i j e
    cases e; cases hg; cases ha; cases hb
    exact op_notin_str pins s σ H _ _ v u Q I rx ry ⟨_, _, rfl, rfl, q _ H (Same.refl H) (.bl _) (fin0 (by intro a e; cases e) H)⟩
  · rename_i z ys e
    cases e
    split at hg
    · rename_i hl
      cases hg
      simp only [Bool.and_eq_true] at hl
      obtain ⟨h1, h2⟩ := hl
      have h2 := plain_all h2
      simp only [plainD, Bool.and_eq_true, decide_eq_true_eq] at h1
      obtain ⟨as, r1⟩ := Dn.reads I _ _ _ _ ha rx h1.1
      obtain ⟨bs, r2⟩ := Dn.reads I _ _ _ _ hb ry (by simpa [PyData.plain] using h2)
      exact PySem.SeqAt.notIn_list_data r2 r1 h2 h1.1 (by omega) ⟨.bl _, H, I, rfl, q _ H (Same.refl H) (.bl _) (fin0 (by intro a e; cases e) H)⟩
    · cases hg
  · rename_i z ys e
    cases e
    split at hg
    · rename_i hl
      cases hg
      simp only [Bool.and_eq_true] at hl
      obtain ⟨h1, h2⟩ := hl
      have h2 := plain_all h2
      simp only [plainD, Bool.and_eq_true, decide_eq_true_eq] at h1
      obtain ⟨as, r1⟩ := Dn.reads I _ _ _ _ ha rx h1.1
      obtain ⟨bs, r2⟩ := Dn.reads I _ _ _ _ hb ry (by simpa [PyData.plain] using h2)
      exact PySem.SeqAt.notIn_tuple_data r2 r1 h2 h1.1 (by omega) ⟨.bl _, H, I, rfl, q _ H (Same.refl H) (.bl _) (fin0 (by intro a e; cases e) H)⟩
    · cases hg
  · rename_i kk kvs e
    cases e
    split at hg
    · rename_i hl
      cases hg
      simp only [Bool.and_eq_true, Bool.not_eq_true'] at hl
      obtain ⟨p, vs, rfl, dk, l, _⟩ := hb.dkr hl.1
      cases ry
      have ln : kvs.length = vs.length := by rw [← l.length, List.length_map]
      exact g_notIn (by omega) I dk hl.2 ha rx fun s' I' => ⟨.bl _, H, I', rfl, by rw [atK_some ln]; exact q _ H (Same.refl H) (.bl _) (fin0 (by intro a e; cases e) H)⟩
    · cases hg
  · cases hg
end
end EV
end
section
set_option Elab.async false
set_option linter.all false
set_option maxRecDepth 100000
set_option maxHeartbeats 4000000
set_option autoImplicit false
/-! EvO2: further operations on data: items, slices, built-ins -/
namespace EV
open PySem L2
section
variable {X : Cx}
def IxP (X : Cx) (fr : Bool) (g : List D → Option D) : Prop := IxR X fun x y H Q => rP X.K fr g [x, y] H Q
def vO : Option Int → V
  | none => .non
  | some i => .int i
def SlP (X : Cx) (g : List D → Option D) : Prop := SlR X fun x lo hi H Q => rP X.K true g [x, vO lo, vO hi] H Q
def CallP (X : Cx) (f : Value) (fr : Bool) (g : List D → Option D) : Prop := CallR X f fun xs H Q => rP X.K fr g xs H Q
def MtP (X : Cx) (id : String) (fr : Bool) (g : List D → Option D) : Prop := MtR X id fun x xs H Q => rP X.K fr g (x :: xs) H Q
def UnP (X : Cx) (f : Value → Sem Value) (g : List D → Option D) : Prop := UnR X f fun x H Q => rP X.K true g [x] H Q
theorem DnL.atI {K : PySem.W.Frag} {M : Addr → Prop} {H : Hp} {xs : List D} {vs : List V} {i : Int} {x : D} (h : DnL K M H xs vs) (e : atI xs i = some x) : ∃ v, atI vs i = some v ∧ Dn K M H true x v := by
  unfold L2.atI at e ⊢
  cases hj : ixN xs.length i with
  | none => rw [hj] at e; cases e
  | some j =>
    rw [hj] at e
    rw [← h.length, hj]
    exact h.get e
theorem ix_dict {M : Addr → Prop} {bb : Bool} (hu : X.A.units + 1 < cLine) {value slice : Expr} {pins : List (Addr × Obj)} {s : Shared} {σ : St} {H : Hp} {a : Addr} {kvs : List (D × D)} {vs : List V} {kd : D} {y v : V} {u : Value} {Q : VK} (I : Inv X pins σ H s) (d : DKr H a kvs vs) (ok : keyOk kvs kd = true) (dk : Dn X.K M H bb kd y) (ry : RelV y u) (e : atK kvs vs kd = some v)
    (q : Q v H) (hs : subscripted slice false (.ref a) u = operate [.ref a, u] (getItem (.ref a) u)) : wpAny (model X.prog X.w) X.A (PyProof.Rows.subscriptTail value slice (.ref a) u) (EP X pins σ Q) X.xe s := by
  obtain ⟨hd, f⟩ := dfacts I d ok dk ry
  have key : ∃ w, RelV v w ∧ wpAny (model X.prog X.w) X.A (getItem (.ref a) u) (fun r s' => r = w ∧ EP X pins σ Q r s') X.xe s := by
    unfold atK at e
    cases f with
    | k k h1 h2 h3 h4 h5 h6 h7 h8 =>
      subst h1 h6
      rw [dIx_K k h5, ← atK_val] at e
      obtain ⟨w', hw, rw'⟩ := RelO.some_of (v := v) (by rw [← e]; exact h3.val k)
      exact ⟨w', rw', wpAny_getItem_of (kV_is h2) h4.mapOf hw ⟨rfl, _, H, I.tok _, rw', q⟩⟩
    | t k b h1 h2 h3 h4 h5 h6 h7 h8 h9 =>
      subst h1 h7 h2
      rw [dIx_T k h6, ← atK_val] at e
      obtain ⟨w', hw, rw'⟩ := RelO.some_of (v := v) (by rw [← e]; exact h4.val k)
      obtain ⟨p, hp, hp2⟩ := Option.map_eq_some_iff.mp hw
      refine ⟨w', rw', wpAny_getItem_heap (tupleKind_room_in1 hu) h3.1 h5 hp ?_⟩
      rw [hp2]
      exact ⟨rfl, _, H, I.tok _, rw', q⟩
  obtain ⟨w, rw', h⟩ := key
  exact PyProof.Rows.subscriptTail_builtinR (x := w) (dict_is f) PySem.F.slot_dict_getitem.lookup h hs
theorem o_idx (hu : X.A.units + 1 < cLine) : IxP X false fIdx := by
  intro value slice pins s σ H x y v u Q I rx ry h hs
  obtain ⟨M, ds, d, tr, hd, hg, q⟩ := h
  obtain ⟨a, b, rfl, ha, hb⟩ := hd.two
  unfold fIdx at hg
  split at hg
  · rename_i xs i e
    cases e; cases hb
    obtain ⟨p, vs, rfl, h1, l1⟩ := ha.sql
    obtain ⟨z, ez, dz⟩ := l1.atI hg
    exact ix_list value slice pins s σ H _ _ v u Q I rx ry ⟨_, _, _, _, rfl, rfl, h1, ez, q _ H (Same.refl H) dz (fun e => nomatch e)⟩ hs
  · rename_i xs i e
    cases e; cases hb
    obtain ⟨p, vs, rfl, h1, l1⟩ := ha.sqt
    obtain ⟨z, ez, dz⟩ := l1.atI hg
    exact ix_tup value slice pins s σ H _ _ v u Q I rx ry ⟨_, _, _, _, rfl, rfl, h1, ez, q _ H (Same.refl H) dz (fun e => nomatch e)⟩ hs
  · rename_i z i e
    cases e
    split at hg
    · rename_i hl
      cases ha; cases hb
      cases ec : L2.atI z.cps.toList i with
      | none => rw [ec] at hg; cases hg
      | some c =>
        rw [ec] at hg
        cases hg
        exact ix_str value slice pins s σ H _ _ v u Q I rx ry ⟨_, _, _, rfl, rfl, Nat.le_trans hl (by decide), ec, q _ H (Same.refl H) (.str _) (fun e => nomatch e)⟩ hs
    · cases hg
  · rename_i kvs kd0 e
    cases e
    split at hg
    · rename_i hl
      simp only [Bool.and_eq_true, Bool.not_eq_true'] at hl
      obtain ⟨p, vs, rfl, dk, l, _⟩ := ha.dkr hl.1
      cases rx
      unfold dGet at hg
      cases ei : dIx kvs _ with
      | none => rw [ei] at hg; cases hg
      | some i =>
        rw [ei] at hg
        have hg : (kvs[i]?).map (·.2) = some d := hg
        rw [← List.getElem?_map] at hg
        obtain ⟨z, hz, dz⟩ := l.get hg
        exact ix_dict hu I dk hl.2 hb ry (by unfold atK; rw [ei]; exact hz) (q z H (Same.refl H) dz (fun e => nomatch e)) hs
    · cases hg
  · cases hg
theorem Dn.part {K : PySem.W.Frag} {M : Addr → Prop} {H : Hp} {d : D} {lo l : Option Int} (h : Dn K M H false d (vO lo)) (e : part? d = some l) : l = lo := by
  cases d <;> simp [part?] at e
  · cases lo <;> cases h; exact e.symm
  · cases lo <;> cases h; exact e.symm
theorem DnL.cut {K : PySem.W.Frag} {M : Addr → Prop} {H : Hp} {xs : List D} {vs : List V} (h : DnL K M H xs vs) (lo hi : Option Int) : DnL K M H (EV.cut xs lo hi) (cutV vs lo hi) := by
  unfold EV.cut cutV
  rw [h.length]
  exact (h.drop _).take _
theorem o_slice : SlP X fSlice := by
  intro pins s σ H x v vl vu lo hi sl Q I rx hs pl pu h
  obtain ⟨M, ds, d, tr, hd, hg, q⟩ := h
  cases hd with
  | cons ha r =>
  obtain ⟨b, c, rfl, hb, hc⟩ := r.two
  unfold fSlice at hg
  split at hg
  · rename_i xs l h e
    cases e
    split at hg
    · rename_i l' h' e1 e2
      cases hg
      have q1 := hb.part e1
      have q2 := hc.part e2
      subst q1 q2
      obtain ⟨p, vs, rfl, h1, l1⟩ := ha.sql
      exact sl_list pins s σ H _ v vl vu _ _ sl Q I rx hs pl pu ⟨_, _, rfl, h1, fun p hp => q _ _ (Same.upd hp) (newL tr hp (l1.cut _ _)) fun _ a e => by cases e; exact ⟨fun _ => hp, fun ys e => by cases e; exact ⟨_, rfl, l1.cut _ _⟩⟩⟩
    · cases hg
  · rename_i z l h e
    cases e
    split at hg
    · rename_i l' h' e1 e2
      split at hg
      · rename_i hl
        cases hg
        have q1 := hb.part e1
        have q2 := hc.part e2
        subst q1 q2
        cases ha
        exact sl_str pins s σ H _ v vl vu _ _ sl Q I rx hs pl pu ⟨_, rfl, Nat.le_trans hl (by decide), q _ H (Same.refl H) (.str _) (fin0 (by intro a e; cases e) H)⟩
      · cases hg
    · cases hg
  · rename_i xs l h e
    cases e
    split at hg
    · rename_i l' h' e1 e2
      split at hg
      case isFalse => cases hg
      rename_i hne
      cases hg
      have q1 := hb.part e1
      have q2 := hc.part e2
      subst q1 q2
      have ha2 := ha.ever
      obtain ⟨p, vs, rfl, h1, l1⟩ := ha.sqt
      refine sl_tupA pins s σ H _ v vl vu _ _ sl Q I rx hs pl pu ⟨p, vs, rfl, h1, fun w => ?_, fun _ p hp => q _ _ (Same.upd hp) (newT tr hp (l1.cut _ _)) fun _ a e => .tup⟩
      have whole : cut xs l' h' = xs := by
        unfold cut
        rw [l1.length, w.1, w.2, List.drop_zero, Nat.sub_zero, ← l1.length]
        exact List.take_length
      exact q _ H (Same.refl H) (by rw [whole]; exact ha2 (by rw [whole] at hne; omega)) fun _ a e => .tup
    · cases hg
  · cases hg
theorem o_neg : UnP X (unaryOp .USub) fNeg := by
  intro pins s σ H x v Q I rx h
  obtain ⟨M, ds, d, tr, hd, hg, q⟩ := h
  obtain ⟨a, rfl, ha⟩ := hd.one
  unfold fNeg at hg
  split at hg
  · rename_i i e
    cases e; cases hg; cases ha
    exact un_neg pins s σ H _ v Q I rx ⟨_, rfl, q _ H (Same.refl H) (.int _) (fin0 (by intro a e; cases e) H)⟩
  · cases hg
theorem o_len : CallP X (.builtin "len") true fLen := by
  intro pins s σ H xs us Q I r h
  obtain ⟨M, ds, d, tr, hd, hg, q⟩ := h
  unfold fLen at hg
  split at hg
  · rename_i ys
    cases hg
    cases hd with
    | cons ha r2 =>
      cases r2
      obtain ⟨p, vs, rfl, h1, l1⟩ := ha.sql
      refine call_len pins s σ H _ us Q I r ⟨_, _, rfl, .inl ⟨_, h1, l1.length⟩, q _ H (Same.refl H) (.int _) (fin0 (by intro a e; cases e) H)⟩
  · rename_i ys
    cases hg
    cases hd with
    | cons ha r2 =>
      cases r2
      obtain ⟨p, vs, rfl, h1, l1⟩ := ha.sqt
      refine call_len pins s σ H _ us Q I r ⟨_, _, rfl, .inr ⟨_, h1, l1.length⟩, q _ H (Same.refl H) (.int _) (fin0 (by intro a e; cases e) H)⟩
  · rename_i z
    split at hg
    · rename_i hl
      cases hg
      cases hd with
      | cons ha r2 =>
        cases r2; cases ha
        refine call_len pins s σ H _ us Q I r ⟨_, _, rfl, ⟨Nat.le_trans hl (by decide), rfl⟩, q _ H (Same.refl H) (.int _) (fin0 (by intro a e; cases e) H)⟩
    · cases hg
  · cases hg
theorem bools_of {K : PySem.W.Frag} {M : Addr → Prop} {H : Hp} : ∀ {xs : List D} {vs : List V} {bs : List Bool}, DnL K M H xs vs → bools? xs = some bs → vs = bs.map V.bl
  | _, _, _, .nil, e => by cases e; rfl
  | .bool b :: xs, _, bs, .cons a r, e => by
    unfold bools? at e
    cases h : bools? xs with
    | none => rw [h] at e; cases e
    | some cs =>
      rw [h] at e
      cases e
      cases a
      rw [bools_of r h]
      rfl
  | .none :: _, _, _, .cons a r, e => by cases e
  | .int _ :: _, _, _, .cons a r, e => by cases e
  | .str _ :: _, _, _, .cons a r, e => by cases e
  | .list _ :: _, _, _, .cons a r, e => by cases e
  | .tuple _ :: _, _, _, .cons a r, e => by cases e
  | .dict _ :: _, _, _, .cons a r, e => by cases e
theorem o_all (hc : X.calm = true) : CallP X (.builtin "all") true fAll := by
  intro pins s σ H xs us Q I r h
  obtain ⟨M, ds, d, tr, hd, hg, q⟩ := h
  unfold fAll at hg
  split at hg
  · rename_i ys
    split at hg
    · rename_i bs eb
      cases hg
      cases hd with
      | cons ha r2 =>
        cases r2
        obtain ⟨p, vs, rfl, h1, l1⟩ := ha.sql
        rw [bools_of l1 eb] at h1
        exact cr_all hc pins s σ H _ us Q I r ⟨_, bs, rfl, h1, q _ H (Same.refl H) (.bl _) (fin0 (by intro a e; cases e) H)⟩
    · cases hg
  · cases hg
theorem o_any (hc : X.calm = true) : CallP X (.builtin "any") true fAny := by
  intro pins s σ H xs us Q I r h
  obtain ⟨M, ds, d, tr, hd, hg, q⟩ := h
  unfold fAny at hg
  split at hg
  · rename_i ys
    split at hg
    · rename_i bs eb
      cases hg
      cases hd with
      | cons ha r2 =>
        cases r2
        obtain ⟨p, vs, rfl, h1, l1⟩ := ha.sql
        rw [bools_of l1 eb] at h1
        exact cr_any hc pins s σ H _ us Q I r ⟨_, bs, rfl, h1, q _ H (Same.refl H) (.bl _) (fin0 (by intro a e; cases e) H)⟩
    · cases hg
  · cases hg
theorem o_abs : CallP X (.builtin "abs") true fAbs := by
  intro pins s σ H xs us Q I r h
  obtain ⟨M, ds, d, tr, hd, hg, q⟩ := h
  unfold fAbs at hg
  split at hg
  · cases hg
    cases hd with
    | cons ha r2 =>
      cases r2; cases ha
      exact call_abs pins s σ H _ us Q I r ⟨_, rfl, q _ H (Same.refl H) (.int _) (fin0 (by intro a e; cases e) H)⟩
  · cases hg
theorem o_max2 (hc : X.calm = true) : CallP X (.builtin "max") true fMax2 := by
  intro pins s σ H xs us Q I r h
  obtain ⟨M, ds, d, tr, hd, hg, q⟩ := h
  unfold fMax2 at hg
  split at hg
  · cases hg
    cases hd with
    | cons ha r2 => cases r2 with
      | cons hb r3 =>
        cases r3; cases ha; cases hb
        exact call_max2 hc pins s σ H _ us Q I r ⟨_, _, rfl, q _ H (Same.refl H) (.int _) (fin0 (by intro a e; cases e) H)⟩
  · cases hg
theorem o_min2 (hc : X.calm = true) : CallP X (.builtin "min") true fMin2 := by
  intro pins s σ H xs us Q I r h
  obtain ⟨M, ds, d, tr, hd, hg, q⟩ := h
  unfold fMin2 at hg
  split at hg
  · cases hg
    cases hd with
    | cons ha r2 => cases r2 with
      | cons hb r3 =>
        cases r3; cases ha; cases hb
        exact call_min2 hc pins s σ H _ us Q I r ⟨_, _, rfl, q _ H (Same.refl H) (.int _) (fin0 (by intro a e; cases e) H)⟩
  · cases hg
theorem o_int : CallP X (.type "int") true fInt := by
  intro pins s σ H xs us Q I r h
  obtain ⟨M, ds, d, tr, hd, hg, q⟩ := h
  unfold fInt at hg
  split at hg
  · cases hg
    cases hd with
    | cons ha r2 =>
      cases r2; cases ha
      exact call_int1 pins s σ H _ us Q I r (.inr ⟨_, rfl, q _ H (Same.refl H) (.int _) (fin0 (by intro a e; cases e) H)⟩)
  · cases hg
    cases hd with
    | cons ha r2 =>
      cases r2; cases ha
      exact call_int1 pins s σ H _ us Q I r (.inl ⟨_, rfl, q _ H (Same.refl H) (.int _) (fin0 (by intro a e; cases e) H)⟩)
  · split at hg
    · rename_i hl
      cases e : PySem.intText? _ with
      | none => rw [e] at hg; cases hg
      | some n =>
        rw [e] at hg
        cases hg
        cases hd with
        | cons ha r2 =>
          cases r2; cases ha
          exact call_int_str pins s σ H _ us Q I r ⟨_, _, rfl, e, hl, q _ H (Same.refl H) (.int _) (fin0 (by intro a e; cases e) H)⟩
    · cases hg
  · cases hg
theorem o_str1 : CallP X (.type "str") true fStr1 := by
  intro pins s σ H xs us Q I r h
  obtain ⟨M, ds, d, tr, hd, hg, q⟩ := h
  unfold fStr1 at hg
  split at hg
  · split at hg
    · rename_i hl
      cases hg
      cases hd with
      | cons ha r2 =>
        cases r2; cases ha
        exact call_str_int pins s σ H _ us Q I r ⟨_, rfl, hl, q _ H (Same.refl H) (.str _) (fin0 (by intro a e; cases e) H)⟩
    · cases hg
  · cases hg
    cases hd with
    | cons ha r2 =>
      cases r2; cases ha
      exact SkE.call_str_str pins s σ H _ us Q I r ⟨_, rfl, q _ H (Same.refl H) (.str _) (fin0 (by intro a e; cases e) H)⟩
  · cases hg
theorem strs_V {K : PySem.W.Frag} {M : Addr → Prop} {H : Hp} : ∀ {ds : List D} {xs : List Str} {vs : List V}, strs? ds = some xs → DnL K M H ds vs → vs = xs.map V.str
  | _, _, _, e, .nil => by cases e; rfl
  | _, xs, _, e, .cons a l => by
    cases a with
    | str z =>
      rename_i ds vs
      unfold strs? at e
      cases e2 : strs? ds with
      | none => rw [e2] at e; cases e
      | some ys =>
        rw [e2] at e
        cases e
        rw [strs_V e2 l]
        rfl
    | _ => cases e
theorem strs_D {K : PySem.W.Frag} {M : Addr → Prop} {H : Hp} : ∀ xs : List Str, DnL K M H (xs.map PyData.str) (xs.map V.str)
  | [] => .nil
  | x :: r => .cons (.str x) (strs_D r)
theorem o_join : MtP X "str.join" true fJoin := by
  intro pins s σ H x xs v us Q I rx r h
  obtain ⟨M, ds, d, tr, hd, hg, q⟩ := h
  have key : ∀ (a : Str) (zs : List D) (vs : List V) (p : Addr), joinO a zs = some d → DnL X.K M H zs vs → x = .str a → xs = [.ref p] → (SqL X.K H p vs ∨ SqT X.K H p vs) → wpAny (model X.prog X.w) X.A (call (.builtin "str.join") (v :: us)) (EP X pins σ Q) X.xe s := fun a zs vs p hj l ex exs sq => by
    unfold joinO at hj
    cases e : strs? zs with
    | none => rw [e] at hj; cases hj
    | some ys =>
      rw [e] at hj
      have hj : (if (ys.map (·.length)).sum + ys.length * a.length ≤ lim then some (PyData.str (Txt.join a ys)) else none) = some d := hj
      split at hj
      · rename_i hl
        cases hj
        rw [strs_V e l] at sq
        exact mt_join pins s σ H _ _ v us Q I rx r ⟨a, p, ys, ex, exs, sq, Nat.le_trans hl (by decide), q _ H (Same.refl H) (.str _) (fin0 (by intro a e; cases e) H)⟩
      · cases hj
  unfold fJoin at hg
  split at hg
  · cases hd with
    | cons ha r2 => cases r2 with
      | cons hb r3 =>
        cases r3; cases ha
        obtain ⟨p, vs, rfl, h1, l1⟩ := hb.sql
        exact key _ _ vs p hg l1 rfl rfl (.inl h1)
  · cases hd with
    | cons ha r2 => cases r2 with
      | cons hb r3 =>
        cases r3; cases ha
        obtain ⟨p, vs, rfl, h1, l1⟩ := hb.sqt
        exact key _ _ vs p hg l1 rfl rfl (.inr h1)
  · cases hg
theorem o_split : MtP X "str.split" true fSplit := by
  intro pins s σ H x xs v us Q I rx r h
  obtain ⟨M, ds, d, tr, hd, hg, q⟩ := h
  unfold fSplit at hg
  split at hg
  · split at hg
    · rename_i hl
      cases hg
      cases hd with
      | cons ha r2 => cases r2 with
        | cons hb r3 =>
          cases r3; cases ha; cases hb
          exact mt_split pins s σ H _ _ v us Q I rx r ⟨_, _, rfl, rfl, hl.2, Nat.le_trans (Nat.add_le_add_right hl.1 2) (by decide), fun l hn => q _ _ (Same.upd hn) (newL tr hn (strs_D _)) fun _ a e => by cases e; exact ⟨fun _ => hn, fun ys e => by cases e; exact ⟨_, rfl, strs_D _⟩⟩⟩
    · cases hg
  · cases hg
theorem o_ofList : CallP X (.type "list") true fOfList := by
  intro pins s σ H xs us Q I r h
  obtain ⟨M, ds, d, tr, hd, hg, q⟩ := h
  unfold fOfList at hg
  split at hg
  · cases hg
    cases hd with
    | cons ha r2 =>
      cases r2
      obtain ⟨p, vs, rfl, h1, l1⟩ := ha.sql
      exact call_list_of pins s σ H _ us Q I r ⟨_, _, rfl, .inl h1, fun l hl => q _ _ (Same.upd hl) (newL tr hl l1) fun _ a e => by cases e; exact ⟨fun _ => hl, fun ys e => by cases e; exact ⟨_, rfl, l1⟩⟩⟩
  · cases hg
    cases hd with
    | cons ha r2 =>
      cases r2
      obtain ⟨p, vs, rfl, h1, l1⟩ := ha.sqt
      exact call_list_of pins s σ H _ us Q I r ⟨_, _, rfl, .inr h1, fun l hl => q _ _ (Same.upd hl) (newL tr hl l1) fun _ a e => by cases e; exact ⟨fun _ => hl, fun ys e => by cases e; exact ⟨_, rfl, l1⟩⟩⟩
  · cases hg
theorem o_strip : MtP X "str.strip" true fStrip := by
  intro pins s σ H x xs v us Q I rx r h
  obtain ⟨M, ds, d, tr, hd, hg, q⟩ := h
  unfold fStrip at hg
  split at hg
  · split at hg
    · rename_i hl
      cases hg
      cases hd with
      | cons ha r2 => cases r2 with
        | cons hb r3 =>
          cases r3; cases ha; cases hb
          exact mt_stripChars pins s σ H _ _ v us Q I rx r ⟨_, _, rfl, rfl, Nat.le_trans hl (by decide), q _ H (Same.refl H) (.str _) (fin0 (by intro a e; cases e) H)⟩
    · cases hg
  · cases hg

/-! ### isinstance -/
inductive Top (h : Heap) : Value → D → Prop
  | none : Top h .none .none
  | bool (b : Bool) : Top h (.bool b) (.bool b)
  | int (i : Int) (t : Tok) : Top h (.int i t) (.int i)
  | str (x : Str) (t : Tok) : Top h (.str x t) (.str x)
  | list {a : Addr} {o : Obj} {xs : List D} : h.get? a = some o → o.cls = .type "list" → Top h (.ref a) (.list xs)
  | tuple {a : Addr} {o : Obj} {xs : List D} : h.get? a = some o → o.cls = .type "tuple" → Top h (.ref a) (.tuple xs)
  | dict {a : Addr} {o : Obj} {xs : List (D × D)} : h.get? a = some o → o.cls = .type "dict" → isX xs = false → Top h (.ref a) (.dict xs)
theorem Dn.top {pins : List (Addr × Obj)} {σ : St} {H : Hp} {s : Shared} {M : Addr → Prop} {b : Bool} {d : D} {x : V} {u : Value} (I : Inv X pins σ H s) (h : Dn X.K M H b d x) (r : RelV x u) (nx : ∀ kvs, d = .dict kvs → isX kvs = false) : Top s.heap u d := by
  cases d with
  | none => cases h; cases r; exact .none
  | bool k => cases h; cases r; exact .bool k
  | int i => cases h; obtain ⟨t, rfl⟩ := r; exact .int i t
  | str y => cases h; obtain ⟨t, rfl⟩ := r; exact .str y t
  | list xs =>
    obtain ⟨a, vs, rfl, hs, _⟩ := h.sql
    cases r
    obtain ⟨its, rv, ⟨o, n, ho, hc, _, hd⟩, _⟩ := I.list hs
    exact .list ho hc
  | tuple xs =>
    obtain ⟨a, vs, rfl, hs, _⟩ := h.sqt
    cases r
    obtain ⟨its, rv, ⟨o, ho, hc, n, hd⟩, _⟩ := I.tuple hs
    exact .tuple ho hc
  | dict kvs =>
    cases h with
    | dK rd n q0 q l q2 =>
      cases r
      obtain ⟨_, _, _, _, o, _, _, e, ex, _⟩ := rd.ok I.hok
      exact .dict e ex.1 (nx _ rfl)
    | dT rd n q0 q l q2 =>
      cases r
      obtain ⟨_, _, _, _, o, _, _, e, ex, _⟩ := rd.ok I.hok
      exact .dict e ex.1 (nx _ rfl)
    | exc _ _ _ _ => exact nomatch (show true = false from nx _ rfl)
/-- data, or an exception -/
theorem Dn.exc_or {pins : List (Addr × Obj)} {σ : St} {H : Hp} {s : Shared} {M : Addr → Prop} {b : Bool} {d : D} {x : V} {u : Value} (I : Inv X pins σ H s) (h : Dn X.K M H b d x) (r : RelV x u) :
    (∀ kvs, d = .dict kvs → isX kvs = false) ∨ ∃ (n : Str) (a C : Addr) (oe : Obj), d = exD n ∧ u = .ref a ∧ PySem.W.nsIn X.K mainGlobals n = some (some (.ref C)) ∧ XOk X.K C ∧ PySem.W.InstAt s.heap a oe C none := by
  cases d with
  | dict kvs =>
    cases h with
    | dK rd n q0 q l q2 =>
      refine .inl fun k e => ?_
      cases e
      cases kvs with
      | nil => rfl
      | cons p r2 =>
        rename_i es
        cases es with
        | nil => cases q0
        | cons e es =>
          obtain ⟨p1, p2⟩ := p
          obtain ⟨k1, k2⟩ := e
          have h1 : p1 = keyD k1 := (List.cons.inj q0).1
          subst h1
          cases k1 <;> rfl
    | dT rd n q0 q l q2 =>
      refine .inl fun k e => ?_
      cases e
      cases kvs with
      | nil => rfl
      | cons p r2 =>
        rename_i es
        cases es with
        | nil => cases q0
        | cons e es =>
          obtain ⟨p1, p2⟩ := p
          obtain ⟨k1, k2⟩ := e
          have h1 : p1 = PyData.tuple (k1.map keyD) := (List.cons.inj q0).1
          subst h1
          rfl
    | exc c xo rd nm =>
      cases r
      obtain ⟨oe, i⟩ := exC_inst I.hok rd
      exact .inr ⟨_, _, _, oe, rfl, rfl, c, xo, i⟩
  | _ => exact .inl fun k e => by cases e
/-- isinstance of an exception, beside one class -/
theorem isi_exc {prog : Program} {w : World} {A : Around} {E : Value → Shared → Prop} {s : Shared} {K : PySem.W.Frag} {a C : Addr} {oe : Obj} {c : Value} {b : Bool} {Q : Value → Shared → Prop} (x : XOk K C) (k : K.In s.heap) (i : PySem.W.InstAt s.heap a oe C none) (e : PySem.W.kitOne K (.ref C) c = some b) (h : ∀ tk, Q (.bool b) { s with toks := tk }) :
    wpAny (model prog w) A (call (.builtin "isinstance") [.ref a, c]) Q E s :=
  PySem.W.kia_one (PySem.W.handS_kitx_exc x.c.hg x.c.hk x.c.hs x.c.hd x.c.ha x.c.hn x.c.ht x.c.hm) k i e (fun z => nomatch z) h
def Ty.str' : Ty → String
  | .str => "str" | .int => "int" | .bool => "bool" | .list => "list" | .tuple => "tuple" | .dict => "dict"
section
variable {prog : Program} {w : World} {A : Around} {E : Value → Shared → Prop} {s : Shared} {v : Value} {d : D} {Q : Value → Shared → Prop}
theorem isi_str (r : Top s.heap v d) (h : ∀ tk, Q (.bool (isTy .str d)) { s with toks := tk }) : wpAny (model prog w) A (call (.builtin "isinstance") [v, .type "str"]) Q E s := by
  cases r with
  | none => exact PySem.IsiPair.NoneType_str (h _)
  | bool b => exact PySem.IsiPair.bool_str (h _)
  | int n t => exact PySem.IsiPair.int_str (h _)
  | str x t => exact PySem.IsiPair.str_str (h s.toks)
  | list h1 h2 => exact PySem.IsiPair.list_str h1 h2 (h _)
  | tuple h1 h2 => exact PySem.IsiPair.tuple_str h1 h2 (h _)
  | dict h1 h2 h3 => exact PySem.IsiPair.dict_str h1 h2 (h _)
theorem isi_int (r : Top s.heap v d) (h : ∀ tk, Q (.bool (isTy .int d)) { s with toks := tk }) : wpAny (model prog w) A (call (.builtin "isinstance") [v, .type "int"]) Q E s := by
  cases r with
  | none => exact PySem.IsiPair.NoneType_int (h _)
  | bool b => exact PySem.IsiPair.bool_int (h s.toks)
  | int n t => exact PySem.IsiPair.int_int (h s.toks)
  | str x t => exact PySem.IsiPair.str_int (h _)
  | list h1 h2 => exact PySem.IsiPair.list_int h1 h2 (h _)
  | tuple h1 h2 => exact PySem.IsiPair.tuple_int h1 h2 (h _)
  | dict h1 h2 h3 => exact PySem.IsiPair.dict_int h1 h2 (h _)
theorem isi_bool (r : Top s.heap v d) (h : ∀ tk, Q (.bool (isTy .bool d)) { s with toks := tk }) : wpAny (model prog w) A (call (.builtin "isinstance") [v, .type "bool"]) Q E s := by
  cases r with
  | none => exact PySem.IsiPair.NoneType_bool (h _)
  | bool b => exact PySem.IsiPair.bool_bool (h s.toks)
  | int n t => exact PySem.IsiPair.int_bool (h _)
  | str x t => exact PySem.IsiPair.str_bool (h _)
  | list h1 h2 => exact PySem.IsiPair.list_bool h1 h2 (h _)
  | tuple h1 h2 => exact PySem.IsiPair.tuple_bool h1 h2 (h _)
  | dict h1 h2 h3 => exact PySem.IsiPair.dict_bool h1 h2 (h _)
theorem isi_list (r : Top s.heap v d) (h : ∀ tk, Q (.bool (isTy .list d)) { s with toks := tk }) : wpAny (model prog w) A (call (.builtin "isinstance") [v, .type "list"]) Q E s := by
  cases r with
  | none => exact PySem.IsiPair.NoneType_list (h _)
  | bool b => exact PySem.IsiPair.bool_list (h _)
  | int n t => exact PySem.IsiPair.int_list (h _)
  | str x t => exact PySem.IsiPair.str_list (h _)
  | list h1 h2 => exact PySem.IsiPair.list_list h1 h2 (h s.toks)
  | tuple h1 h2 => exact PySem.IsiPair.tuple_list h1 h2 (h _)
  | dict h1 h2 h3 => exact PySem.IsiPair.dict_list h1 h2 (h _)
theorem isi_tuple (r : Top s.heap v d) (h : ∀ tk, Q (.bool (isTy .tuple d)) { s with toks := tk }) : wpAny (model prog w) A (call (.builtin "isinstance") [v, .type "tuple"]) Q E s := by
  cases r with
  | none => exact PySem.IsiPair.NoneType_tuple (h _)
  | bool b => exact PySem.IsiPair.bool_tuple (h _)
  | int n t => exact PySem.IsiPair.int_tuple (h _)
  | str x t => exact PySem.IsiPair.str_tuple (h _)
  | list h1 h2 => exact PySem.IsiPair.list_tuple h1 h2 (h _)
  | tuple h1 h2 => exact PySem.IsiPair.tuple_tuple h1 h2 (h s.toks)
  | dict h1 h2 h3 => exact PySem.IsiPair.dict_tuple h1 h2 (h _)
theorem isi_dict (r : Top s.heap v d) (h : ∀ tk, Q (.bool (isTy .dict d)) { s with toks := tk }) : wpAny (model prog w) A (call (.builtin "isinstance") [v, .type "dict"]) Q E s := by
  cases r with
  | none => exact PySem.IsiPair.NoneType_dict (h _)
  | bool b => exact PySem.IsiPair.bool_dict (h _)
  | int n t => exact PySem.IsiPair.int_dict (h _)
  | str x t => exact PySem.IsiPair.str_dict (h _)
  | list h1 h2 => exact PySem.IsiPair.list_dict h1 h2 (h _)
  | tuple h1 h2 => exact PySem.IsiPair.tuple_dict h1 h2 (h _)
  | @dict a o xs h1 h2 h3 => exact PySem.IsiPair.dict_dict h1 h2 (by
    have q := h s.toks
    rw [show isTy .dict (.dict xs) = true from congrArg not h3] at q
    exact q)
end
theorem o_isinst (t : Ty) : CallR X (.builtin "isinstance") fun xs H Q => ∃ x, xs = [x, .ty t.str'] ∧ rP X.K true (fIsinst t) [x] H Q := by
  intro pins s σ H xs us Q I r h
  obtain ⟨x, rfl, M, ds, d, tr, hd, hg, q⟩ := h
  obtain ⟨a, rfl, ha⟩ := hd.one
  obtain ⟨u1, u2, rfl, r1, r2⟩ := vals2 r
  cases (show u2 = Value.type t.str' from r2)
  have hg : some (PyData.bool (isTy t a)) = some d := hg
  cases hg
  have fin : ∀ tk, EP X pins σ Q (.bool (isTy t a)) { s with toks := tk } := fun tk => ⟨.bl _, H, I.tok _, rfl, q _ H (Same.refl H) (.bl _) (fin0 (by intro a e; cases e) H)⟩
  rcases ha.exc_or I r1 with nx | ⟨n, b, C, oe, rfl, rfl, _, xo, ii⟩
  case inr =>
    have fb : isTy t (exD n) = false := by cases t <;> rfl
    rw [fb] at fin
    refine isi_exc xo I.kIn ii (xo.f _ ?_) fin
    cases t <;> decide
  have T := ha.top I r1 nx
  cases t
  · exact isi_str T fin
  · exact isi_int T fin
  · exact isi_bool T fin
  · exact isi_list T fin
  · exact isi_tuple T fin
  · exact isi_dict T fin
end
end EV
end
section
set_option Elab.async false
set_option linter.all false
set_option maxRecDepth 100000
set_option maxHeartbeats 4000000
set_option autoImplicit false
/-! EvO3: repr of data with dicts in it. The kit asks that the table of modules be none of ALL addresses; only those of dicts matter -/
namespace EV
open PySem PySem.Spec PyProof.Rows L2
/-- no dict among these is the table of modules -/
def Safe (h : Heap) (as : List Addr) : Prop := ∀ a ∈ as, ∀ (o : Obj) (es : Array DictEntry) (n : Nat), h.get? a = some o → o.data = .dict es n → a ≠ sysModules
theorem Safe.left {h : Heap} {as bs : List Addr} (x : Safe h (as ++ bs)) : Safe h as := fun a m => x a (List.mem_append.mpr (.inl m))
theorem Safe.right {h : Heap} {as bs : List Addr} (x : Safe h (as ++ bs)) : Safe h bs := fun a m => x a (List.mem_append.mpr (.inr m))
theorem Safe.tail {h : Heap} {a : Addr} {as : List Addr} (x : Safe h (a :: as)) : Safe h as := fun b m => x b (List.Mem.tail _ m)
theorem Safe.nil {h : Heap} : Safe h [] := fun a m => nomatch m
theorem Safe.both {h : Heap} {as bs : List Addr} (x : Safe h as) (y : Safe h bs) : Safe h (as ++ bs) := fun a m => (List.mem_append.mp m).elim (x a) (y a)
theorem Safe.list {h : Heap} {a : Addr} {as : List Addr} {o : Obj} {vs : Array Value} {n : Nat} (x : Safe h as) (e : h.get? a = some o) (d : o.data = .seq vs n) : Safe h (a :: as) := fun b m o' es n' e' d' => by
  cases m with
  | head => rw [e] at e'; cases e'; rw [d] at d'; cases d'
  | tail _ m => exact x b m o' es n' e' d'
theorem Safe.dict {h : Heap} {a : Addr} {as : List Addr} (x : Safe h as) (e : (a == sysModules) = false) : Safe h (a :: as) := fun b m o' es n' e' d' => by
  cases m with
  | head => exact beq_eq_false_iff_ne.mp e
  | tail _ m => exact x b m o' es n' e' d'
section
variable {prog : Program} {w : World} {h : Heap}
def Shows (prog : Program) (w : World) (h : Heap) (d : D) (v : Value) : Prop := ∃ bs, ReadAtMost h d.depth bs ∧ ReprK prog w bs h d.depth v d.shown
def ShowsAll (prog : Program) (w : World) (h : Heap) (ds : List D) (vs : List Value) : Prop := ∃ bs, ReadAtMost h (PyData.depthAll ds) bs ∧ ReprAllK prog w bs h (PyData.depthAll ds) vs (PyData.shownAll ds)
theorem Shows.atom {d : D} {v : Value} (x : ReprIs prog w v d.shown) : Shows prog w h d v := ⟨[], fun b m => (nomatch m), .of_is x _ _ _⟩
theorem ShowsAll.nil : ShowsAll prog w h [] [] := ⟨[], fun b m => (nomatch m), by rw [PyData.shownAll]; exact .nil⟩
theorem ShowsAll.cons {d : D} {ds : List D} {v : Value} {vs : List Value} (x : Shows prog w h d v) (y : ShowsAll prog w h ds vs) : ShowsAll prog w h (d :: ds) (v :: vs) := by
  obtain ⟨p, p1, p2⟩ := x
  obtain ⟨q, q1, q2⟩ := y
  have l1 : d.depth ≤ PyData.depthAll (d :: ds) := by rw [PyData.depthAll]; omega
  have l2 : PyData.depthAll ds ≤ PyData.depthAll (d :: ds) := by rw [PyData.depthAll]; omega
  refine ⟨p ++ q, (p1.mono l1).append (q1.mono l2), ?_⟩
  rw [PyData.shownAll]
  exact .cons ((p2.more fun b m => List.mem_append.mpr (.inl m)).level_le l1) (q2.more_le (fun b m => List.mem_append.mpr (.inr m)) l2)
theorem apart {a : Addr} {d : D} {as bs : List Addr} {n : Nat} (r : Reads h (.ref a) d as) (e : d.depth = n + 1) (q : ReadAtMost h n bs) : a ∉ bs := not_mem_of_deeper r (by omega) q
theorem Shows.list {a : Addr} {o : Obj} {vs : Array Value} {n : Nat} {xs : List D} {as : List Addr} (g : h.get? a = some o) (c : o.cls = .type "list") (dt : o.data = .seq vs n) (rs : ReadsAll h vs.toList xs as) (q : ShowsAll prog w h xs vs.toList) : Shows prog w h (.list xs) (.ref a) := by
  obtain ⟨p, p1, p2⟩ := q
  have r : Reads h (.ref a) (.list xs) _ := .list g c dt rs
  have dp : (PyData.list xs).depth = PyData.depthAll xs + 1 := by rw [PyData.depth]
  refine ⟨a :: p, .cons r (by omega) p1, ?_⟩
  rw [dp, PyData.shown]
  obtain ⟨l⟩ := vs
  cases l with
  | nil =>
    cases rs
    rw [PyData.shownAll, listText_nil]
    exact ReprK.listEmpty g c dt
  | cons x l => exact ReprK.list g c dt (apart r dp p1) (by simpa using p2.length_eq) fun i y e => p2.item i y (by simpa using e)
theorem Shows.tuple {a : Addr} {o : Obj} {vs : Array Value} {n : Nat} {xs : List D} {as : List Addr} (g : h.get? a = some o) (c : o.cls = .type "tuple") (dt : o.data = .seq vs n) (rs : ReadsAll h vs.toList xs as) (q : ShowsAll prog w h xs vs.toList) : Shows prog w h (.tuple xs) (.ref a) := by
  obtain ⟨p, p1, p2⟩ := q
  have r : Reads h (.ref a) (.tuple xs) _ := .tuple g c dt rs
  have dp : (PyData.tuple xs).depth = PyData.depthAll xs + 1 := by rw [PyData.depth]
  refine ⟨a :: p, .cons r (by omega) p1, ?_⟩
  rw [dp, PyData.shown]
  exact ReprK.tuple g c dt (apart r dp p1) p2
theorem two {es : Array DictEntry} {kvs : List (D × D)} {p q : List Addr} (p2 : ReprAllK prog w p h (PyData.depthAll (kvs.map (·.1))) (es.toList.map (·.key)) (PyData.shownAll (kvs.map (·.1)))) (q2 : ReprAllK prog w q h (PyData.depthAll (kvs.map (·.2))) (es.toList.map (·.val)) (PyData.shownAll (kvs.map (·.2)))) :
    ReprEntriesK prog w (p ++ q) h (PyData.depthKv kvs) es.toList (PyData.shownKv kvs) := by
  rw [PyData.shownKv_eq]
  exact .of_two _ _ _ (p2.more_le (fun b m => List.mem_append.mpr (.inl m)) (PyData.depthAll_keys_le kvs)) (q2.more_le (fun b m => List.mem_append.mpr (.inr m)) (PyData.depthAll_vals_le kvs))
theorem Shows.dict {a : Addr} {o : Obj} {es : Array DictEntry} {n : Nat} {kvs : List (D × D)} {as bs : List Addr} (g : h.get? a = some o) (c : o.cls = .type "dict") (dt : o.data = .dict es n) (rk : ReadsAll h (es.toList.map (·.key)) (kvs.map (·.1)) as) (rv : ReadsAll h (es.toList.map (·.val)) (kvs.map (·.2)) bs)
    (far : a ≠ sysModules) (q1 : ShowsAll prog w h (kvs.map (·.1)) (es.toList.map (·.key))) (q2 : ShowsAll prog w h (kvs.map (·.2)) (es.toList.map (·.val))) : Shows prog w h (.dict kvs) (.ref a) := by
  obtain ⟨p, p1, p2⟩ := q1
  obtain ⟨q, q1, q2⟩ := q2
  have r : Reads h (.ref a) (.dict kvs) _ := .dict g c dt rk rv
  have dp : (PyData.dict kvs).depth = PyData.depthKv kvs + 1 := by rw [PyData.depth]
  have at_ := (p1.mono (PyData.depthAll_keys_le kvs)).append (q1.mono (PyData.depthAll_vals_le kvs))
  refine ⟨a :: (p ++ q), .cons r (by omega) at_, ?_⟩
  rw [dp, PyData.shown]
  exact ReprK.dict g c dt (beq_eq_false_iff_ne.mpr far) (apart r dp at_) (two p2 q2)
mutual
theorem shows_of : ∀ {v : Value} {d : D} {as : List Addr}, Reads h v d as → d.showable = true → Safe h as → d.shown.length ≤ sizeLine → Shows prog w h d v
  | _, _, _, .none, _, _, _ => .atom (by rw [PyData.shown]; exact ReprIs.none)
  | _, _, _, .bool b, _, _, _ => .atom (by rw [PyData.shown]; exact ReprIs.bool b)
  | _, _, _, .int i t, hs, _, _ => .atom (by rw [PyData.shown]; exact ReprIs.int t (by simpa [PyData.showable] using hs))
  | _, _, _, .str x t, _, _, hz => .atom (by rw [PyData.shown] at hz ⊢; exact ReprIs.str x t hz)
  | _, _, _, .list (xs := xs) g c dt rs, hs, sf, hz => by
    rw [PyData.shown] at hz
    exact .list g c dt rs (showsAll_of rs (by simpa [PyData.showable] using hs) sf.tail fun t ht => Nat.le_trans (listText_mem_le ht) hz)
  | _, _, _, .tuple (xs := xs) g c dt rs, hs, sf, hz => by
    rw [PyData.shown] at hz
    exact .tuple g c dt rs (showsAll_of rs (by simpa [PyData.showable] using hs) sf fun t ht => Nat.le_trans (tupleText_mem_le ht) hz)
  | _, _, _, .dict (kvs := kvs) g c dt rk rv, hs, sf, hz => by
    rw [PyData.shown] at hz
    obtain ⟨s1, s2⟩ := PyData.showableKv_split kvs (by simpa [PyData.showable] using hs)
    refine .dict g c dt rk rv (sf _ (by simp) _ _ _ g dt) (showsAll_of rk s1 ?_ fun t ht => ?_) (showsAll_of rv s2 ?_ fun t ht => ?_)
    · exact sf.left.tail
    · obtain ⟨p, hp, hl⟩ := PyData.shownKv_key_le kvs t ht
      exact Nat.le_trans hl (Nat.le_trans (dictText_mem_le hp) hz)
    · exact sf.right
    · obtain ⟨p, hp, hl⟩ := PyData.shownKv_val_le kvs t ht
      exact Nat.le_trans hl (Nat.le_trans (dictText_mem_le hp) hz)
theorem showsAll_of : ∀ {vs : List Value} {ds : List D} {as : List Addr}, ReadsAll h vs ds as → PyData.showableAll ds = true → Safe h as → (∀ t ∈ PyData.shownAll ds, t.length ≤ sizeLine) → ShowsAll prog w h ds vs
  | _, _, _, .nil, _, _, _ => .nil
  | _, _, _, .cons (d := d) (ds := ds) r rs, hs, sf, hz => by
    rw [PyData.showableAll, Bool.and_eq_true] at hs
    rw [PyData.shownAll] at hz
    exact .cons (shows_of r hs.1 sf.left (hz _ (by simp))) (showsAll_of rs hs.2 sf.right fun t ht => hz t (by simp [ht]))
end
/-- repr of what stands at an address -/
theorem repr_safe {A : Around} {E : Value → Shared → Prop} {s : Shared} {Q : Value → Shared → Prop} {a : Addr} {d : D} {as : List Addr} (r : Reads s.heap (.ref a) d as) (hs : d.showable = true) (sf : Safe s.heap as) (hz : d.shown.length ≤ sizeLine) (hg : A.guards = some []) (hu : A.units + (d.depth + 1) < cLine)
    (hQ : ∀ h' u tk, (∀ b o, s.heap.get? b = some o → h'.get? b = some o) → Q (.str d.shown u) { s with heap := h', toks := tk }) : wpAny (model prog w) A (call (.builtin "repr") [.ref a]) Q E s := by
  have same : ∀ b o, s.heap.get? b = some o → s.heap.get? b = some o := fun _ _ e => e
  have cl : ∀ {bs : List Addr}, ∀ b ∈ bs, Clear [] b := fun b _ => Clear.nil b
  cases r with
  | list g c dt rs =>
    rename_i o vs n xs bs
    rw [PyData.shown] at hz
    rw [PyData.depth] at hu
    simp only [PyData.shown] at hQ
    obtain ⟨p, p1, p2⟩ := showsAll_of (prog := prog) (w := w) rs (by simpa [PyData.showable] using hs) sf.tail fun t ht => Nat.le_trans (listText_mem_le ht) hz
    have na := apart (.list g c dt rs) (by rw [PyData.depth]) p1
    refine call_repr_slot (by omega) ⟨o, g, c⟩ F.slot_list_repr.toG ?_
    obtain ⟨l⟩ := vs
    cases l with
    | nil =>
      cases rs
      rw [PyData.shownAll, listText_nil] at hQ
      exact call_list_repr_empty ⟨o, g, c⟩ g dt ⟨_, _, rfl, hQ s.heap _ _ same⟩
    | cons x l => exact call_list_reprK g c dt na (by simpa using p2.length_eq) (fun i y e => p2.item i y (by simpa using e)) hg (fun b _ => Clear.nil b) (by show A.units + 1 + _ < cLine; omega) same (fun h' u tk k => ⟨_, _, rfl, hQ h' u tk k⟩) hz
  | tuple g c dt rs =>
    rename_i o vs n xs
    rw [PyData.shown] at hz
    rw [PyData.depth] at hu
    simp only [PyData.shown] at hQ
    obtain ⟨p, p1, p2⟩ := showsAll_of (prog := prog) (w := w) rs (by simpa [PyData.showable] using hs) sf fun t ht => Nat.le_trans (tupleText_mem_le ht) hz
    have na := apart (.tuple g c dt rs) (by rw [PyData.depth]) p1
    exact call_repr_slot (by omega) ⟨o, g, c⟩ F.slot_tuple_repr (call_tuple_reprK g c dt na p2 hg (fun b _ => Clear.nil b) (by show A.units + 1 + _ < cLine; omega) same (fun h' u tk k => ⟨_, _, rfl, hQ h' u tk k⟩) hz)
  | dict g c dt rk rv =>
    rename_i o es n kvs as bs
    rw [PyData.shown] at hz
    rw [PyData.depth] at hu
    simp only [PyData.shown] at hQ
    obtain ⟨s1, s2⟩ := PyData.showableKv_split kvs (by simpa [PyData.showable] using hs)
    obtain ⟨p, p1, p2⟩ := showsAll_of (prog := prog) (w := w) rk s1 sf.left.tail fun t ht => (PyData.shownKv_key_le kvs t ht).elim fun p ⟨hp, hl⟩ => Nat.le_trans hl (Nat.le_trans (dictText_mem_le hp) hz)
    obtain ⟨q, q1, q2⟩ := showsAll_of (prog := prog) (w := w) rv s2 sf.right fun t ht => (PyData.shownKv_val_le kvs t ht).elim fun p ⟨hp, hl⟩ => Nat.le_trans hl (Nat.le_trans (dictText_mem_le hp) hz)
    have na := apart (.dict g c dt rk rv) (by rw [PyData.depth]) ((p1.mono (PyData.depthAll_keys_le kvs)).append (q1.mono (PyData.depthAll_vals_le kvs)))
    exact call_repr_slot (by omega) ⟨o, g, c⟩ F.slot_dict_repr (call_dict_reprK g c dt (beq_eq_false_iff_ne.mpr (sf _ (by simp) _ _ _ g dt)) na (two p2 q2) hg (fun b _ => Clear.nil b) (by show A.units + 1 + _ < cLine; omega) same (fun h' u tk k => ⟨_, _, rfl, hQ h' u tk k⟩) hz)
end
/-! ### data is read, dicts too -/
section
variable {X : Cx} {pins : List (Addr × Obj)} {σ : L2.St} {H : Hp} {s : Shared} {M : Addr → Prop} {h : Heap}
theorem key_reads {k : Key} {v : Value} (e : keyIs k v = true) : Reads h v (keyD k) [] := by
  rcases keyIs_shape e with ⟨i, t, rfl, rfl⟩ | ⟨x, t, rfl, rfl⟩
  · exact .int i t
  · exact .str x t
theorem keys_reads {P : Program} {w : World} : ∀ {es : List DictEntry} {kvs : List (Key × Value)}, Pairs (mixKind P w) es kvs → ReadsAll h (es.map (·.key)) (kvs.map fun p => keyD p.1) []
  | _, _, .nil => .nil
  | _, _, .cons e _ r => .cons (as := []) (bs := []) (key_reads e) (keys_reads r)
theorem pairs_vals {P : Program} {w : World} : ∀ {es : List DictEntry} {kvs : List (Key × Value)}, Pairs (mixKind P w) es kvs → es.map (·.val) = kvs.map (·.2)
  | _, _, .nil => rfl
  | _, _, .cons _ e r => by rw [List.map_cons, List.map_cons, e, pairs_vals r]
theorem kv_both {κ : Type} : ∀ {es : List (κ × V)} {vs : List (κ × Value)}, KV es vs → es.map (·.1) = vs.map (·.1) ∧ Vals (es.map (·.2)) (vs.map (·.2))
  | _, _, .nil => ⟨rfl, .nil⟩
  | _, _, .cons ⟨e, r⟩ t => by
    obtain ⟨a, b⟩ := kv_both t
    exact ⟨by rw [List.map_cons, List.map_cons, e, a], .cons r b⟩
theorem items_reads {P : Program} {w : World} : ∀ {ks : List Key} {vs : List Value}, ItemsAre (mixKind P w) ks vs → ReadsAll h vs (ks.map keyD) []
  | _, _, .nil => .nil
  | _, _, .cons e r => .cons (as := []) (bs := []) (key_reads e) (items_reads r)
theorem tups_reads {P : Program} {w : World} : ∀ {xs : List (List Key × Addr × Value)}, (∀ x ∈ xs, (tupleKind (mixKind P w)).is h x.1 x.2.1) → ReadsAll h ((xs.map (entryOfKey (tupleKind (mixKind P w)))).map (·.key)) (xs.map fun x => .tuple (x.1.map keyD)) []
  | [], _ => .nil
  | x :: xs, q => by
    obtain ⟨o, its, n, g, c, dt, r⟩ := q x (by simp)
    exact .cons (as := []) (bs := []) (.tuple g c dt (items_reads r)) (tups_reads fun y hy => q y (List.Mem.tail _ hy))
theorem kt_both {H : Hp} : ∀ {es : List (List Key × V)} {xs : List (List Key × Addr × Value)}, KT H es xs → es.map (·.1) = xs.map (·.1) ∧ Vals (es.map (·.2)) (xs.map fun x => x.2.2)
  | _, _, .nil => ⟨rfl, .nil⟩
  | _, _, .cons ⟨e, _, r⟩ t => by
    obtain ⟨a, b⟩ := kt_both t
    exact ⟨by rw [List.map_cons, List.map_cons, e, a], .cons r b⟩
theorem noXv_map : ∀ kvs : List (D × D), noXv kvs = noXs (kvs.map (·.2))
  | [] => rfl
  | p :: r => by rw [noXv, List.map_cons, noXs, noXv_map r]
mutual
theorem Dn.readsD (I : Inv X pins σ H s) : ∀ {b : Bool} {d : D} {v : V} {u : Value}, Dn X.K M H b d v → RelV v u → noX d = true → ∃ as, Reads s.heap u d as ∧ Safe s.heap as
  | _, _, _, _, .non, r, _ => by cases r; exact ⟨_, .none, .nil⟩
  | _, _, _, _, .bl k, r, _ => by cases r; exact ⟨_, .bool k, .nil⟩
  | _, _, _, _, .int i, r, _ => by obtain ⟨t, rfl⟩ := r; exact ⟨_, .int i t, .nil⟩
  | _, _, _, _, .str x, r, _ => by obtain ⟨t, rfl⟩ := r; exact ⟨_, .str x t, .nil⟩
  | _, _, _, _, .lst e _ l, r, nx => by
    cases r
    obtain ⟨its, rv, ⟨o, n, g, c, _, dt⟩, _⟩ := I.list (.inl e)
    obtain ⟨as, rs, sf⟩ := DnL.readsD I l rv (by rw [noX] at nx; exact nx)
    exact ⟨_, .list g c dt rs, sf.list g dt⟩
  | _, _, _, _, .lstK e l, r, nx => by
    cases r
    obtain ⟨its, rv, ⟨o, n, g, c, _, dt⟩, _⟩ := I.list (.inr e)
    obtain ⟨as, rs, sf⟩ := DnL.readsD I l rv (by rw [noX] at nx; exact nx)
    exact ⟨_, .list g c dt rs, sf.list g dt⟩
  | _, _, _, _, .tup e _ l, r, nx => by
    cases r
    obtain ⟨its, rv, ⟨o, g, c, n, dt⟩, _⟩ := I.tuple (.inl (.inl e))
    obtain ⟨as, rs, sf⟩ := DnL.readsD I l rv (by rw [noX] at nx; exact nx)
    exact ⟨_, .tuple g c dt rs, sf⟩
  | _, _, _, _, .tupK e _ l, r, nx => by
    cases r
    obtain ⟨its, rv, ⟨o, g, c, n, dt⟩, _⟩ := I.tuple (.inr e)
    obtain ⟨as, rs, sf⟩ := DnL.readsD I l rv (by rw [noX] at nx; exact nx)
    exact ⟨_, .tuple g c dt rs, sf⟩
  | _, _, _, _, .dK (es := es) e _ q0 q l q2, r, nx => by
    cases r
    obtain ⟨_, far, ps, kv, o, a, n, g, c, dt, _, pr, _⟩ := dk_rd I.hok e
    obtain ⟨k1, k2⟩ := kv_both kv
    rw [← q2] at k2
    obtain ⟨as, rs, sf⟩ := DnL.readsD I l k2 (by rw [noX, Bool.and_eq_true, noXv_map, q] at nx; exact nx.2)
    refine ⟨_, .dict (as := []) g c.1 dt ?_ ?_, sf.dict far⟩
    · rw [q0]
      have := congrArg (List.map keyD) k1
      rw [List.map_map, List.map_map] at this
      rw [show (es.map fun p => keyD p.1) = ps.map fun p => keyD p.1 from this]
      exact keys_reads pr
    · rw [pairs_vals pr, q]
      exact rs
  | _, _, _, _, .dT (es := es) e _ q0 q l q2, r, nx => by
    cases r
    obtain ⟨_, far, xs, kt, o, a, n, g, c, dt, ee, ks, _⟩ := dt_rd I.hok e
    obtain ⟨k1, k2⟩ := kt_both kt
    rw [← q2] at k2
    obtain ⟨as, rs, sf⟩ := DnL.readsD I l k2 (by rw [noX, Bool.and_eq_true, noXv_map, q] at nx; exact nx.2)
    refine ⟨_, .dict (as := []) g c.1 dt ?_ ?_, sf.dict far⟩
    · rw [q0, ee]
      have := congrArg (List.map fun ks : List Key => (PyData.tuple (ks.map keyD))) k1
      rw [List.map_map, List.map_map] at this
      rw [show (es.map fun p => PyData.tuple (p.1.map keyD)) = xs.map fun p => PyData.tuple (p.1.map keyD) from this]
      exact tups_reads ks
    · rw [ee, List.map_map, q]
      exact rs
  | _, _, _, _, .exc _ _ _ _, _, nx => nomatch (show false = true from nx)
theorem DnL.readsD (I : Inv X pins σ H s) : ∀ {ds : List D} {vs : List V} {us : List Value}, DnL X.K M H ds vs → Vals vs us → noXs ds = true → ∃ as, ReadsAll s.heap us ds as ∧ Safe s.heap as
  | _, _, _, .nil, r, _ => by cases r; exact ⟨_, .nil, .nil⟩
  | _, _, _, .cons a l, r, nx => by
    cases r with
    | cons r1 r2 =>
      rw [noXs, Bool.and_eq_true] at nx
      obtain ⟨as, x1, y1⟩ := Dn.readsD I a r1 nx.1
      obtain ⟨bs, x2, y2⟩ := DnL.readsD I l r2 nx.2
      exact ⟨_, .cons x1 x2, y1.both y2⟩
end
end
section
variable {X : Cx}
theorem o_repr (hg0 : X.A.guards = some []) (hu : X.A.units + 200 < cLine) : CallP X (.builtin "repr") true fRepr := by
  intro pins s σ H xs us Q I r0 h
  obtain ⟨M, ds, d, tr, hd, hg, q⟩ := h
  unfold fRepr at hg
  split at hg
  · rename_i x
    split at hg
    · rename_i hl
      cases hg
      simp only [Bool.and_eq_true, decide_eq_true_eq] at hl
      obtain ⟨⟨⟨sh, dp⟩, sz⟩, nx⟩ := hl
      have sz : x.shown.length ≤ sizeLine := Nat.le_trans sz (by decide)
      cases hd with
      | cons ha hn =>
      cases hn
      obtain ⟨u1, rfl, r1⟩ := vals1 r0
      obtain ⟨as, rd, sf⟩ := Dn.readsD I ha r1 nx
      have fin : ∀ (h' : Heap) (u : Tok) (tk : Nat), (∀ b o, s.heap.get? b = some o → h'.get? b = some o) → EP X pins σ Q (.str x.shown u) { s with heap := h', toks := tk } := fun h' u tk k =>
        ⟨.str _, H, I.kept k, ⟨_, rfl⟩, q _ H (Same.refl H) (.str _) (fin0 (by intro a e; cases e) H)⟩
      have fin1 : ∀ (z : Str) (u : Tok) (tk : Nat), z = x.shown → EP X pins σ Q (.str z u) { s with toks := tk } := fun z u tk e => by
        subst e
        exact fin s.heap u tk fun _ _ e => e
      cases rd with
      | none => exact PySem.P.repr_of_none (fin1 _ _ _ (by simp only [PyData.shown]))
      | bool b => exact PySem.P.repr_of_bool (fin1 _ _ _ (by simp only [PyData.shown]))
      | int i t => exact PySem.P.repr_of_int (by simpa [PyData.showable] using sh) (fin1 _ _ _ (by simp only [PyData.shown]))
      | str z t => exact PySem.P.repr_of_str (fin1 _ _ _ (by simp only [PyData.shown])) (by simpa only [PyData.shown] using sz)
      | list g c dt rs => exact repr_safe (.list g c dt rs) sh sf sz hg0 (by omega) fin
      | tuple g c dt rs => exact repr_safe (.tuple g c dt rs) sh sf sz hg0 (by omega) fin
      | dict g c dt rk rv => exact repr_safe (.dict g c dt rk rv) sh sf sz hg0 (by omega) fin
    · cases hg
  · cases hg
/-! ### isinstance(x, (list, tuple)) -/
theorem ans_lt {h : Heap} {v : Value} {d : D} (r : Top h v d) : ∃ (T : String) (vs : List Bool), AnswersAll (fun s => s.TypeIs v T) v [.type "list", .type "tuple"] vs ∧ vs.any id = (isTy .list d || isTy .tuple d) ∧ ∀ s : Shared, (∀ b o, h.get? b = some o → s.heap.get? b = some o) → s.TypeIs v T := by
  have ml := PySem.F.isi_meta_list
  have mt := PySem.F.isi_meta_tuple
  cases r with
  | none => exact ⟨"NoneType", [false, false], ⟨.of_false_none (by decide +kernel) ml PySem.F.sub_NoneType_list, .of_false_none (by decide +kernel) mt PySem.F.sub_NoneType_tuple, trivial⟩, rfl, fun s _ => rfl⟩
  | bool b => exact ⟨"bool", [false, false], ⟨.of_false_bool (by decide +kernel) ml PySem.F.sub_bool_list, .of_false_bool (by decide +kernel) mt PySem.F.sub_bool_tuple, trivial⟩, rfl, fun s _ => rfl⟩
  | int i t => exact ⟨"int", [false, false], ⟨.of_false_int (by decide +kernel) ml PySem.F.sub_int_list, .of_false_int (by decide +kernel) mt PySem.F.sub_int_tuple, trivial⟩, rfl, fun s _ => rfl⟩
  | str x t => exact ⟨"str", [false, false], ⟨.of_false_str (by decide +kernel) ml PySem.F.sub_str_list, .of_false_str (by decide +kernel) mt PySem.F.sub_str_tuple, trivial⟩, rfl, fun s _ => rfl⟩
  | list g c => exact ⟨"list", [true, false], ⟨.of_true ml PySem.F.sub_list_list, .of_false_list (by decide +kernel) mt PySem.F.sub_list_tuple, trivial⟩, rfl, fun s k => ⟨_, k _ _ g, c⟩⟩
  | tuple g c => exact ⟨"tuple", [false, true], ⟨.of_false_tuple (by decide +kernel) ml PySem.F.sub_tuple_list, .of_true mt PySem.F.isi_sub_tuple, trivial⟩, rfl, fun s k => ⟨_, k _ _ g, c⟩⟩
  | dict g c _ => exact ⟨"dict", [false, false], ⟨.of_false_dict (by decide +kernel) ml PySem.F.sub_dict_list, .of_false_dict (by decide +kernel) mt PySem.F.sub_dict_tuple, trivial⟩, rfl, fun s k => ⟨_, k _ _ g, c⟩⟩
theorem two_types {us : List Value} (r : Vals [V.ty "list", V.ty "tuple"] us) : us = [.type "list", .type "tuple"] := by
  cases r with
  | cons a r =>
    cases r with
    | cons b r =>
      cases r
      cases a
      cases b
      rfl
theorem pe_isLT {p p1 p2 pos tpos : Pos} {kk : Nat} {e : Expr} {te : TE} (he : PE X e te) (hg : Gl X "isinstance") (hm : X.mg "isinstance" = none) (hes : PA X [.Name "list" p1, .Name "tuple" p2] (tCons (tC (.ty "list")) (tCons (tC (.ty "tuple")) tNil)))
    (s1 : starEach [e, .Tuple [.Name "list" p1, .Name "tuple" p2] kk tpos] X.env = (false, eval e X.env) :: starEach [.Tuple [.Name "list" p1, .Name "tuple" p2] kk tpos] X.env) (s2 : starEach [.Tuple [.Name "list" p1, .Name "tuple" p2] kk tpos] X.env = (false, eval (.Tuple [.Name "list" p1, .Name "tuple" p2] kk tpos) X.env) :: starEach [] X.env)
    (hpl : (backTo pos (starEach [.Tuple [.Name "list" p1, .Name "tuple" p2] kk tpos] X.env)).any (·.1) = false) :
    PE X (.Call (.Name "isinstance" p) [e, .Tuple [.Name "list" p1, .Name "tuple" p2] kk tpos] [] pos) fun σ H Q => te σ H fun x H1 => rP X.K true fIsLT [x] H1 Q := by
  refine ⟨fun pins s σ H Q I h => ?_⟩
  refine wpAny_Call_Name_kw (ld_blt I hg hm PyProof.Rows.boot_isinstance (PyProof.Rows.callWith_builtin1 ?_ s1 hpl) (by decide) (by decide))
  rw [s1]
  show wpAny _ _ (spliced ((false, eval e X.env) :: backTo pos (starEach [.Tuple [.Name "list" p1, .Name "tuple" p2] kk tpos] X.env))) _ _ s
  refine PySem.Calls.spliced_cons (thn (he.run pins s σ H _ I h) fun u t1 ⟨x, H1, I1, r1, M, ds, d, tr, hd, hf, q⟩ => ?_)
  rw [s2]
  show wpAny _ _ (spliced ((false, eval (.Tuple [.Name "list" p1, .Name "tuple" p2] kk tpos) X.env) :: backTo pos (starEach [] X.env))) _ _ t1
  refine PySem.Calls.spliced_cons (wpAny_Tuple_spliced (thn (hes.run tpos pins t1 σ H1 (fun ys H' => ys = [.ty "list", .ty "tuple"] ∧ H' = H1) I1 ⟨rfl, rfl⟩) fun us t2 ⟨ys, H2, I2, r2, ey, eH⟩ => ?_))
  subst ey eH
  cases two_types r2
  refine ⟨by show 2 ≤ sizeLine; rw [sizeLine_eq]; omega, PySem.Calls.spliced_nil ?_⟩
  obtain ⟨y, rfl, ha⟩ := hd.one
  have hf : some (PyData.bool (isTy .list y || isTy .tuple y)) = some d := hf
  cases hf
  have up : ∀ b o, t2.heap.get? b = some o → (t2.heap.push { cls := .type "tuple", data := .seq [Value.type "list", Value.type "tuple"].toArray }).get? b = some o := fun b o e => Heap.get?_push_of_some _ e
  rcases ha.exc_or I2 r1 with nx | ⟨n, a1, C, oe, rfl, rfl, _, xo, ii⟩
  case inr =>
    have k1 := xo.f "list" (by decide)
    have k2 := xo.f "tuple" (by decide)
    have kk : PySem.W.kitAny X.K (.ref C) [.type "list", .type "tuple"] = some false := by
      unfold PySem.W.kitAny
      rw [k1]
      unfold PySem.W.kitAny
      rw [k2]
      rfl
    obtain ⟨g1, g2, g3, g4⟩ := ii
    exact PySem.W.kia_tup (its := [.type "list", .type "tuple"]) (PySem.W.handS_kitx_exc xo.c.hg xo.c.hk xo.c.hs xo.c.hd xo.c.ha xo.c.hn xo.c.ht xo.c.hm) (I2.kIn.keeps up) ⟨up _ _ g1, g2, g3, by cases e : oe.dict <;> (rw [e] at g4; exact g4)⟩ (Heap.get?_push_size _ rfl) kk (fun z => nomatch z) fun tk =>
      ⟨.bl _, H2, (I2.kept up), rfl, q _ H2 (Same.refl H2) (.bl _) (fin0 (by intro a e; cases e) H2)⟩
  obtain ⟨T, vs, an, ev, ty⟩ := ans_lt (ha.top I2 r1 nx)
  refine call_isinstance (isinstance_tuple (tp := t2.heap.objs.size) an) ⟨ty _ up, Heap.get?_push_size _ rfl, fun tk => ?_⟩
  rw [ev]
  exact ⟨.bl _, H2, I2.kept up, rfl, q _ H2 (Same.refl H2) (.bl _) (fin0 (by intro a e; cases e) H2)⟩
end
end EV
end
section
set_option Elab.async false
set_option linter.all false
set_option maxRecDepth 100000
set_option maxHeartbeats 4000000
set_option autoImplicit true
/-! EvT: how many unlike texts a list has (its set's length); the kit has this for one text at most -/
namespace EvSet
open PySem PySem.Spec PyProof.Rows
abbrev cnt := EV.cntS
theorem cnt_le (xs : List Str) : ∀ i, cnt xs i ≤ i
  | 0 => Nat.le_refl _
  | i + 1 => by
    have := cnt_le xs i
    unfold cnt EV.cntS
    split <;> (unfold cnt at this; omega)
def seen (xs : List Str) (i : Nat) : Str → Bool := fun t => (xs.take i).any (· == t)
theorem seen_next {xs : List Str} {i : Nat} (h : i < xs.length) (t : Str) : (seen xs i t || decide (t = xs.getD i Str.empty)) = seen xs (i + 1) t := by
  unfold seen
  rw [List.take_add_one, List.getElem?_eq_getElem h, List.any_append]
  have e : xs.getD i Str.empty = xs[i] := by rw [List.getD_eq_getElem?_getD, List.getElem?_eq_getElem h]; rfl
  rw [e]
  congr 1
  show _ = ([xs[i]].any fun y => y == t)
  rw [List.any_cons, List.any_nil, Bool.or_false]
  by_cases q : t = xs[i]
  · rw [decide_eq_true q, q, beq_self_eq_true]
  · rw [decide_eq_false q]
    exact (beq_eq_false_iff_ne.mpr fun z => q z.symm).symm
section
variable {prog : Program} {w : World} {A : Around} {R : Result → Shared → Prop} {It : Addr} {fp wr : List Addr} {G : Array GenState → Array GenState → Prop} {n : Nat} {P : Nat → Value → Prop} {St : Nat → Shared → Prop}
theorem go (W : WalksS prog w A.in1 It fp wr G n P St) (S : Addr) (far : S ∉ fp) (xs : List Str) (size : xs.length = n) (room : n + 1 < scanBound) (text : ∀ i v, P i v → ∃ t, v = .str (xs.getD i Str.empty) t) (left : Nat) :
    ∀ (i : Nat) (s : Shared), n - i = left → i ≤ n → St i s → s.heap.SetOf (PySem.strKind prog w) S (seen xs i) (cnt xs i) →
      (∀ s', Moved (S :: wr) G s s' → s'.heap.SetOf (PySem.strKind prog w) S (seen xs n) (cnt xs n) → R (.ok (.ret .none)) s') → codeAny (model prog w) A (.builtin "set.update.loop" ⟨[.ref S, .ref It], []⟩) R s := by
  have off : S ∉ wr := fun z => far (W.sub _ z)
  have more : ∀ b ∈ wr, b ∈ S :: wr := fun b z => List.mem_cons_of_mem _ z
  induction left with
  | zero =>
    intro i s hk hi st hS fin
    obtain rfl : i = n := by omega
    refine codeAny_builtin PyProof.Rows.F.entry_set_update_loop ?_
    rw [Around.under_plainId PyProof.Rows.F.plain_set_update_loop _]
    refine wpAny_bind (m := pyNext (.ref It)) (W.done s _ _ st fun s1 mv => wpAny_pure (fin s1 (mv.mono more) ?_))
    obtain ⟨o, es, ep, t, ho, rest⟩ := hS
    exact ⟨o, es, ep, t, mv.heap S _ off ho, rest⟩
  | succ left ih =>
    intro i s hk hi st hS fin
    have hlt : i < n := by omega
    refine codeAny_builtin PyProof.Rows.F.entry_set_update_loop ?_
    rw [Around.under_plainId PyProof.Rows.F.plain_set_update_loop _]
    refine wpAny_bind (m := pyNext (.ref It)) (W.item i s _ _ hlt st fun v s1 hP st1 mv => ?_)
    obtain ⟨t, rfl⟩ := text i v hP
    have hS1 : s1.heap.SetOf (PySem.strKind prog w) S (seen xs i) (cnt xs i) := by
      obtain ⟨o, es, ep, tb, ho, rest⟩ := hS
      exact ⟨o, es, ep, tb, mv.heap S _ off ho, rest⟩
    have small := cnt_le xs i
    refine wpAny_bind (m := holding [Value.str (xs.getD i Str.empty) t] (setAdd S (.str (xs.getD i Str.empty) t))) (wpAny_holding ?_)
    unfold setAdd
    refine wpAny_holding (wpAny_bind ((PySem.strKind prog w).pyHash (k := xs.getD i Str.empty) (strKind_is _ _ _ _) ?_))
    refine wpAny_setAddHashed_of (knd := PySem.strKind prog w) (s := { s1 with toks := s1.toks + 1 }) (strKind_is _ _ _ _) rfl hS1 (by omega) fun h2 same hS2 => wpAny_pure ⟨plainId_quiet PyProof.Rows.F.plain_set_update_loop _, ?_⟩
    have hS3 : h2.SetOf (PySem.strKind prog w) S (seen xs (i + 1)) (cnt xs (i + 1)) := PyProof.Rows.SetOf_congr hS2 (fun k => seen_next (by omega) k) rfl
    refine ih (i + 1) _ (by omega) hlt (W.frame _ s1 _ _ st1 (Nat.le_succ _) fun b hb o e => ?_) hS3 fun s3 mv3 hS4 => fin s3 (Moved.trans W.gtrans ((mv.mono more).then_heap (Nat.le_succ _) fun b o hb e => ?_) mv3) hS4
    · rw [same.2 b fun z => far (by rw [← z]; exact hb)]
      exact e
    · rw [same.2 b fun z => hb (by rw [z]; exact List.mem_cons_self)]
      exact e
end
theorem strs_get : ∀ {us : List Value} {xs : List Str}, StrsAre us xs → ∀ (i : Nat) (v : Value), us[i]? = some v → ∃ t, v = .str (xs.getD i Str.empty) t
  | _, _, .nil, i, v, e => by simp at e
  | _, _, .cons x t r, 0, v, e => by
    simp only [List.getElem?_cons_zero, Option.some.injEq] at e
    exact ⟨t, e.symm⟩
  | _, _, .cons x t r, i + 1, v, e => by
    rw [List.getElem?_cons_succ] at e
    obtain ⟨u, q⟩ := strs_get r i v e
    exact ⟨u, q⟩
def noneYet (led : Bool) : Obj := { cls := .type "set", dict := none, data := .set #[] 0 (.fresh 0 0 led) }
/-- set(xs), xs a list of texts: told is the number of unlike ones -/
theorem of_list {prog : Program} {w : World} {A : Around} {E : Value → Shared → Prop} {s : Shared} {l : Addr} {its : Array Value} {xs : List Str} {Q : Value → Shared → Prop} (calm : A.handled = none) (lst : s.heap.IsList l its) (are : StrsAre its.toList xs) (room : xs.length + 1 < scanBound)
    (fin : ∀ (h' : Heap) (tk : Nat), h'.SetOf (PySem.strKind prog w) s.heap.objs.size (seen xs xs.length) (cnt xs xs.length) → (∀ b o, b < s.heap.objs.size → s.heap.get? b = some o → h'.get? b = some o) → Q (.ref s.heap.objs.size) { s with heap := h', toks := tk }) :
    wpAny (model prog w) A (call (.type "set") [.ref l]) Q E s := by
  have size : xs.length = its.size := by rw [← StrsAre.len_eq are, Array.length_toList]
  obtain ⟨c, tl, mro⟩ := PySem.F.called_set.mro
  have made := PySem.F.called_set.made
  have sub := PySem.F.called_set.sub
  have nt := PySem.F.called_set.notType
  have cc := PySem.F.called_set.canCreate
  have tc := PySem.F.typeCall_set_1 (.ref l)
  refine wpAny_call (codeAny_of_tree (show wpAny _ _ (callAny (.type "set") _) _ _ _ from wpAny_pure ⟨Code.quiet_builtin _ (by decide +kernel), codeAny_builtin PySem.F.entry_type_call ?_⟩))
  rw [Around.under_plain (weight_type_call_type "set" [.ref l] []) rfl]
  repeat (any_goals (first | assumption | wp_step))
  refine codeAny_mono (code_set_new_1 (.ref l) (E := E) (Q₁ := fun u s1 => ∃ led : Bool, u = .ref s.heap.objs.size ∧ s1 = { s with heap := s.heap.push (noneYet led) }) fun led => ⟨led, rfl, rfl⟩) fun r s1 hr => ?_
  match r, hr with
  | .error e, hr => exact hr
  | .ok .next, hr => exact hr.elim
  | .ok .brk, hr => exact hr.elim
  | .ok .cont, hr => exact hr.elim
  | .ok (.ret u), hr =>
    obtain ⟨led, rfl, rfl⟩ := hr
    have at0 : (s.heap.push (noneYet led)).get? s.heap.objs.size = some (noneYet led) := Heap.get?_push_size _ rfl
    have ty : Shared.TypeIs { s with heap := s.heap.push (noneYet led) } (.ref s.heap.objs.size) "set" := ⟨_, at0, rfl⟩
    have il := PySem.F.called_set.init.lookup
    have ib := PySem.F.called_set.init.bind (.ref s.heap.objs.size)
    repeat (any_goals (first | assumption | wp_step))
    refine codeAny_mono (codeAny_call_builtin (R := wants (fun r s2 => r = .none ∧ ∃ h' tk, s2 = { s with heap := h', toks := tk } ∧ h'.SetOf (PySem.strKind prog w) s.heap.objs.size (seen xs xs.length) (cnt xs xs.length) ∧ (∀ b o, b < s.heap.objs.size → s.heap.get? b = some o → h'.get? b = some o)) E)
      PySem.F.called_set.init.plain PySem.F.entry_set_init (check_set_init_1 ty ?_)) fun r2 s2 hr2 => ?_
    · obtain ⟨⟨oc, od, odt, osl⟩, hol, hc, nl, hd⟩ := lst
      simp only at hc hd
      subst hc hd
      have at1 : (s.heap.push (noneYet led)).get? l = some { cls := .type "list", dict := od, data := .seq its nl, slots := osl } := Heap.get?_push_of_some _ hol
      have l1 : (s.heap.push (noneYet led)).IsList l its := ⟨_, at1, rfl, nl, rfl⟩
      have k1 := PySem.F.sub_list_set
      have k2 := PySem.F.sub_list_frozenset
      have k3 : (Value.type "list" == Value.type "dict") = false := by decide
      unfold Builtin.«set.__init__» noKeywords Builtin.Frozenset.updateFrom
      generalize hy : pyIter = yy
      wp_walk
      subst hy
      refine wpAny_pyIter_list l1 (wpAny_bind (wpAny_runValue ?_))
      have low : l < s.heap.objs.size := Heap.lt_size hol
      have sz : (s.heap.push (noneYet led)).objs.size = s.heap.objs.size + 1 := Heap.size_push _ _
      have ne : l ≠ (s.heap.push (noneYet led)).objs.size := by rw [sz]; exact Nat.ne_of_lt (Nat.lt_succ_of_lt low)
      have far : s.heap.objs.size ∉ [(s.heap.push (noneYet led)).objs.size, l] := by
        rw [sz]
        simp only [List.mem_cons, List.not_mem_nil, or_false, not_or]
        exact ⟨Nat.ne_of_lt (Nat.lt_succ_self _), Nat.ne_of_gt low⟩
      refine go ((Walks.list (show A.in1.in1.in1.handled = none by simp [calm]) _ l ne its).toS) s.heap.objs.size far xs size (by omega) (fun i v e => strs_get are i v (by rw [Array.getElem?_toList]; exact e)) (its.size - 0) 0 _ (by omega) (Nat.zero_le _)
        ⟨⟨_, Heap.get?_push_size _ rfl, rfl, rfl⟩, l1.push _⟩ ?_ ?_
      · exact PyProof.Rows.SetOf_congr ((PyProof.Rows.setObjOf_fresh (knd := PySem.strKind prog w) led).setOf (Heap.get?_push_of_some _ at0) (by unfold scanBound; omega)) (fun _ => rfl) rfl
      · rintro ⟨h', g', d', tk', os'⟩ mv hS
        obtain rfl : g' = s.gens := mv.gens
        obtain rfl : d' = s.drawn := mv.drawn
        obtain rfl : os' = s.os := mv.os
        rw [← size] at hS
        refine wpAny_pure (wpAny_pure ⟨rfl, h', tk', rfl, hS, fun b o hb e => mv.heap b o ?_ (Heap.get?_push_of_some _ (Heap.get?_push_of_some _ e))⟩)
        rw [sz]
        simp only [List.mem_cons, List.not_mem_nil, or_false, not_or]
        exact ⟨Nat.ne_of_lt hb, Nat.ne_of_lt (Nat.lt_succ_of_lt hb)⟩
    · match r2, hr2 with
      | .error e, hr2 => exact hr2
      | .ok .next, hr2 => exact hr2.elim
      | .ok .brk, hr2 => exact hr2.elim
      | .ok .cont, hr2 => exact hr2.elim
      | .ok (.ret r), hr2 =>
        obtain ⟨rfl, h', tk, rfl, hS, hk⟩ := hr2
        repeat (any_goals (first | assumption | wp_step))
        exact fin _ _ hS hk
end EvSet
end
section
set_option Elab.async false
set_option linter.all false
set_option maxRecDepth 100000
set_option maxHeartbeats 4000000
set_option autoImplicit false
/-! GD: rules for expressions: names, places, operations -/
namespace EV
open PySem PyProof.Rows L2
abbrev σT := L2.St
section
variable {T : Kt} {G G' : Gh} {S S' : Ste} {σ : σT} {H : Hp}
theorem slot_get {i : Nat} {sh : Sh} {x : D} (e : S.rho[i]? = some (.own sh x)) : S.get (.s i) = some (sh, x) := by simp only [Ste.get, e]
/-- a slot's tree is taken out: the slot has y from now on -/
theorem set_get {i : Nat} {y : Slot} (hi : i < S.rho.length) : (∀ t, t ≠ Rt.s i → ({ S with rho := S.rho.set i y } : Ste).get t = S.get t) ∧ (∀ t q, t ≠ Rt.s i → S.lkd t = some q → ({ S with rho := S.rho.set i y } : Ste).lkd t = some q) := by
  refine ⟨fun t ne => ?_, fun t q ne h => ?_⟩
  · cases t with
    | s j =>
      have hj : j ≠ i := fun z => ne (by rw [z])
      simp only [Ste.get, List.getElem?_set_ne (Ne.symm hj)]
    | c n => rfl
  · cases t with
    | s j =>
      have hj : j ≠ i := fun z => ne (by rw [z])
      simpa only [Ste.lkd, List.getElem?_set_ne (Ne.symm hj)] using h
    | c n => exact h
theorem Ok.out (o : Ok T G S σ H) {i : Nat} {sh : Sh} {x : D} (e : S.rho[i]? = some (.own sh x)) {y : Slot} (hy : y = .non ∨ (y = .v (.d x) ∧ noRf x = true)) :
    ∃ v, σ[i]? = some (some v) ∧ OT T G.io (MM G) H sh x v (G.fs i) ∧
      let G' := G.setFp (.s i) []
      let S' : Ste := { S with rho := S.rho.set i y }
      Ok T G' S' σ H ∧ (y = .non → Ok T (G'.plus (G.fs i)) S' σ H) ∧ Stp G S σ H G' S' σ H ∧ Keeps (MM G) H (MM (G'.plus (G.fs i))) H ∧ (∀ a ∈ G.fs i, ¬ MM G' a) ∧ (∀ a, MM G' a → MM G a) ∧ ∀ a, MM (G'.plus (G.fs i)) a → MM G a := by
  have hi : i < S.rho.length := (List.getElem?_eq_some_iff.mp e).1
  obtain ⟨v, rv, ot⟩ := o.own (.s i) sh x (slot_get e)
  have hv : σ[i]? = some (some v) := by
    unfold rootV at rv
    dsimp only at rv
    split at rv
    · cases rv; assumption
    · cases rv
  obtain ⟨g1, g2⟩ := set_get (S := S) (y := y) hi
  obtain ⟨i1, i2, i3⟩ := setFp_io G (.s i) []
  have px : ∀ (t : Option Rt) (a : Addr), a ∈ (G.setFp (.s i) []).fpx t → t ≠ some (.s i) ∧ a ∈ G.fpx t := fun t a m => by
    cases t with
    | none => rw [show (G.setFp (.s i) []).fpx none = G.tm from i2] at m; exact ⟨fun z => (nomatch z), m⟩
    | some t =>
      by_cases ht : t = .s i
      · subst ht
        rw [show (G.setFp (.s i) []).fpx (some (.s i)) = [] from fp_self G (.s i) []] at m
        exact nomatch m
      · exact ⟨fun z => ht (by cases z; rfl), by rw [show (G.setFp (.s i) []).fpx (some t) = G.fp t from fp_ne G [] ht] at m; exact m⟩
  have less : ∀ a, MM (G.setFp (.s i) []) a → MM G a := fun a m => by
    rcases m with ⟨t, m⟩ | m
    · exact .inl ⟨t, (px t a m).2⟩
    · rw [i3] at m; exact .inr m
  have lessW : ∀ a, MW (G.setFp (.s i) []) a → MW G a := fun a ⟨t, m⟩ => ⟨t, (px t a m).2⟩
  have out : ∀ a ∈ G.fs i, ¬ MM (G.setFp (.s i) []) a := fun a m z => by
    rcases z with ⟨t, z⟩ | z
    · obtain ⟨n, z⟩ := px t a z
      exact n (o.dj t (some (.s i)) a z m)
    · rw [i3] at z
      exact o.dA (some (.s i)) a m z
  have self : (S.rho.set i y)[i]? = some y := List.getElem?_set_self hi
  have gi : ({ S with rho := S.rho.set i y } : Ste).get (.s i) = none := by
    simp only [Ste.get, self]
    rcases hy with rfl | ⟨rfl, _⟩ <;> rfl
  have io' : (G.setFp (.s i) []).io = G.io := i1
  have rvt : ∀ t, rootV (G.setFp (.s i) []) σ t = rootV G σ t := fun t => by
    cases t <;> rfl
  -- both divisions
  have gen : ∀ E : List Addr, (E = [] ∨ (E = G.fs i ∧ y = .non)) → Ok T ((G.setFp (.s i) []).plus E) { S with rho := S.rho.set i y } σ H := fun E hE => by
    have pxE : ∀ (t : Option Rt) (a : Addr), a ∈ ((G.setFp (.s i) []).plus E).fpx t → (t ≠ some (.s i) ∧ a ∈ G.fpx t) ∨ (t = none ∧ a ∈ G.fs i) := fun t a m => by
      cases t with
      | some t => exact .inl (px (some t) a m)
      | none =>
        rcases List.mem_append.mp m with m | m
        · rcases hE with rfl | ⟨rfl, _⟩
          · exact nomatch m
          · exact .inr ⟨rfl, m⟩
        · exact .inl (px none a m)
    have w : ∀ a, MW ((G.setFp (.s i) []).plus E) a → MW G a := fun a ⟨t, m⟩ => by
      rcases pxE t a m with ⟨_, m⟩ | ⟨_, m⟩
      · exact ⟨t, m⟩
      · exact ⟨some (.s i), m⟩
    have m' : ∀ a, MM ((G.setFp (.s i) []).plus E) a → MM G a := fun a m => by
      rcases m with m | m
      · exact .inl (w a m)
      · have m : (G.setFp (.s i) []).A a := m
        rw [i3] at m; exact .inr m
    refine o.re io' (by simpa using o.len) rfl w m' (fun j z h => ?_) (fun t sh1 z h => ?_) (fun t h => ?_) (fun t => ?_) (fun t t' a m m2 => ?_) (fun t a m z => ?_)
    · by_cases hj : j = i
      · subst hj
        have h : (S.rho.set j y)[j]? = some (.v z) := h
        rw [self] at h
        rcases hy with rfl | ⟨rfl, hp⟩
        · cases h
        · cases h
          refine ⟨v, hv, .inr ?_⟩
          rcases hE with rfl | ⟨_, q⟩
          · exact OT.frz (fun a m => less a (by
              rcases m with ⟨t, m⟩ | m
              · cases t with
                | some t => exact .inl ⟨some t, m⟩
                | none => exact .inl ⟨none, m⟩
              · exact .inr m)) _ _ _ _ ot hp fun a m z => out a m (by
              rcases z with ⟨t, z⟩ | z
              · cases t with
                | some t => exact .inl ⟨some t, z⟩
                | none => exact .inl ⟨none, z⟩
              · exact .inr z)
          · cases q
      · have h : (S.rho.set i y)[j]? = some (.v z) := h
        rw [List.getElem?_set_ne (Ne.symm hj)] at h
        obtain ⟨u, h1, h2⟩ := o.val j z h
        exact ⟨u, h1, .inl h2⟩
    · have ht : t ≠ .s i := fun z => by rw [z, gi] at h; cases h
      rw [g1 t ht] at h
      obtain ⟨u, h1, h2⟩ := o.own t sh1 z h
      refine ⟨u, by rw [rootV_plus, rvt]; exact h1, ?_⟩
      rw [plus_fp, fp_ne G [] ht]
      exact h2
    · rw [plus_fp]
      by_cases ht : t = .s i
      · rw [ht, fp_self]
      · rw [g1 t ht] at h
        rw [fp_ne G [] ht]
        exact o.no t h
    · cases t with
      | some t =>
        show (((G.setFp (.s i) []).plus E).fp t).Nodup
        rw [plus_fp]
        by_cases ht : t = .s i
        · rw [ht, fp_self]; exact List.nodup_nil
        · rw [fp_ne G [] ht]; exact o.nd (some t)
      | none =>
        show (E ++ (G.setFp (.s i) []).tm).Nodup
        rw [i2]
        rcases hE with rfl | ⟨rfl, _⟩
        · exact o.nd none
        · exact List.nodup_append.mpr ⟨o.nd (some (.s i)), o.nd none, fun a m b m2 q => by subst q; exact nomatch o.dj (some (.s i)) none a m m2⟩
    · rcases pxE t a m with ⟨n1, c1⟩ | ⟨rfl, c1⟩ <;> rcases pxE t' a m2 with ⟨n2, c2⟩ | ⟨rfl, c2⟩
      · exact o.dj t t' a c1 c2
      · exact (n1 (o.dj t (some (.s i)) a c1 c2)).elim
      · exact (n2 (o.dj t' (some (.s i)) a c2 c1)).elim
      · rfl
    · have z : (G.setFp (.s i) []).A a := z
      rw [i3] at z
      rcases pxE t a m with ⟨_, c⟩ | ⟨_, c⟩
      · exact o.dA t a c z
      · exact o.dA (some (.s i)) a c z
  have o1 := gen [] (.inl rfl)
  refine ⟨v, hv, ot, o1, fun q => gen _ (.inr ⟨rfl, q⟩), ⟨⟨[], by rw [io']; simp⟩, i3, fun a w e n => ⟨e, fun z => n (less a z)⟩, fun a w e n => ⟨e, fun z => n (lessW a z)⟩, ⟨i2, fun _ _ => rfl⟩, fun _ _ => rfl, fun t q h => ?_, fun n h => h, fun _ w e => ⟨w, e⟩⟩, fun a w e n => ⟨e, fun z => n ?_⟩, out, less, fun a m => ?_⟩
  · have ht : t ≠ .s i := fun z => by
      subst z
      simp only [Ste.lkd, e] at h
      cases h
    exact ⟨g2 t q ht h, rvt t, fp_ne G [] ht, fun _ _ => rfl⟩
  · rcases z with ⟨t, z⟩ | z
    · cases t with
      | some t => exact less a (.inl ⟨some t, z⟩)
      | none =>
        rcases List.mem_append.mp z with z | z
        · exact .inl ⟨some (.s i), z⟩
        · exact less a (.inl ⟨none, z⟩)
    · exact less a (.inr z)
  · rcases m with ⟨t, z⟩ | z
    · cases t with
      | some t => exact less a (.inl ⟨some t, z⟩)
      | none =>
        rcases List.mem_append.mp z with z | z
        · exact .inl ⟨some (.s i), z⟩
        · exact less a (.inl ⟨none, z⟩)
    · exact less a (.inr z)
end
/-! ### things just made -/
def PostN (T : Kt) (W : WX) (sh : Sh) (G : Gh) (S : Ste) (σ : σT) (H : Hp) (Q : VK) : Res Vl → Prop
  | .ok (.d d) S' => ∀ G' E v H', Ok T (G'.plus E) S' σ H' → Stp G S σ H G' S' σ H' → Keeps (MM G) H (MM (G'.plus E)) H' → OT T G'.io (MM (G'.plus E)) H' sh d v E → Q v H'
  | .ok _ _ => False
  | .er c S' => ∀ G' H', Ok T G' S' σ H' → Stp G S σ H G' S' σ H' → W c σ H'
  | .stuck => False
def tN (T : Kt) (W : WX) (sh : Sh) (r : Ste → Res Vl) : TE := fun σ H Q => ∃ G S, Ok T G S σ H ∧ PostN T W sh G S σ H Q (r S)
section
variable {T : Kt} {W : WX} {G G1 : Gh} {S S1 : Ste} {σ : σT} {H H1 : Hp} {sh : Sh}
theorem PostN.shift {Q : VK} {r : Res Vl} (p : PostN T W sh G S σ H Q r) (st : Stp G S σ H G1 S1 σ H1) : PostN T W sh G1 S1 σ H1 Q r := by
  cases r with
  | ok x S' =>
    cases x with
    | d d => exact fun G' E v H' o' s k ot => p G' E v H' o' (st.trans s) (st.mono.trans k) ot
    | _ => exact p.elim
  | er c S' => exact fun G' H' o' s => p G' H' o' (st.trans s)
  | stuck => exact p
theorem PostN.seq {α β : Type} {R : RL α β} {Q : VK} {Q' : β → Hp → Prop} {r : Res α} {f : α → Ste → Res Vl} (h : PostN T W sh G S σ H Q (r.bind f))
    (k : ∀ G1 S1 x v H1, Ok T G1 S1 σ H1 → Stp G S σ H G1 S1 σ H1 → R σ G1 S1 H1 x v → PostN T W sh G1 S1 σ H1 Q (f x S1) → Q' v H1) : Post T W R G S σ H Q' r := by
  cases r with
  | ok x S' => exact fun G' v H' o s rr => k G' S' x v H' o s rr (h.shift s)
  | er c S' => exact h
  | stuck => exact h
theorem PostN.held {α β : Type} {R : RL α β} {x : Vl} {v : V} {r : Ste → Res α} {f : α → Ste → Res Vl} {Q : VK} {Q' : β → Hp → Prop} (rc : RCong R) (o : Ok T G S σ H) (hx : VD T G S σ H x v) (h : PostN T W sh G S σ H Q ((x.held S r).bind f))
    (k : ∀ G2 S2 y u H2, Ok T G2 S2 σ H2 → Stp G S σ H G2 S2 σ H2 → VD T G2 S2 σ H2 x v → R σ G2 S2 H2 y u → PostN T W sh G2 S2 σ H2 Q (f y S2) → Q' u H2) : At T W R r σ H Q' := by
  have plain : isPk x = false → x.held S r = r S := fun n => by cases x <;> first | rfl | cases n
  cases hp : isPk x with
  | false =>
    rw [plain hp] at h
    exact ⟨G, S, o, h.seq fun G2 S2 y u H2 o2 st2 r2 p2 => k G2 S2 y u H2 o2 st2 (VD.step hp st2 hx) r2 p2⟩
  | true =>
    cases x with
    | pk t p =>
      have h : PostN T W sh G S σ H Q (((r (S.lock t)).map (fun s => s.unlock t (S.free t)) id).bind f) := h
      refine ⟨G, S.lock t, o.lock t, ?_⟩
      cases e : r (S.lock t) with
      | ok y S2 =>
        rw [e] at h
        intro G2 u H2 o2 st2 r2
        have s2 := Stp.unlock st2
        exact k G2 (S2.unlock t (S.free t)) y u H2 (o2.unlock _ _) s2 ((VD.held o hx st2).congr (unlock_get S2 t _)) (rc _ _ _ _ _ _ _ (unlock_get S2 t _) r2) (PostN.shift (show PostN T W sh G S σ H Q (f y (S2.unlock t (S.free t))) from h) s2)
      | er c S2 =>
        rw [e] at h
        intro G2 H2 o2 st2
        exact h G2 H2 (o2.unlock _ _) (Stp.unlock st2)
      | stuck => rw [e] at h; exact h
    | _ => cases hp
mutual
theorem Dn.noRf {K : PySem.W.Frag} {M : Addr → Prop} : ∀ {b : Bool} {x : D} {v : V}, Dn K M H b x v → EV.noRf x = true
  | _, _, _, .non => rfl
  | _, _, _, .bl _ => rfl
  | _, _, _, .int _ => rfl
  | _, _, _, .str _ => rfl
  | _, _, _, .lst _ _ l => by rw [EV.noRf]; exact DnL.noRf l
  | _, _, _, .lstK _ l => by rw [EV.noRf]; exact DnL.noRf l
  | _, _, _, .tup _ _ l => by rw [EV.noRf]; exact DnL.noRf l
  | _, _, _, .tupK _ _ l => by rw [EV.noRf]; exact DnL.noRf l
  | _, _, _, .dK (kvs := kvs) (es := es) _ _ q0 q l _ => by
    have nx : isX kvs = false := by
      cases kvs with
      | nil => rfl
      | cons p0 t =>
        cases es with
        | nil => simp at q0
        | cons e0 u =>
          simp only [List.map_cons, List.cons.injEq] at q0
          obtain ⟨k0, v0⟩ := p0
          obtain ⟨k1, v1⟩ := e0
          have : k0 = keyD k1 := q0.1
          subst this
          cases k1 <;> rfl
    rw [noRf_dict nx, q]
    exact DnL.noRf l
  | _, _, _, .dT (kvs := kvs) (es := es) _ _ q0 q l _ => by
    have nx : isX kvs = false := by
      cases kvs with
      | nil => rfl
      | cons p0 t =>
        cases es with
        | nil => simp at q0
        | cons e0 u =>
          simp only [List.map_cons, List.cons.injEq] at q0
          obtain ⟨k0, v0⟩ := p0
          have : k0 = _ := q0.1
          subst this
          rfl
    rw [noRf_dict nx, q]
    exact DnL.noRf l
  | _, _, _, .exc _ _ _ _ => by unfold EV.noRf; rfl
theorem DnL.noRf {K : PySem.W.Frag} {M : Addr → Prop} : ∀ {xs : List D} {vs : List V}, DnL K M H xs vs → noRfs xs = true
  | _, _, .nil => rfl
  | _, _, .cons a r => by rw [noRfs, Dn.noRf a, DnL.noRf r]; rfl
end
theorem OTs.z {io : List Addr} {M : Addr → Prop} : ∀ {n : Nat} {xs : List D} {vs : List V} {F : List Addr}, OTs T io M H (List.replicate n .z) xs vs F → DnL T.K M H xs vs ∧ F = []
  | 0, _, _, _, h => by cases h; exact ⟨.nil, rfl⟩
  | n + 1, _, _, _, h => by
    rw [List.replicate_succ] at h
    cases h with
    | cons a r =>
      obtain ⟨l, rfl⟩ := OTs.z r
      cases a with
      | z d => exact ⟨.cons d l, rfl⟩
theorem OTs.ofZ {io : List Addr} {M : Addr → Prop} : ∀ {xs : List D} {vs : List V}, DnL T.K M H xs vs → OTs T io M H (List.replicate xs.length .z) xs vs []
  | _, _, .nil => .nil
  | _, _, .cons a r => OTs.cons (F := []) (F' := []) (.z a) (OTs.ofZ r)
/-- a container of data, or an atom -/
theorem OT.oz_noRf {io : List Addr} {M : Addr → Prop} {x : D} {v : V} {F : List Addr} (h : OT T io M H (.o .z) x v F) (n : x ≠ EV.hole) : EV.noRf x = true := by
  cases h with
  | «at» e => cases x <;> first | rfl | cases e
  | hole => exact (n rfl).elim
  | lst e r => rw [EV.noRf]; exact DnL.noRf (OTs.z r).1
  | tup e q r => rw [EV.noRf]; exact DnL.noRf (OTs.z r).1
  | dct e r => rw [noRf_dict e.isX]; exact DnL.noRf (OTs.z r).1
/-- read as any value -/
theorem tN_of {r : Ste → Res Vl} (dat : ∀ S x S', r S = .ok x S' → ∃ d, x = .d d ∧ noRf d = true) {Q : VK} (h : tE T W r σ H Q) : tN T W sh r σ H Q := by
  obtain ⟨G, S, o, p⟩ := h
  refine ⟨G, S, o, ?_⟩
  cases e : r S with
  | ok x S' =>
    obtain ⟨d, rfl, hp⟩ := dat S x S' e
    rw [e] at p
    intro G' E v H' o' st k ot
    exact p G' v H' o'.drop st (OT.frz (fun a m => plus_mm m) _ _ _ _ ot hp o'.mine.2)
  | er c S' => rw [e] at p; exact p
  | stuck => rw [e] at p; exact p
end
section
variable {X : Cx} {Z : Ct} {W : WX} {P : Env} {pos : Pos}
theorem se_var {i : Nat} {x : Str} (hN : X.N[i]? = some x) (hv : Vis X.env.scope x) (hd : (x == ("__debug__" : Str)) = false) (hcd : (x == ("__classdict__" : Str)) = false) : PE X (.Name x pos) (tE (kt X Z) W (ev P (.var i))) := (pe_var hN hv hd hcd).imp fun σ H Q h => by
  obtain ⟨G, S, o, p⟩ := h
  rw [ev] at p
  split at p
  · rename_i y e
    obtain ⟨v, h1, h2⟩ := o.val i y e
    exact ⟨v, h1, p G v H o (Stp.refl _ _ _ _) h2.vd⟩
  · rename_i sh y e
    split at p
    · rename_i hp
      obtain ⟨v, h1, ot, o1, _, st, _, out, less, _⟩ := o.out e (.inr ⟨rfl, hp⟩)
      exact ⟨v, h1, p _ v H o1 st (OT.frz less _ _ _ _ ot hp out)⟩
    · exact p.elim
  · exact p.elim
/-- a slot's own tree is moved -/
theorem sn_take {i : Nat} {x : Str} {sh : Sh} (hN : X.N[i]? = some x) (hv : Vis X.env.scope x) (hd : (x == ("__debug__" : Str)) = false) (hcd : (x == ("__classdict__" : Str)) = false) : PE X (.Name x pos) (tN (kt X Z) W sh (ev P (.take i sh))) := (pe_var hN hv hd hcd).imp fun σ H Q h => by
  obtain ⟨G, S, o, p⟩ := h
  rw [ev] at p
  split at p
  · rename_i sh' y e
    split at p
    · rename_i hs
      subst hs
      obtain ⟨v, h1, ot, o1, o2, st, k, out, less, less2⟩ := o.out e (.inl rfl)
      exact ⟨v, h1, p _ _ v H (o2 rfl) st k (OT.anti less2 _ _ _ _ (by rw [(setFp_io G (.s i) []).1]; exact ot))⟩
    · exact p.elim
  · exact p.elim
theorem se_kst {e : Expr} {d : D} {v : V} (h : PE X e (tC v)) (dn : ∀ M H, Dn X.K M H true d v) : PE X e (tE (kt X Z) W (ev P (.kst d))) := h.imp fun σ H Q h => by
  obtain ⟨G, S, o, p⟩ := h
  rw [ev] at p
  exact p G v H o (Stp.refl _ _ _ _) (dn _ _)
/-- a global constant -/
def gvB (d : D) : Bool := match d with
  | .tuple [_, _] => false
  | _ => true
theorem gv_cases (d : D) : gv d = if gvB d then .d d else .k d := by
  cases d with
  | tuple xs =>
    match xs with
    | [] => rfl
    | [_] => rfl
    | [_, _] => rfl
    | _ :: _ :: _ :: _ => rfl
  | _ => rfl
def GvD (X : Cx) (d : D) (v : V) : Prop := ∀ M H, Dn X.K M H (gvB d) d v
theorem se_glob {e : Expr} {j : Nat} {v : V} {d : D} (h : PE X e (tC v)) (hj : P.consts[j]? = some d) (dn : GvD X d v) : PE X e (tE (kt X Z) W (ev P (.glob j))) := h.imp fun σ H Q h => by
  obtain ⟨G, S, o, p⟩ := h
  rw [ev] at p
  rw [hj] at p
  refine p G v H o (Stp.refl _ _ _ _) ?_
  show VD (kt X Z) G S σ H (gv d) v
  rw [gv_cases]
  unfold GvD at dn
  cases e : gvB d with
  | true => rw [e] at dn; exact dn _ _
  | false => rw [e] at dn; exact fun M H' => dn M H'
/-! ### places -/
def RP (T : Kt) : RL Lc V := fun σ G S H l v => VD T G S σ H l.vl v
def tP (T : Kt) (W : WX) (r : Ste → Res Lc) : TE := fun σ H Q => At T W (RP T) r σ H Q
theorem rc_P {T : Kt} : RCong (RP T) := fun σ G S S' H x v g h => VD.congr g h
theorem sp_sl {i : Nat} {x : Str} (hN : X.N[i]? = some x) (hv : Vis X.env.scope x) (hd : (x == ("__debug__" : Str)) = false) (hcd : (x == ("__classdict__" : Str)) = false) : PE X (.Name x pos) (tP (kt X Z) W (evP P (.sl i))) := (pe_var hN hv hd hcd).imp fun σ H Q h => by
  obtain ⟨G, S, o, p⟩ := h
  rw [evP] at p
  have own : ∀ sh y, (S.rho[i]? = some (.own sh y) ∨ S.rho[i]? = some (.lck sh y)) → ∃ v, σ[i]? = some (some v) ∧ VD (kt X Z) G S σ H (.pk (.s i) []) v := fun sh y e => by
    have g : S.get (.s i) = some (sh, y) := by rcases e with e | e <;> simp only [Ste.get, e]
    obtain ⟨v, rv, ot⟩ := o.own (.s i) sh y g
    refine ⟨v, ?_, v, (sh, y), rv, rfl, by unfold Ste.at; rw [g]; rfl⟩
    unfold rootV at rv
    dsimp only at rv
    split at rv
    · cases rv; assumption
    · cases rv
  split at p
  · rename_i y e
    obtain ⟨v, h1, h2⟩ := o.val i y e
    exact ⟨v, h1, p G v H o (Stp.refl _ _ _ _) h2.vd⟩
  · rename_i sh y e
    obtain ⟨v, h1, h2⟩ := own sh y (.inl e)
    exact ⟨v, h1, p G v H o (Stp.refl _ _ _ _) h2⟩
  · rename_i sh y e
    obtain ⟨v, h1, h2⟩ := own sh y (.inr e)
    exact ⟨v, h1, p G v H o (Stp.refl _ _ _ _) h2⟩
  · exact p.elim
theorem se_peek {e : Expr} {p : Plc} (h : PE X e (tP (kt X Z) W (evP P p))) : PE X e (tE (kt X Z) W (ev P (.peek p))) := h.imp fun σ H Q h => by
  obtain ⟨G, S, o, q⟩ := h
  rw [ev] at q
  exact ⟨G, S, o, q.seq fun G1 S1 l v H1 o1 st1 r1 p1 => p1 G1 v H1 o1 (Stp.refl _ _ _ _) r1⟩
theorem in_vd {T : Kt} {G : Gh} {S : Ste} {σ : σT} {H : Hp} {l : Lc} {v : V} {t : Rt} {q : List Nat} {r : Sh × D} (h : VD T G S σ H l.vl v) (e : l.in = some (t, q)) (n : S.at t q = some r) : VD T G S σ H (.pk t q) v := by
  cases l with
  | «at» t' q' => cases e; exact h
  | val x =>
    cases x with
    | r m =>
      cases e
      obtain ⟨a, h1, rfl⟩ := h
      exact ⟨.ref a, r, by simp [rootV, h1], rfl, n⟩
    | _ => cases e
theorem navV_snoc (H : Hp) : ∀ (p : List Nat) (v : V) (i : Nat), navV H v (p ++ [i]) = (navV H v p).bind fun u => navV H u [i]
  | [], v, i => rfl
  | j :: p, v, i => by
    cases v with
    | ref a =>
      show (kidV H a j).bind (fun u => navV H u (p ++ [i])) = ((kidV H a j).bind fun u => navV H u p).bind _
      cases kidV H a j with
      | none => rfl
      | some u => exact navV_snoc H p u i
    | _ => rfl
theorem nav_snoc : ∀ (p : List Nat) (s : Sh) (x : D) (i : Nat) {s' : Sh} {y : D}, nav s x p = some (s', y) → nav s x (p ++ [i]) = nav s' y [i]
  | [], s, x, i, s', y, h => by cases h; rfl
  | j :: p, s, x, i, s', y, h => by
    show (match kidSh s x j, (kids x)[j]? with | some s, some y => nav s y (p ++ [i]) | _, _ => none) = _
    have h : (match kidSh s x j, (kids x)[j]? with | some s, some y => nav s y p | _, _ => none) = some (s', y) := h
    cases e1 : kidSh s x j with
    | none => rw [e1] at h; cases h
    | some s1 =>
      cases e2 : (kids x)[j]? with
      | none => rw [e1, e2] at h; cases h
      | some y1 =>
        rw [e1, e2] at h
        exact nav_snoc p s1 y1 i h
/-- a part of a place: its value; where it is then -/
theorem kid_at {T : Kt} {G : Gh} {S : Ste} {σ : σT} {H : Hp} {t : Rt} {q : List Nat} {v : V} {sh s : Sh} {x y : D} {i : Nat} {l : Lc} (o : Ok T G S σ H) (h : VD T G S σ H (.pk t q) v) (n : S.at t q = some (sh, x)) (hs : kidSh sh x i = some s) (hy : (kids x)[i]? = some y) (e : kidLc t (q ++ [i]) s y = some l) :
    ∃ a u, v = .ref a ∧ kidV H a i = some u ∧ VD T G S σ H l.vl u := by
  obtain ⟨v0, r, h1, h2, h3⟩ := h
  unfold Ste.at at n
  cases e0 : S.get t with
  | none => rw [e0] at n; cases n
  | some r0 =>
    rw [e0] at n
    obtain ⟨v1, h4, ot⟩ := o.own t r0.1 r0.2 e0
    rw [h1] at h4
    cases h4
    have n2 : nav r0.1 r0.2 (q ++ [i]) = some (s, y) := by
      rw [nav_snoc q r0.1 r0.2 i n]
      show (match kidSh sh x i, (kids x)[i]? with | some s, some y => nav s y [] | _, _ => none) = _
      rw [hs, hy]
      rfl
    obtain ⟨u, F1, F2, F3, f1, f2, f3, _, _⟩ := OT.fits (q ++ [i]) ot n2
    rw [navV_snoc, h2] at f1
    have f1 : navV H v [i] = some u := f1
    cases v with
    | ref a =>
      have f1 : (kidV H a i).bind (fun u => navV H u []) = some u := f1
      cases ek : kidV H a i with
      | none => rw [ek] at f1; cases f1
      | some w =>
        rw [ek] at f1
        cases f1
        refine ⟨a, u, rfl, ek, ?_⟩
        have pkv : VD T G S σ H (.pk t (q ++ [i])) u := ⟨v0, (s, y), h1, by rw [navV_snoc, h2]; show (kidV H a i).bind _ = _; rw [ek]; rfl, by unfold Ste.at; rw [e0]; exact n2⟩
        unfold kidLc at e
        split at e
        · cases e
          cases f2 with
          | z d => exact d
        · split at e
          · rename_i m em
            cases e
            cases f2 with
            | @r n a em2 =>
              have : m = n := by
                unfold isRef refD at em
                simp at em
                omega
              subst this
              exact ⟨_, em2, rfl⟩
            | rz p d =>
              unfold isRef at em
              split at em
              · simp [noRf, isX] at p
              · cases em
          · rename_i em
            split at e
            · rename_i hp
              cases e
              cases f2 with
              | r em2 => simp [isRef, refD] at em
              | rz p d => exact d
            · cases e
        · split at e
          · rename_i ha
            cases e
            cases f2 with
            | «at» q2 => exact atom_dn q2 _ _ _
            | _ => cases ha
          · split at e
            · cases e; exact pkv
            · cases e
        · cases e; exact pkv
    | _ => cases f1
theorem nd_get {α β : Type} {l : List (α × β)} (h : (l.map (·.1)).Nodup) {a : α} {b c : β} (m : (a, b) ∈ l) (m2 : (a, c) ∈ l) : b = c := by
  induction l with
  | nil => exact nomatch m
  | cons p r ih =>
    rw [List.map_cons, List.nodup_cons] at h
    rcases List.mem_cons.mp m with e | m <;> rcases List.mem_cons.mp m2 with e2 | m2
    · rw [← e] at e2; cases e2; rfl
    · exact (h.1 (by rw [← e]; exact List.mem_map_of_mem (f := (·.1)) m2)).elim
    · exact (h.1 (by rw [← e2]; exact List.mem_map_of_mem (f := (·.1)) m)).elim
    · exact ih h.2 m m2
theorem nd_get2 {α β : Type} {l : List (α × β)} (h : (l.map (·.2)).Nodup) {a b : α} {c : β} (m : (a, c) ∈ l) (m2 : (b, c) ∈ l) : a = b := by
  induction l with
  | nil => exact nomatch m
  | cons p r ih =>
    rw [List.map_cons, List.nodup_cons] at h
    rcases List.mem_cons.mp m with e | m <;> rcases List.mem_cons.mp m2 with e2 | m2
    · rw [← e] at e2; cases e2; rfl
    · exact (h.1 (by rw [← e]; exact List.mem_map_of_mem (f := (·.2)) m2)).elim
    · exact (h.1 (by rw [← e2]; exact List.mem_map_of_mem (f := (·.2)) m)).elim
    · exact ih h.2 m m2
/-- an attribute by its number is the one by its name -/
theorem fld_look {tb : List (Str × Nat)} (n1 : (tb.map (·.1)).Nodup) (n2 : (tb.map (·.2)).Nodup) {f : Str} {j : Nat} (m : (f, j) ∈ tb) : ∀ {kvs : List (D × D)} {fs : List (Str × V)} {i : Nat}, kvs.length = fs.length →
    (∀ (i : Nat) (p : D × D) (q : Str × V), kvs[i]? = some p → fs[i]? = some q → ∃ j : Nat, p.1 = PyData.int j ∧ (q.1, j) ∈ tb) → dIx kvs (.int j) = some i → ∃ v, fs[i]? = some (f, v) ∧ fs.lookup f = some v
  | [], _, _, _, _, e => by cases e
  | p :: r, [], _, h, _, _ => by simp at h
  | p :: r, q :: t, i, hl, hq, e => by
    obtain ⟨j0, e0, m0⟩ := hq 0 p q rfl rfl
    obtain ⟨f0, v0⟩ := q
    unfold dIx at e
    rw [e0] at e
    split at e
    · rename_i ee
      cases e
      have ej : (j0 : Int) = (j : Int) := by
        have : ((j0 : Int) == (j : Int)) = true := by simpa [PyData.eqv] using ee
        exact eq_of_beq this
      have : j0 = j := by omega
      subst this
      have : f0 = f := nd_get2 n2 m0 m
      subst this
      exact ⟨v0, rfl, by simp [List.lookup]⟩
    · rename_i ee
      cases e1 : dIx r (.int j) with
      | none => rw [e1] at e; cases e
      | some k =>
        rw [e1] at e
        cases e
        obtain ⟨v, g1, g2⟩ := fld_look n1 n2 m (kvs := r) (fs := t) (i := k) (by simpa using hl) (fun i p q h1 h2 => hq (i + 1) p q (by simpa using h1) (by simpa using h2)) e1
        refine ⟨v, by simpa using g1, ?_⟩
        have ne : (f == f0) = false := by
          rw [beq_eq_false_iff_ne]
          rintro rfl
          have : j = j0 := nd_get n1 m m0
          subst this
          exact ee (by simp [PyData.eqv])
        rw [List.lookup_cons, ne]
        exact g2
theorem sp_fld {e : Expr} {f : Str} {p : Plc} {j : Nat} (he : PE X e (tP (kt X Z) W (evP P p))) (m : (f, j) ∈ Z.tb) (hb : attributeBase e f X.env (eval e X.env) = eval e X.env) : PE X (.Attribute e f pos) (tP (kt X Z) W (evP P (.fld p j))) := (pe_fld he hb).imp fun σ H Q h => by
  obtain ⟨G, S, o, q⟩ := h
  rw [evP] at q
  refine ⟨G, S, o, q.seq fun G1 S1 l v H1 o1 st1 r1 p1 => ?_⟩
  cases e1 : l.in with
  | none => rw [e1] at p1; exact p1.elim
  | some tq =>
    obtain ⟨t, q⟩ := tq
    rw [e1] at p1
    obtain ⟨l2, e2, p2⟩ := Post.of p1
    unfold Ste.kid at e2
    cases e3 : S1.at t q with
    | none => rw [e3] at e2; cases e2
    | some r =>
      obtain ⟨sh, x⟩ := r
      rw [e3] at e2
      dsimp only at e2
      cases e4 : fldOf x j with
      | none => rw [e4] at e2; cases e2
      | some i =>
        rw [e4] at e2
        dsimp only at e2
        cases e5 : kidSh sh x i with
        | none => rw [e5] at e2; cases e2
        | some s =>
          cases e6 : (kids x)[i]? with
          | none => rw [e5, e6] at e2; cases e2
          | some y =>
            rw [e5, e6] at e2
            have vd := in_vd r1 e1 e3
            obtain ⟨a, u, rfl, k1, k2⟩ := kid_at o1 vd e3 e5 e6 e2
            obtain ⟨F, _, ot⟩ := o1.pk vd e3
            unfold fldOf insOf at e4
            split at e4
            · rename_i cc fs' ei
              split at ei
              · cases ei
                cases ot with
                | z d => cases e5
                | rz p d => cases e5
                | «at» q => cases q
                | dct d r => have := d.isX; cases this
                | @ins c0 kvs vs _ F q rr =>
                  obtain ⟨cl, na, n1, n2, dx, fs, g1, g2, g3, g4⟩ := q
                  obtain ⟨w, f1, f2⟩ := fld_look n1 n2 m g3 g4 e4
                  have : u = w := by
                    unfold kidV at k1
                    rw [g1] at k1
                    dsimp only at k1
                    rw [f1] at k1
                    cases k1
                    rfl
                  subst this
                  exact ⟨a, _, dx, fs, u, rfl, g1, cl, na _ m, f2, p2 G1 u H1 o1 (Stp.refl _ _ _ _) k2⟩
              · cases ei
            · cases e4
end
end EV
end
section
set_option Elab.async false
set_option linter.all false
set_option maxRecDepth 100000
set_option maxHeartbeats 4000000
set_option autoImplicit false
/-! GD1: items of places; operations -/
namespace EV
open PySem L2
theorem free_s {S : Ste} {i : Nat} (h : S.free (.s i) = true) : ∃ sh x, S.rho[i]? = some (.own sh x) := by
  unfold Ste.free at h
  dsimp only at h
  split at h
  · exact ⟨_, _, by assumption⟩
  · cases h
theorem free_c {S : Ste} {n : Nat} (h : S.free (.c n) = true) : ∃ sh x, S.hp[n]? = some (.live sh x) := by
  unfold Ste.free at h
  dsimp only at h
  split at h
  · exact ⟨_, _, by assumption⟩
  · cases h
theorem lock_not {S : Ste} {t : Rt} (h : S.free t = false) : S.lock t = S := by
  cases t with
  | s i =>
    unfold Ste.lock
    unfold Ste.free at h
    dsimp only at h ⊢
    split
    · rename_i e; rw [e] at h; cases h
    · rfl
  | c n =>
    unfold Ste.lock
    unfold Ste.free at h
    dsimp only at h ⊢
    split
    · rename_i e; rw [e] at h; cases h
    · rfl
theorem lock_unlock (S : Ste) (t : Rt) : (S.lock t).unlock t (S.free t) = S := by
  cases h : S.free t with
  | false => rw [lock_not h]; rfl
  | true =>
    cases t with
    | s i =>
      obtain ⟨sh, x, e⟩ := free_s h
      have hi : i < S.rho.length := (List.getElem?_eq_some_iff.mp e).1
      have e1 : S.lock (.s i) = { S with rho := S.rho.set i (.lck sh x) } := by simp only [Ste.lock, e]
      rw [e1]
      simp only [Ste.unlock, if_true, List.getElem?_set_self hi, List.set_set]
      rw [set_same e]
    | c n =>
      obtain ⟨sh, x, e⟩ := free_c h
      have hi : n < S.hp.length := (List.getElem?_eq_some_iff.mp e).1
      have e1 : S.lock (.c n) = { S with hp := S.hp.set n (.lk sh x) } := by simp only [Ste.lock, e]
      rw [e1]
      simp only [Ste.unlock, if_true, List.getElem?_set_self hi, List.set_set]
      rw [set_same e]
section
variable {P : Env}
theorem evs_nil {S : Ste} : evs P .nil S = .ok [] S := by rw [evs]
theorem held_nil {x : Vl} {S : Ste} : x.held S (fun s => evs P .nil s) = .ok [] S := by
  cases x with
  | pk t p =>
    show ((evs P .nil (S.lock t)).map (fun s => s.unlock t (S.free t)) id : Res (List Vl)) = _
    rw [evs_nil]
    show Res.ok [] ((S.lock t).unlock t (S.free t)) = _
    rw [lock_unlock]
  | _ => show evs P .nil S = _; rw [evs_nil]
theorem evs_one {a : C} {S : Ste} : evs P (.cons a .nil) S = (ev P a S).bind fun x s => .ok [x] s := by
  rw [evs]
  cases ev P a S with
  | ok x s => show ((x.held s fun s => evs P .nil s).bind fun xs s => Res.ok (x :: xs) s) = _; rw [held_nil]; rfl
  | er c s => rfl
  | stuck => rfl
theorem held_map {α β : Type} {x : Vl} {S : Ste} {r : Ste → Res α} {g : α → β} : (x.held S fun s => (r s).bind fun y s => .ok (g y) s) = (x.held S r).bind fun y s => .ok (g y) s := by
  cases x with
  | pk t p =>
    show ((r (S.lock t)).bind fun y s => Res.ok (g y) s).map _ id = ((r (S.lock t)).map _ id).bind _
    cases r (S.lock t) <;> rfl
  | _ => rfl
theorem evs_two {a b : C} {S : Ste} {δ : Type} {f : List Vl → Ste → Res δ} : (evs P (.cons a (.cons b .nil)) S).bind f = (ev P a S).bind fun x s => (x.held s (ev P b)).bind fun y s => f [x, y] s := by
  rw [evs]
  cases ev P a S with
  | ok x s =>
    show ((x.held s fun s => evs P (.cons b .nil) s).bind fun xs s => Res.ok (x :: xs) s).bind f = (x.held s (ev P b)).bind fun y s => f [x, y] s
    have : (fun s => evs P (.cons b .nil) s) = fun s => (ev P b s).bind fun y s => .ok [y] s := by funext s; exact evs_one
    rw [this, held_map]
    cases x.held s (ev P b) <;> rfl
  | er c s => rfl
  | stuck => rfl
theorem evs_one' {a : C} {S : Ste} {δ : Type} {f : List Vl → Ste → Res δ} : (evs P (.cons a .nil) S).bind f = (ev P a S).bind fun x s => f [x] s := by
  rw [evs_one]
  cases ev P a S <;> rfl
end
section
variable {X : Cx} {Z : Ct} {W : WX} {P : Env} {pos : Pos}
/-- an item of a list, of a tuple, of a dict -/
def rOwn (K : PySem.W.Frag) : R2 := fun x y H Q => rIxL K x y H Q ∨ rIxT K x y H Q ∨ ∃ a kvs vs kd M v, x = .ref a ∧ DKr H a kvs vs ∧ keyOk kvs kd = true ∧ Dn K M H true kd y ∧ atK kvs vs kd = some v ∧ Q v H
theorem ix_own (hu : X.A.units + 1 < cLine) : IxR X (rOwn X.K) := ix_list.or (ix_tup.or (by
  intro value slice pins s σ H x y v u Q I rx ry h hs
  obtain ⟨a, kvs, vs, kd, M, w, rfl, d, ok, dk, e, q⟩ := h
  cases rx
  exact ix_dict hu I d ok dk ry e q hs))
theorem ix_rd {T : Kt} {io : List Addr} {M M' : Addr → Prop} {H : Hp} {sh s : Sh} {x y kd : D} {a : Addr} {F : List Addr} {kv u : V} {i : Nat} {Q : VK} (ot : OT T io M H sh x (.ref a) F) (e4 : ixOf x kd = some i) (e5 : kidSh sh x i = some s) (e6 : (kids x)[i]? = some y) (ku : kidV H a i = some u) (dk : Dn T.K M' H true kd kv) (q : Q u H) : rOwn T.K (.ref a) kv H Q := by
  cases ot with
  | z d => cases e5
  | r d => cases e5
  | rz p d => cases e5
  | «at» q => cases x <;> first | (cases e4; done) | (cases q; done)
  | hole => cases e5
  | @lst s0 xs vs _ F0 e r =>
    cases kd with
    | int k =>
      cases dk
      have e4 : ixN xs.length k = some i := e4
      have ln := r.len.2
      refine .inl ⟨a, vs, k, u, rfl, rfl, SqL.of e, ?_, q⟩
      unfold L2.atI
      rw [← ln, e4]
      unfold kidV at ku
      rw [e] at ku
      exact ku
    | _ => cases e4
  | @tup s0 xs vs _ F0 e n r =>
    cases kd with
    | int k =>
      cases dk
      have e4 : ixN xs.length k = some i := e4
      have ln := r.len.2
      refine .inr (.inl ⟨a, vs, k, u, rfl, rfl, SqT.of e, ?_, q⟩)
      unfold L2.atI
      rw [← ln, e4]
      unfold kidV at ku
      rw [e] at ku
      exact ku
    | _ => cases e4
  | @dct s0 kvs vs _ F0 e r =>
    have nx := e.isX
    have e4 : (if !isX kvs && keyOk kvs kd then dIx kvs kd else none) = some i := by
      cases kd <;> exact e4
    split at e4
    · rename_i hk
      rw [Bool.and_eq_true] at hk
      refine .inr (.inr ⟨a, kvs, vs, kd, M', u, rfl, e.r, hk.2, dk, ?_, q⟩)
      unfold atK
      rw [e4]
      unfold kidV at ku
      rcases e with ⟨es, e, _, rfl⟩ | ⟨es, e, _, rfl⟩ <;> (rw [e] at ku; simpa using ku)
    · cases e4
  | @ins c0 kvs vs _ F0 e r =>
    have e4 : (if !isX ((.none, .tuple [.int c0]) :: kvs) && keyOk ((.none, .tuple [.int c0]) :: kvs) kd then dIx ((.none, .tuple [.int c0]) :: kvs) kd else none) = some i := by
      cases kd <;> exact e4
    cases e4
theorem sp_ix {e k : Expr} {p : Plc} {c : C} (hu : X.A.units + 1 < cLine) (he : PE X e (tP (kt X Z) W (evP P p))) (hk : PE X k (tE (kt X Z) W (ev P c))) (hs : PlainIx k) : PE X (.Subscript e k pos) (tP (kt X Z) W (evP P (.ix p c))) := (pe_ix (ix_own hu) he hk hs).imp fun σ H Q h => by
  obtain ⟨G, S, o, q⟩ := h
  rw [evP] at q
  refine ⟨G, S, o, q.seq fun G1 S1 l v H1 o1 st1 r1 p1 => ?_⟩
  cases e1 : l.in with
  | none => rw [e1] at p1; exact p1.elim
  | some tq =>
    obtain ⟨t, q⟩ := tq
    rw [e1] at p1
    dsimp only at p1
    cases e3 : S1.at t q with
    | none => rw [e3] at p1; exact p1.elim
    | some r =>
      rw [e3] at p1
      have vd := in_vd r1 e1 e3
      have p1 : Post (kt X Z) W (RP (kt X Z)) G1 S1 σ H1 Q ((Vl.held (.pk t q) S1 fun s => ev P c s).bind fun x s => match x.dat with
        | some k => Res.of (s.kid t q fun x => ixOf x k) s
        | none => .stuck) := p1
      refine p1.held rc_V o1 vd fun G2 S2 kx kv H2 o2 st2 vd2 r2 p2 => ?_
      cases ed : kx.dat with
      | none => rw [ed] at p2; exact p2.elim
      | some kd =>
        rw [ed] at p2
        have dk := dat_dn o2 r2 ed
        obtain ⟨l2, e2, p3⟩ := Post.of p2
        unfold Ste.kid at e2
        cases e3 : S2.at t q with
        | none => rw [e3] at e2; cases e2
        | some r =>
          obtain ⟨sh, x⟩ := r
          rw [e3] at e2
          dsimp only at e2
          cases e4 : ixOf x kd with
          | none => rw [e4] at e2; cases e2
          | some i =>
            rw [e4] at e2
            dsimp only at e2
            cases e5 : kidSh sh x i with
            | none => rw [e5] at e2; cases e2
            | some s =>
              cases e6 : (kids x)[i]? with
              | none => rw [e5, e6] at e2; cases e2
              | some y =>
                rw [e5, e6] at e2
                obtain ⟨a, u, rfl, k1, k2⟩ := kid_at o2 vd2 e3 e5 e6 e2
                obtain ⟨F, _, ot⟩ := o2.pk vd2 e3
                exact ix_rd ot e4 e5 e6 k1 dk (p3 G2 u H2 o2 (Stp.refl _ _ _ _) k2)
/-- two values -/
theorem two_read {a b : C} {f : List Vl → Ste → Res Vl} {σ : St} {H : Hp} {Q : VK} {k : V → V → Hp → Prop} (h : tE (kt X Z) W (fun S => (evs P (.cons a (.cons b .nil)) S).bind f) σ H Q)
    (fin : ∀ G S x y v u H1, Ok (kt X Z) G S σ H1 → VDs (kt X Z) G S σ H1 [x, y] [v, u] → Post (kt X Z) W (RV (kt X Z)) G S σ H1 Q (f [x, y] S) → k v u H1) : tE (kt X Z) W (ev P a) σ H fun v H1 => tE (kt X Z) W (ev P b) σ H1 fun u H2 => k v u H2 := by
  obtain ⟨G, S, o, p⟩ := h
  replace p := (show Post (kt X Z) W (RV (kt X Z)) G S σ H Q ((evs P _ S).bind f) from p)
  rw [evs_two] at p
  exact ⟨G, S, o, p.seq fun G1 S1 x v H1 o1 st1 r1 p1 => p1.held rc_V o1 r1 fun G2 S2 y u H2 o2 st2 x2 r2 p2 => fin G2 S2 x y v u H2 o2 (.cons x2 (.cons r2 .nil)) p2⟩
theorem one_read {a : C} {f : List Vl → Ste → Res Vl} {σ : St} {H : Hp} {Q : VK} {k : V → Hp → Prop} (h : tE (kt X Z) W (fun S => (evs P (.cons a .nil) S).bind f) σ H Q)
    (fin : ∀ G S x v H1, Ok (kt X Z) G S σ H1 → VDs (kt X Z) G S σ H1 [x] [v] → Post (kt X Z) W (RV (kt X Z)) G S σ H1 Q (f [x] S) → k v H1) : tE (kt X Z) W (ev P a) σ H k := by
  obtain ⟨G, S, o, p⟩ := h
  replace p := (show Post (kt X Z) W (RV (kt X Z)) G S σ H Q ((evs P _ S).bind f) from p)
  rw [evs_one'] at p
  exact ⟨G, S, o, p.seq fun G1 S1 x v H1 o1 st1 r1 p1 => fin G1 S1 x v H1 o1 (.cons r1 .nil) p1⟩
theorem op_ev {o : Op} {as : Cs} : ev P (.op o as) = fun S => (evs P as S).bind fun xs s => Res.of (((s.ress xs).bind o.fn).bind (mkv o.fresh (tnts xs))) s := by
  funext S
  rw [ev]
theorem se_bin {l r : Expr} {op : Operator} {o : Op} {a b : C} (ho : OpP X (binaryOp op) o.fresh o.fn) (ha : PE X l (tE (kt X Z) W (ev P a))) (hb : PE X r (tE (kt X Z) W (ev P b))) : PE X (.BinOp l op r pos) (tE (kt X Z) W (ev P (.op o (.cons a (.cons b .nil))))) := (pe_op ho ha hb).imp fun σ H Q h => by
  rw [op_ev] at h
  exact two_read h fun G S x y v u H1 o1 vs p => rP_of o1 vs p
theorem se_cmp {l r : Expr} {op : CmpOp} {o : Op} {a b : C} (ho : OpP X (compareOp op) o.fresh o.fn) (ha : PE X l (tE (kt X Z) W (ev P a))) (hb : PE X r (tE (kt X Z) W (ev P b))) (hm : behindInMarks op r = false) : PE X (.Compare l [op] [r] pos) (tE (kt X Z) W (ev P (.op o (.cons a (.cons b .nil))))) := (pe_cmpR ho ha hb hm).imp fun σ H Q h => by
  rw [op_ev] at h
  exact two_read h fun G S x y v u H1 o1 vs p => rP_of o1 vs p
theorem se_un {e : Expr} {op : UnaryOp} {o : Op} {a : C} (ho : UnP X (unaryOp op) o.fn) (hf : o.fresh = true) (ha : PE X e (tE (kt X Z) W (ev P a))) : PE X (.UnaryOp op e pos) (tE (kt X Z) W (ev P (.op o (.cons a .nil)))) := (pe_un ho ha).imp fun σ H Q h => by
  rw [op_ev] at h
  exact one_read h fun G S x v H1 o1 vs p => by
    have := rP_of o1 vs p
    rw [hf] at this
    exact this
theorem se_ix {l r : Expr} {o : Op} {a b : C} (ho : IxP X o.fresh o.fn) (ha : PE X l (tE (kt X Z) W (ev P a))) (hb : PE X r (tE (kt X Z) W (ev P b))) (hs : PlainIx r) : PE X (.Subscript l r pos) (tE (kt X Z) W (ev P (.op o (.cons a (.cons b .nil))))) := (pe_ix ho ha hb hs).imp fun σ H Q h => by
  rw [op_ev] at h
  exact two_read h fun G S x y v u H1 o1 vs p => rP_of o1 vs p
theorem se_bi {id : String} {x : Str} {p : Pos} {e : Expr} {es : List Expr} {o : Op} {as : Cs} (hc : CallP X (.builtin id) o.fresh o.fn) (hg : Gl X x) (hm : X.mg x = none) (hv : bootBuiltins x = some (.builtin id)) (ha : PA X (e :: es) (tA (kt X Z) W (evs P as))) (hn : x ≠ "__name__") (hdb : (x == ("__debug__" : Str)) = false)
    (he : starEach (e :: es) X.env = (false, eval e X.env) :: starEach es X.env) (hpl : (backTo pos (starEach es X.env)).any (·.1) = false) : PE X (.Call (.Name x p) (e :: es) [] pos) (tE (kt X Z) W (ev P (.op o as))) := (pe_callB hc hg hm hv ha hn hdb he hpl).imp fun σ H Q h => by
  rw [op_ev] at h
  obtain ⟨G, S, o1, p1⟩ := h
  exact ⟨G, S, o1, p1.seq fun G2 S2 xs vs H2 o2 st2 r2 p2 => rP_of o2 r2 p2⟩
theorem se_ty {T : String} {x : Str} {p : Pos} {e : Expr} {es : List Expr} {o : Op} {as : Cs} (hc : CallP X (.type T) o.fresh o.fn) (hg : Gl X x) (hm : X.mg x = none) (hv : bootBuiltins x = some (.type T)) (ha : PA X (e :: es) (tA (kt X Z) W (evs P as))) (hn : x ≠ "__name__") (hdb : (x == ("__debug__" : Str)) = false)
    (he : starEach (e :: es) X.env = (false, eval e X.env) :: starEach es X.env) (hpl : (backTo pos (starEach es X.env)).any (·.1) = false) : PE X (.Call (.Name x p) (e :: es) [] pos) (tE (kt X Z) W (ev P (.op o as))) := (pe_callTy hc hg hm hv ha hn hdb he hpl).imp fun σ H Q h => by
  rw [op_ev] at h
  obtain ⟨G, S, o1, p1⟩ := h
  exact ⟨G, S, o1, p1.seq fun G2 S2 xs vs H2 o2 st2 r2 p2 => rP_of o2 r2 p2⟩
theorem se_isinst {x : Str} {p : Pos} {e et : Expr} {t : Ty} {a : C} (hg : Gl X x) (hm : X.mg x = none) (hv : bootBuiltins x = some (.builtin "isinstance")) (ha : PE X e (tE (kt X Z) W (ev P a))) (ht : PE X et (tC (.ty t.str'))) (hn : x ≠ "__name__") (hdb : (x == ("__debug__" : Str)) = false)
    (he : starEach [e, et] X.env = (false, eval e X.env) :: starEach [et] X.env) (he2 : starEach [et] X.env = [(false, eval et X.env)]) (hpl : (backTo pos (starEach [et] X.env)).any (·.1) = false) : PE X (.Call (.Name x p) [e, et] [] pos) (tE (kt X Z) W (ev P (.op (Op.isinst t) (.cons a .nil)))) :=
  (pe_callB (o_isinst t) hg hm hv (pa_cons ha (pa_cons ht pa_nil he2) he) hn hdb he hpl).imp fun σ H Q h => by
    rw [op_ev] at h
    show tE (kt X Z) W (ev P a) σ H _
    exact one_read h fun G S x v H1 o1 vs p => ⟨v, rfl, rP_of (g := fIsinst t) o1 vs p⟩
theorem se_isLT {p p1 p2 pos tpos : Pos} {kk : Nat} {e : Expr} {a : C} (hg : Gl X "isinstance") (hm : X.mg "isinstance" = none) (ha : PE X e (tE (kt X Z) W (ev P a))) (hl : PE X (.Name "list" p1) (tC (.ty "list"))) (ht : PE X (.Name "tuple" p2) (tC (.ty "tuple")))
    (h1 : starEach [e, .Tuple [.Name "list" p1, .Name "tuple" p2] kk tpos] X.env = (false, eval e X.env) :: starEach [.Tuple [.Name "list" p1, .Name "tuple" p2] kk tpos] X.env) :
    PE X (.Call (.Name "isinstance" p) [e, .Tuple [.Name "list" p1, .Name "tuple" p2] kk tpos] [] pos) (tE (kt X Z) W (ev P (.op Op.isLT (.cons a .nil)))) :=
  (pe_isLT ha hg hm (pa_cons hl (pa_cons ht pa_nil rfl) rfl) h1 rfl rfl).imp fun σ H Q h => by
    rw [op_ev] at h
    show tE (kt X Z) W (ev P a) σ H _
    exact one_read h fun G S x v H1 o1 vs p => rP_of (g := fIsLT) o1 vs p
end
end EV
end
section
set_option Elab.async false
set_option linter.all false
set_option maxRecDepth 100000
set_option maxHeartbeats 4000000
set_option autoImplicit false
/-! GD2: rules for expressions: tests -/
namespace EV
open PySem L2

theorem le_size {n : Nat} (h : n ≤ lim) : n ≤ sizeLine := Nat.le_trans h (by decide)
theorem tnt_le {x : Vl} : x.tnt ≤ 2 := by cases x <;> simp [Vl.tnt]
section
variable {X : Cx} {Z : Ct} {W : WX} {P : Env} {pos : Pos}
/-- a test: the value's truth -/
def evB (P : Env) (c : C) : Ste → Res Bool := fun S => (ev P c S).bind fun x s => Res.of ((s.res x).bind truth) s
theorem dn_bool {K : PySem.W.Frag} {M : Addr → Prop} {H : Hp} {b : Bool} {v : V} (h : Dn K M H false (.bool b) v) : v = .bl b := by cases h; rfl
theorem dn_tru {K : PySem.W.Frag} {M : Addr → Prop} {H : Hp} {d : D} {v : V} {b : Bool} (h : Dn K M H false d v) (e : truth d = some b) : TruV K v H b := by
  cases d with
  | none => cases h; cases e; rfl
  | bool k => cases h; cases e; rfl
  | int i => cases h; cases e; rfl
  | str x =>
    cases h
    have e : (if x.length ≤ lim then some (x.length != 0) else none) = some b := e
    split at e
    · rename_i hl
      cases e
      exact ⟨le_size hl, by rw [Bool.eq_iff_iff]; simp⟩
    · cases e
  | list xs =>
    obtain ⟨a, vs, rfl, s, l⟩ := h.sql
    cases e
    refine .inl ⟨vs, s, ?_⟩
    cases l <;> rfl
  | tuple xs =>
    obtain ⟨a, vs, rfl, s, l⟩ := h.sqt
    cases e
    refine .inr (.inl ⟨vs, s, ?_⟩)
    cases l <;> rfl
  | dict kvs => cases e
theorem st_truth {e : Expr} {a : C} (ha : PE X e (tE (kt X Z) W (ev P a))) (he : ∀ whole, isTrue e X.env whole = (do let v ← whole; standAt e.pos; holding [v] (truthy v))) : PT X e (tT (kt X Z) W (evB P a)) := (pt_truth ha he).imp fun σ H Q h => by
  obtain ⟨G, S, o, p⟩ := h
  refine ⟨G, S, o, Post.seq (R' := RB) p fun G1 S1 x v H1 o1 st1 r1 p1 => ?_⟩
  obtain ⟨b, e, p2⟩ := Post.of p1
  cases e1 : S1.res x with
  | none => rw [e1] at e; cases e
  | some d =>
    rw [e1] at e
    exact ⟨b, dn_tru (o1.res r1 e1 tnt_le) e, p2 G1 b H1 o1 (Stp.refl _ _ _ _) rfl⟩
theorem evB_op {o : Op} {as : Cs} : evB P (.op o as) = fun S => (evs P as S).bind fun xs s => Res.of ((((s.ress xs).bind o.fn).bind (mkv o.fresh (tnts xs))).bind fun x => (s.res x).bind truth) s := by
  funext S
  unfold evB
  rw [op_ev]
  dsimp only
  cases evs P as S with
  | ok xs s =>
    simp only [Res.bind]
    cases ((s.ress xs).bind o.fn).bind (mkv o.fresh (tnts xs)) <;> rfl
  | er c s => rfl
  | stuck => rfl
theorem mkv_bool (fr : Bool) (t : Nat) (b : Bool) : mkv fr t (.bool b) = some (.d (.bool b)) := by
  unfold mkv
  split
  · rfl
  · rw [if_pos (by rfl)]
/-- a comparison, as a test -/
theorem rP_test {fr : Bool} {g : List D → Option D} {xs : List Vl} {vs : List V} {σ : St} {H : Hp} {G : Gh} {S : Ste} {Q : Bool → Hp → Prop} (bl : ∀ ds d, g ds = some d → ∃ b, d = .bool b) (o : Ok (kt X Z) G S σ H) (h : VDs (kt X Z) G S σ H xs vs)
    (p : Post (kt X Z) W RB G S σ H Q (Res.of ((((S.ress xs).bind g).bind (mkv fr (tnts xs))).bind fun x => (S.res x).bind truth) S)) : rP X.K fr g vs H fun z H' => ∃ k, z = .bl k ∧ Q k H' := by
  obtain ⟨b, e, p2⟩ := Post.of p
  cases e1 : S.ress xs with
  | none => rw [e1] at e; cases e
  | some ds =>
    rw [e1] at e
    cases e2 : g ds with
    | none => simp only [Option.bind, e2] at e; cases e
    | some d =>
      obtain ⟨k, rfl⟩ := bl ds d e2
      simp only [Option.bind, e2, mkv_bool, Ste.res, truth] at e
      cases e
      exact ⟨Mt G (tnts xs), ds, _, fun a m => o.tr1 (Mt.mm a m), o.ressL h e1 (Nat.le_refl _), e2, fun z H' s dn _ => ⟨b, by cases dn; rfl, p2 G b H' (o.same s) (Stp.same o s) rfl⟩⟩
theorem two_readT {a b : C} {f : List Vl → Ste → Res Bool} {σ : St} {H : Hp} {Q : Bool → Hp → Prop} {k : V → V → Hp → Prop} (h : tT (kt X Z) W (fun S => (evs P (.cons a (.cons b .nil)) S).bind f) σ H Q)
    (fin : ∀ G S x y v u H1, Ok (kt X Z) G S σ H1 → VDs (kt X Z) G S σ H1 [x, y] [v, u] → Post (kt X Z) W RB G S σ H1 Q (f [x, y] S) → k v u H1) : tE (kt X Z) W (ev P a) σ H fun v H1 => tE (kt X Z) W (ev P b) σ H1 fun u H2 => k v u H2 := by
  obtain ⟨G, S, o, p⟩ := h
  replace p := (show Post (kt X Z) W RB G S σ H Q ((evs P _ S).bind f) from p)
  rw [evs_two] at p
  exact ⟨G, S, o, p.seq fun G1 S1 x v H1 o1 st1 r1 p1 => p1.held rc_V o1 r1 fun G2 S2 y u H2 o2 st2 x2 r2 p2 => fin G2 S2 x y v u H2 o2 (.cons x2 (.cons r2 .nil)) p2⟩
theorem st_cmp {l r : Expr} {op : CmpOp} {o : Op} {a b : C} (ho : OpP X (compareOp op) o.fresh o.fn) (bl : ∀ ds d, o.fn ds = some d → ∃ b, d = .bool b) (ha : PE X l (tE (kt X Z) W (ev P a))) (hb : PE X r (tE (kt X Z) W (ev P b))) (hm : behindInMarks op r = false) : PT X (.Compare l [op] [r] pos) (tT (kt X Z) W (evB P (.op o (.cons a (.cons b .nil))))) := (pt_cmpR ho ha hb hm).imp fun σ H Q h => by
  rw [evB_op] at h
  exact two_readT h fun G S x y v u H1 o1 vs p => rP_test bl o1 vs p
/-! ### a op b op c -/
theorem chain_ev {o1 o2 : Op} {a b c : C} {S : Ste} : ev P (.chain o1 o2 a b c) S = (ev P a S).bind fun x s => (ev P b s).bind fun y s => if isPk x || isPk y then .stuck else match (s.ress [x, y]).bind o1.fn with
    | some (.bool true) => (ev P c s).bind fun z s => Res.of (((s.ress [y, z]).bind o2.fn).bind (mkv o2.fresh (tnts [y, z]))) s
    | some (.bool false) => .ok (.d (.bool false)) s
    | _ => .stuck := by rw [ev] <;> rfl
theorem se_chain {l m r : Expr} {op op' : CmpOp} {o o' : Op} {a b c : C} (ho : OpP X (compareOp op) o.fresh o.fn) (ho' : OpP X (compareOp op') o'.fresh o'.fn) (bl : ∀ ds d, o.fn ds = some d → ∃ b, d = .bool b) (ha : PE X l (tE (kt X Z) W (ev P a))) (hb : PE X m (tE (kt X Z) W (ev P b))) (hc : PE X r (tE (kt X Z) W (ev P c)))
    (hm : lastMarks [op, op'] [m, r] = false) : PE X (.Compare l [op, op'] [m, r] pos) (tE (kt X Z) W (ev P (.chain o o' a b c))) := (pe_chain ho ho' ha hb hc hm).imp fun σ H Q h => by
  obtain ⟨G, S, ok, p⟩ := h
  rw [chain_ev] at p
  refine ⟨G, S, ok, p.seq fun G1 S1 x v H1 o1 st1 r1 p1 => ⟨G1, S1, o1, p1.seq fun G2 S2 y u H2 o2 st2 r2 p2 => ?_⟩⟩
  split at p2
  · exact p2.elim
  rename_i hpk
  rw [Bool.or_eq_true, not_or] at hpk
  have hx : isPk x = false := by simpa using hpk.1
  have hy : isPk y = false := by simpa using hpk.2
  have vs : VDs (kt X Z) G2 S2 σ H2 [x, y] [v, u] := .cons (VD.step hx st2 r1) (.cons r2 .nil)
  cases e1 : S2.ress [x, y] with
  | none => rw [e1] at p2; exact p2.elim
  | some ds =>
    rw [e1] at p2
    cases e2 : o.fn ds with
    | none => simp only [Option.bind, e2] at p2; exact p2.elim
    | some d =>
      obtain ⟨k, rfl⟩ := bl ds d e2
      simp only [Option.bind, e2] at p2
      refine ⟨Mt G2 (tnts [x, y]), ds, _, fun a m => o2.tr1 (Mt.mm a m), o2.ressL vs e1 (Nat.le_refl _), e2, fun z H3 s dn _ => ⟨k, by cases dn; rfl, ?_⟩⟩
      have o3 := o2.same s
      have s3 := Stp.same o2 s
      cases k with
      | true =>
        rw [if_pos rfl]
        exact ⟨G2, S2, o3, (p2.shift s3).seq fun G4 S4 z w H4 o4 st4 r4 p4 => rP_of o4 (.cons (VD.step hy st4 (VD.step hy s3 r2)) (.cons r4 .nil)) p4⟩
      | false =>
        rw [if_neg Bool.false_ne_true]
        exact p2 G2 _ H3 o3 s3 (Dn.bl false)
theorem st_chain {l m r : Expr} {op op' : CmpOp} {o o' : Op} {a b c : C} (ho : OpP X (compareOp op) o.fresh o.fn) (ho' : OpP X (compareOp op') o'.fresh o'.fn) (bl : ∀ ds d, o.fn ds = some d → ∃ b, d = .bool b) (bl' : ∀ ds d, o'.fn ds = some d → ∃ b, d = .bool b) (ha : PE X l (tE (kt X Z) W (ev P a))) (hb : PE X m (tE (kt X Z) W (ev P b))) (hc : PE X r (tE (kt X Z) W (ev P c)))
    (hm : lastMarks [op, op'] [m, r] = false) : PT X (.Compare l [op, op'] [m, r] pos) (tT (kt X Z) W (evB P (.chain o o' a b c))) := (pt_chain ho ho' ha hb hc hm).imp fun σ H Q h => by
  obtain ⟨G, S, ok, p⟩ := h
  have e0 : evB P (.chain o o' a b c) S = (ev P a S).bind fun x s => (ev P b s).bind fun y s => if isPk x || isPk y then .stuck else match (s.ress [x, y]).bind o.fn with
    | some (.bool true) => (ev P c s).bind fun z s => Res.of ((((s.ress [y, z]).bind o'.fn).bind (mkv o'.fresh (tnts [y, z]))).bind fun x => (s.res x).bind truth) s
    | some (.bool false) => .ok false s
    | _ => .stuck := by
    unfold evB
    rw [chain_ev]
    cases ev P a S with
    | ok x s =>
      simp only [Res.bind]
      cases ev P b s with
      | ok y s =>
        dsimp only
        cases (isPk x || isPk y) with
        | true => rfl
        | false =>
          simp only [Bool.false_eq_true, if_false]
          generalize (s.ress [x, y]).bind o.fn = t
          cases t with
          | none => rfl
          | some d =>
            cases d with
            | bool k =>
              cases k with
              | false => rfl
              | true =>
                dsimp only
                cases ev P c s with
                | ok z s =>
                  dsimp only
                  generalize ((s.ress [y, z]).bind o'.fn).bind _ = t
                  cases t <;> rfl
                | er c s => rfl
                | stuck => rfl
            | _ => rfl
      | er c s => rfl
      | stuck => rfl
    | er c s => rfl
    | stuck => rfl
  rw [e0] at p
  refine ⟨G, S, ok, p.seq fun G1 S1 x v H1 o1 st1 r1 p1 => ⟨G1, S1, o1, p1.seq fun G2 S2 y u H2 o2 st2 r2 p2 => ?_⟩⟩
  split at p2
  · exact p2.elim
  rename_i hpk
  rw [Bool.or_eq_true, not_or] at hpk
  have hx : isPk x = false := by simpa using hpk.1
  have hy : isPk y = false := by simpa using hpk.2
  have vs : VDs (kt X Z) G2 S2 σ H2 [x, y] [v, u] := .cons (VD.step hx st2 r1) (.cons r2 .nil)
  cases e1 : S2.ress [x, y] with
  | none => rw [e1] at p2; exact p2.elim
  | some ds =>
    rw [e1] at p2
    cases e2 : o.fn ds with
    | none => simp only [Option.bind, e2] at p2; exact p2.elim
    | some d =>
      obtain ⟨k, rfl⟩ := bl ds d e2
      simp only [Option.bind, e2] at p2
      refine ⟨Mt G2 (tnts [x, y]), ds, _, fun a m => o2.tr1 (Mt.mm a m), o2.ressL vs e1 (Nat.le_refl _), e2, fun z H3 s dn _ => ⟨k, by cases dn; rfl, ?_⟩⟩
      have o3 := o2.same s
      have s3 := Stp.same o2 s
      cases k with
      | true =>
        rw [if_pos rfl]
        exact ⟨G2, S2, o3, (p2.shift s3).seq fun G4 S4 z w H4 o4 st4 r4 p4 => rP_test bl' o4 (.cons (VD.step hy st4 (VD.step hy s3 r2)) (.cons r4 .nil)) p4⟩
      | false =>
        rw [if_neg Bool.false_ne_true]
        exact ⟨false, rfl, p2 G2 _ H3 o3 s3 rfl⟩

/-! ### not, and, or, if else -/
theorem se_not {e : Expr} {a : C} (ha : PE X e (tE (kt X Z) W (ev P a))) : PE X (.UnaryOp .Not e pos) (tE (kt X Z) W (ev P (.not a))) := (pe_not ha).imp fun σ H Q h => by
  obtain ⟨G, S, o, p⟩ := h
  rw [ev] at p
  refine ⟨G, S, o, p.seq fun G1 S1 x v H1 o1 st1 r1 p1 => ?_⟩
  split at p1
  · rename_i b e1
    obtain rfl := dn_bool (o1.res r1 e1 tnt_le)
    exact ⟨b, rfl, p1 G1 _ _ o1 (Stp.refl _ _ _ _) (Dn.bl _)⟩
  · exact p1.elim
theorem evB_not {a : C} {S : Ste} : evB P (.not a) S = (ev P a S).bind fun x s => match s.res x with
    | some (.bool b) => .ok (!b) s
    | _ => .stuck := by
  unfold evB
  rw [ev]
  cases ev P a S with
  | ok x s =>
    simp only [Res.bind]
    generalize s.res x = t
    cases t with
    | none => rfl
    | some d => cases d with
      | bool k => cases k <;> rfl
      | _ => rfl
  | er c s => rfl
  | stuck => rfl
theorem st_not {e : Expr} {a : C} (ha : PT X e (tT (kt X Z) W (evB P a))) : PT X (.UnaryOp .Not e pos) (tT (kt X Z) W (evB P (.not a))) := (pt_not ha).imp fun σ H Q h => by
  obtain ⟨G, S, o, p⟩ := h
  rw [evB_not] at p
  refine ⟨G, S, o, ?_⟩
  unfold evB
  cases e0 : ev P a S with
  | ok x S1 =>
    rw [e0] at p
    simp only [Res.bind] at p ⊢
    split at p
    · rename_i b e1
      rw [e1]
      intro G1 v H1 o1 st1 r1
      have r1 : b = v := r1
      subst r1
      exact p G1 _ _ o1 st1 rfl
    · exact p.elim
  | er c S' => rw [e0] at p; exact p
  | stuck => rw [e0] at p; exact p
theorem se_and {e : Expr} {es : List Expr} {e2 : Expr} {a b : C} (ha : PE X e (tE (kt X Z) W (ev P a))) (hb : PE X (.BoolOp .And (e2 :: es) pos) (tE (kt X Z) W (ev P b))) : PE X (.BoolOp .And (e :: e2 :: es) pos) (tE (kt X Z) W (ev P (.and a b))) := (pe_and ha hb).imp fun σ H Q h => by
  obtain ⟨G, S, o, p⟩ := h
  rw [ev] at p
  refine ⟨G, S, o, p.seq fun G1 S1 x v H1 o1 st1 r1 p1 => ?_⟩
  split at p1
  · rename_i e1
    obtain rfl := dn_bool (o1.res r1 e1 tnt_le)
    exact ⟨true, rfl, by rw [if_pos rfl]; exact ⟨G1, S1, o1, p1⟩⟩
  · rename_i e1
    obtain rfl := dn_bool (o1.res r1 e1 tnt_le)
    exact ⟨false, rfl, by rw [if_neg Bool.false_ne_true]; exact p1 G1 _ _ o1 (Stp.refl _ _ _ _) (Dn.bl false)⟩
  · exact p1.elim
theorem se_or {e : Expr} {es : List Expr} {e2 : Expr} {a b : C} (ha : PE X e (tE (kt X Z) W (ev P a))) (hb : PE X (.BoolOp .Or (e2 :: es) pos) (tE (kt X Z) W (ev P b))) : PE X (.BoolOp .Or (e :: e2 :: es) pos) (tE (kt X Z) W (ev P (.or a b))) := (pe_or ha hb).imp fun σ H Q h => by
  obtain ⟨G, S, o, p⟩ := h
  rw [ev] at p
  refine ⟨G, S, o, p.seq fun G1 S1 x v H1 o1 st1 r1 p1 => ?_⟩
  split at p1
  · rename_i e1
    obtain rfl := dn_bool (o1.res r1 e1 tnt_le)
    exact ⟨true, rfl, by rw [if_pos rfl]; exact p1 G1 _ _ o1 (Stp.refl _ _ _ _) (Dn.bl true)⟩
  · rename_i e1
    obtain rfl := dn_bool (o1.res r1 e1 tnt_le)
    exact ⟨false, rfl, by rw [if_neg Bool.false_ne_true]; exact ⟨G1, S1, o1, p1⟩⟩
  · exact p1.elim
theorem evB_and {a b : C} {S : Ste} : evB P (.and a b) S = (ev P a S).bind fun x s => match s.res x with
    | some (.bool true) => evB P b s
    | some (.bool false) => .ok false s
    | _ => .stuck := by
  unfold evB
  rw [ev]
  cases ev P a S with
  | ok x s =>
    simp only [Res.bind]
    generalize s.res x = t
    cases t with
    | none => rfl
    | some d => cases d with
      | bool k => cases k <;> rfl
      | _ => rfl
  | er c s => rfl
  | stuck => rfl
theorem evB_or {a b : C} {S : Ste} : evB P (.or a b) S = (ev P a S).bind fun x s => match s.res x with
    | some (.bool true) => .ok true s
    | some (.bool false) => evB P b s
    | _ => .stuck := by
  unfold evB
  rw [ev]
  cases ev P a S with
  | ok x s =>
    simp only [Res.bind]
    generalize s.res x = t
    cases t with
    | none => rfl
    | some d => cases d with
      | bool k => cases k <;> rfl
      | _ => rfl
  | er c s => rfl
  | stuck => rfl
theorem sw_and {e : Expr} {es : List Expr} {e2 : Expr} {a b : C} (ha : PT X e (tT (kt X Z) W (evB P a))) (hb : PW X (.BoolOp .And (e2 :: es) pos) (tT (kt X Z) W (evB P b))) : PW X (.BoolOp .And (e :: e2 :: es) pos) (tT (kt X Z) W (evB P (.and a b))) := (pw_and ha hb).imp fun σ H Q h => by
  obtain ⟨G, S, o, p⟩ := h
  rw [evB_and] at p
  refine ⟨G, S, o, ?_⟩
  unfold evB
  cases e0 : ev P a S with
  | ok x S1 =>
    rw [e0] at p
    simp only [Res.bind] at p ⊢
    split at p
    · rename_i e1
      rw [e1]
      intro G1 v H1 o1 st1 r1
      have r1 : true = v := r1
      subst r1
      rw [if_pos rfl]
      exact ⟨G1, S1, o1, p.shift st1⟩
    · rename_i e1
      rw [e1]
      intro G1 v H1 o1 st1 r1
      have r1 : false = v := r1
      subst r1
      rw [if_neg Bool.false_ne_true]
      exact p G1 _ _ o1 st1 rfl
    · exact p.elim
  | er c S' => rw [e0] at p; exact p
  | stuck => rw [e0] at p; exact p
theorem sw_or {e : Expr} {es : List Expr} {e2 : Expr} {a b : C} (ha : PT X e (tT (kt X Z) W (evB P a))) (hb : PW X (.BoolOp .Or (e2 :: es) pos) (tT (kt X Z) W (evB P b))) : PW X (.BoolOp .Or (e :: e2 :: es) pos) (tT (kt X Z) W (evB P (.or a b))) := (pw_or ha hb).imp fun σ H Q h => by
  obtain ⟨G, S, o, p⟩ := h
  rw [evB_or] at p
  refine ⟨G, S, o, ?_⟩
  unfold evB
  cases e0 : ev P a S with
  | ok x S1 =>
    rw [e0] at p
    simp only [Res.bind] at p ⊢
    split at p
    · rename_i e1
      rw [e1]
      intro G1 v H1 o1 st1 r1
      have r1 : true = v := r1
      subst r1
      rw [if_pos rfl]
      exact p G1 _ _ o1 st1 rfl
    · rename_i e1
      rw [e1]
      intro G1 v H1 o1 st1 r1
      have r1 : false = v := r1
      subst r1
      rw [if_neg Bool.false_ne_true]
      exact ⟨G1, S1, o1, p.shift st1⟩
    · exact p.elim
  | er c S' => rw [e0] at p; exact p
  | stuck => rw [e0] at p; exact p
theorem se_ite {t x y : Expr} {c a b : C} (ht : PT X t (tT (kt X Z) W (evB P c))) (ha : PE X x (tE (kt X Z) W (ev P a))) (hb : PE X y (tE (kt X Z) W (ev P b))) : PE X (.IfExp t x y pos) (tE (kt X Z) W (ev P (.ite c a b))) := (pe_ifExp ht ha hb).imp fun σ H Q h => by
  obtain ⟨G, S, o, p⟩ := h
  rw [ev] at p
  refine ⟨G, S, o, ?_⟩
  unfold evB
  cases e0 : ev P c S with
  | ok x S1 =>
    rw [e0] at p
    simp only [Res.bind] at p ⊢
    split at p
    · rename_i e1
      rw [e1]
      intro G1 v H1 o1 st1 r1
      have r1 : true = v := r1
      subst r1
      rw [if_pos rfl]
      exact ⟨G1, S1, o1, p.shift st1⟩
    · rename_i e1
      rw [e1]
      intro G1 v H1 o1 st1 r1
      have r1 : false = v := r1
      subst r1
      rw [if_neg Bool.false_ne_true]
      exact ⟨G1, S1, o1, p.shift st1⟩
    · exact p.elim
  | er c S' => rw [e0] at p; exact p
  | stuck => rw [e0] at p; exact p
theorem sn_ite {t x y : Expr} {c a b : C} {sh : Sh} (ht : PT X t (tT (kt X Z) W (evB P c))) (ha : PE X x (tN (kt X Z) W sh (ev P a))) (hb : PE X y (tN (kt X Z) W sh (ev P b))) : PE X (.IfExp t x y pos) (tN (kt X Z) W sh (ev P (.ite c a b))) := (pe_ifExp ht ha hb).imp fun σ H Q h => by
  obtain ⟨G, S, o, p⟩ := h
  rw [ev] at p
  refine ⟨G, S, o, ?_⟩
  unfold evB
  cases e0 : ev P c S with
  | ok x S1 =>
    rw [e0] at p
    simp only [Res.bind] at p ⊢
    split at p
    · rename_i e1
      rw [e1]
      intro G1 v H1 o1 st1 r1
      have r1 : true = v := r1
      subst r1
      rw [if_pos rfl]
      exact ⟨G1, S1, o1, p.shift st1⟩
    · rename_i e1
      rw [e1]
      intro G1 v H1 o1 st1 r1
      have r1 : false = v := r1
      subst r1
      rw [if_neg Bool.false_ne_true]
      exact ⟨G1, S1, o1, p.shift st1⟩
    · exact p.elim
  | er c S' => rw [e0] at p; exact p
  | stuck => rw [e0] at p; exact p
end
end EV
end
section
set_option Elab.async false
set_option linter.all false
set_option maxRecDepth 100000
set_option maxHeartbeats 4000000
set_option autoImplicit false
/-! GD3: displays, slices, methods, changes of lists -/
namespace EV
open PySem L2
section
variable {T : Kt} {W : WX} {G G' : Gh} {S S' : Ste} {σ : St} {H H' : Hp}
theorem plus_nil : G.plus [] = G := rfl
/-- what lays a new thing ends so -/
theorem PostN.laid {Q : VK} {d : D} {sh : Sh} (o : Ok T G S σ H) (p : PostN T W sh G S σ H Q (.ok (.d d) S)) {a : Addr} {u : HO} (nt : notTup u) (n : H a = none)
    (c : OT T G.io (MM (G.plus [a])) (upd H a u) sh d (.ref a) [a]) : Q (.ref a) (upd H a u) := by
  obtain ⟨o1, k, s1⟩ := o.laid (u := u) n nt
  exact p G [a] _ _ o1 s1 k c
theorem DnL.laid (o : Ok T G S σ H) {a : Addr} {u : HO} {ds : List D} {vs : List V} (nt : notTup u) (n : H a = none) (l : DnL T.K (MM G) H ds vs) : DnL T.K (MM (G.plus [a])) (upd H a u) ds vs := DnL.mono (o.laid n nt).2.1 _ _ l
theorem OT.newL (o : Ok T G S σ H) {a : Addr} {ds : List D} {vs : List V} (n : H a = none) (l : DnL T.K (MM G) H ds vs) : OT T G.io (MM (G.plus [a])) (upd H a (.lst vs)) (.o .z) (.list ds) (.ref a) [a] :=
  .lst upd_same (OTs.ofZ (l.laid o trivial n))
/-- operations whose list is new -/
theorem PostN.op {fr : Bool} {g : List D → Option D} {xs : List Vl} {vs : List V} {Q : VK} (hfr : fr = true) (o : Ok T G S σ H) (h : VDs T G S σ H xs vs)
    (lk : ∀ ds d, g ds = some d → isC d = true → ∃ ys, d = .list ys) (p : PostN T W (.o .z) G S σ H Q ((Res.of (((S.ress xs).bind g).bind (mkv fr (tnts xs))) S).bind fun x s => match x with
      | .d x => if isC x || atom x then .ok (.d x) s else .stuck
      | _ => .stuck)) : rP T.K fr g vs H Q := by
  cases e1 : S.ress xs with
  | none => rw [e1] at p; exact p.elim
  | some ds =>
    rw [e1] at p
    cases e2 : g ds with
    | none => simp only [Option.bind, e2] at p; exact p.elim
    | some d =>
      simp only [Option.bind, e2] at p
      cases e3 : mkv fr (tnts xs) d with
      | none => rw [e3] at p; exact p.elim
      | some y =>
        rw [e3] at p
        refine ⟨Mt G (tnts xs), ds, d, fun a m => o.tr1 (Mt.mm a m), o.ressL h e1 (Nat.le_refl _), e2, fun z H' s dn nw => ?_⟩
        have vd := mkv_of o s e3 dn nw
        have hy : y = .d d ∨ ∃ w, y = .w w := by
          unfold mkv at e3
          split at e3
          · cases e3; exact .inl rfl
          · split at e3
            · cases e3; exact .inl rfl
            · split at e3
              · cases e3; exact .inr ⟨_, rfl⟩
              · cases e3
        rcases hy with rfl | ⟨w, rfl⟩
        · have vd : Dn T.K (MM G) H' true d z := vd
          have p : PostN T W (.o .z) G S σ H Q (if isC d || atom d then .ok (.d d) S else .stuck) := p
          split at p
          case isFalse => exact p.elim
          rename_i hc
          rw [Bool.or_eq_true] at hc
          rcases hc with hc | hc
          · obtain ⟨ys, rfl⟩ := lk ds d e2 hc
            obtain ⟨a, us', rfl, _, _⟩ := vd.sql
            obtain ⟨hn, c⟩ := nw hfr a rfl
            have hn := hn rfl
            obtain ⟨us, rfl, l⟩ := c ys rfl
            have l2 : DnL T.K (MM G) H ys us := by
              unfold mkv at e3
              split at e3
              · rename_i h0
                unfold Mt at l
                rw [if_pos h0] at l
                exact l
              · split at e3
                · rename_i h0 hf
                  have : flats ys = true := by
                    rw [Bool.or_eq_true, Bool.and_eq_true] at hf
                    rcases hf with hf | ⟨_, hf⟩
                    · cases hf
                    · rw [flat1] at hf; exact hf
                  exact DnL.flat (fun a m => o.tracked m) _ _ l this
                · split at e3 <;> cases e3
            exact PostN.laid o p trivial hn (OT.newL o hn l2)
          · refine p G [] z H' (by rw [plus_nil]; exact o.same s) (Stp.same o s) (by rw [plus_nil]; exact (Stp.same o s).mono) ?_
            cases d with
            | none => cases vd; exact .at rfl
            | bool b => cases vd; exact .at rfl
            | int i => cases vd; exact .at rfl
            | str x => cases vd; exact .at rfl
            | _ => cases hc
        · exact p.elim
end
section
theorem lk_add : ∀ ds d, fAdd ds = some d → isC d = true → ∃ ys, d = .list ys := fun ds d h c => by
  unfold fAdd at h
  split at h
  · cases h; cases c
  · split at h <;> cases h; cases c
  · split at h <;> cases h; exact ⟨_, rfl⟩
  · split at h <;> cases h; cases c
  · cases h
theorem lk_slice : ∀ ds d, fSlice ds = some d → isC d = true → ∃ ys, d = .list ys := fun ds d h c => by
  unfold fSlice at h
  split at h
  · split at h <;> cases h; exact ⟨_, rfl⟩
  · split at h
    · split at h <;> cases h; cases c
    · cases h
  · split at h
    · split at h <;> cases h
      cases c
    · cases h
  · cases h
theorem lk_ofList : ∀ ds d, fOfList ds = some d → isC d = true → ∃ ys, d = .list ys := fun ds d h c => by
  unfold fOfList at h
  split at h <;> cases h <;> exact ⟨_, rfl⟩
end
section
variable {X : Cx} {Z : Ct} {W : WX} {P : Env} {pos : Pos}
theorem lst_ev {as : Cs} {S : Ste} : ev P (.lst as) S = (evs P as S).bind fun xs s => if xs.length ≤ lim then (match dats xs with
    | some ds => .ok (.d (.list ds)) s
    | none => .stuck) else .stuck := by rw [ev] <;> rfl
theorem tup_ev {as : Cs} {S : Ste} : ev P (.tup as) S = (evs P as S).bind fun xs s => if xs.length ≤ lim then (match dats xs, wits xs with
    | some ds, _ => .ok (.d (.tuple ds)) s
    | none, some ds => .ok (.w (.tuple ds)) s
    | none, none => .stuck) else .stuck := by rw [ev] <;> rfl
theorem newTW {T : Kt} {G : Gh} {S : Ste} {σ : St} {H : Hp} {p : Addr} {xs : List D} {vs : List V} (M : Addr → Prop) (tr : ∀ a, M a → ∃ o, H a = some o) (h : H p = none) (l : DnL T.K M H xs vs) : Dn T.K M (upd H p (.tup vs)) true (.tuple xs) (.ref p) := newT tr h l
theorem se_tup {es : List Expr} {k : Nat} {as : Cs} (ha : PA X es (tA (kt X Z) W (evs P as))) : PE X (.Tuple es k pos) (tE (kt X Z) W (ev P (.tup as))) := (pe_tup ha).imp fun σ H Q h => by
  obtain ⟨G, S, o, p⟩ := h
  rw [tup_ev] at p
  refine ⟨G, S, o, p.seq fun G1 S1 xs vs H1 o1 st1 r1 p1 => ?_⟩
  split at p1
  case isFalse => exact p1.elim
  rename_i hl
  have ln : xs.length = vs.length := VDs.length r1
  refine ⟨by rw [← ln]; exact le_size hl, fun q hq => ?_⟩
  cases ed : dats xs with
  | some ds =>
    rw [ed] at p1
    have l := VDs.dats o1 r1 ed
    exact p1 G1 _ _ (o1.same (Same.upd hq)) (Stp.same o1 (Same.upd hq)) (show Dn X.K (MM G1) _ true (.tuple ds) (.ref q) from newT (fun a m => o1.tr1 m) hq l)
  | none =>
    rw [ed] at p1
    cases ew : wits xs with
    | none => rw [ew] at p1; exact p1.elim
    | some ds =>
      rw [ew] at p1
      have l := VDs.wits o1 r1 ew
      exact p1 G1 _ _ (o1.same (Same.upd hq)) (Stp.same o1 (Same.upd hq)) (show Dn X.K (MW G1) _ true (.tuple ds) (.ref q) from newT (fun a m => o1.tr1 (.inl m)) hq l)
theorem sn_lst {es : List Expr} {as : Cs} (ha : PA X es (tA (kt X Z) W (evs P as))) : PE X (.List es pos) (tN (kt X Z) W (.o .z) (ev P (.lst as))) := (pe_lst ha).imp fun σ H Q h => by
  obtain ⟨G, S, o, p⟩ := h
  rw [lst_ev] at p
  refine ⟨G, S, o, PostN.seq p fun G1 S1 xs vs H1 o1 st1 r1 p1 => ?_⟩
  split at p1
  case isFalse => exact p1.elim
  rename_i hl
  have ln : xs.length = vs.length := VDs.length r1
  cases ed : dats xs with
  | none => rw [ed] at p1; exact p1.elim
  | some ds =>
    rw [ed] at p1
    have l := VDs.dats o1 r1 ed
    exact ⟨by rw [← ln]; exact le_size hl, fun q hq => PostN.laid o1 p1 trivial hq (OT.newL o1 hq l)⟩
mutual
theorem flat_noRf : ∀ x : D, flat x = true → noRf x = true
  | .none, _ => rfl
  | .bool _, _ => rfl
  | .int _, _ => rfl
  | .str _, _ => rfl
  | .tuple xs, h => by
    rw [flat] at h
    rw [noRf]
    exact flats_noRf xs h
  | .list _, h => by cases h
  | .dict _, h => by cases h
theorem flats_noRf : ∀ xs : List D, flats xs = true → noRfs xs = true
  | [], _ => rfl
  | x :: r, h => by
    rw [flats, Bool.and_eq_true] at h
    rw [noRfs, flat_noRf x h.1, flats_noRf r h.2]
    rfl
end
theorem dats_noRf : ∀ {xs : List Vl} {ds : List D}, (∀ x ∈ xs, ∀ d, x = .d d → noRf d = true) → dats xs = some ds → noRfs ds = true
  | [], _, _, e => by cases e; rfl
  | x :: xs, ds, h, e => by
    unfold dats at e
    split at e
    · rename_i d ds' h1 h2
      cases e
      rw [noRfs, dats_noRf (fun y m => h y (List.mem_cons_of_mem _ m)) h2, Bool.and_true]
      cases x with
      | d y => cases h1; exact h _ List.mem_cons_self _ rfl
      | w y =>
        have h1 : (if flat y then some y else none) = some d := h1
        split at h1
        · rename_i f
          cases h1
          exact flat_noRf _ f
        · cases h1
      | _ => cases h1
    · cases e
/-- what was just made, of data, read as any value -/
theorem tN_frz {r : Ste → Res Vl} {Q : VK} {σ : St} {H : Hp} (dat : ∀ S x S', r S = .ok x S' → ∃ d, x = .d d ∧ d ≠ hole) (h : tE (kt X Z) W r σ H Q) : tN (kt X Z) W (.o .z) r σ H Q := by
  obtain ⟨G, S, o, p⟩ := h
  refine ⟨G, S, o, ?_⟩
  cases e : r S with
  | ok x S' =>
    obtain ⟨d, rfl, hh⟩ := dat S x S' e
    rw [e] at p
    intro G' E v H' o' st k ot
    exact p G' v H' o'.drop st (OT.frz (fun a m => plus_mm m) _ _ _ _ ot (OT.oz_noRf ot hh) o'.mine.2)
  | er c S' => rw [e] at p; exact p
  | stuck => rw [e] at p; exact p
theorem dat_lst {as : Cs} : ∀ S x S', ev P (.lst as) S = .ok x S' → ∃ d, x = .d d ∧ d ≠ hole := fun S x S' h => by
  rw [lst_ev] at h
  cases e : evs P as S with
  | ok xs s =>
    rw [e] at h
    have h : (if xs.length ≤ lim then (match dats xs with | some ds => Res.ok (Vl.d (.list ds)) s | none => .stuck) else .stuck) = .ok x S' := h
    split at h
    · split at h
      · cases h; exact ⟨_, rfl, fun z => by unfold hole at z; cases z⟩
      · cases h
    · cases h
  | er c s => rw [e] at h; cases h
  | stuck => rw [e] at h; cases h
theorem se_lst {es : List Expr} {as : Cs} (ha : PA X es (tA (kt X Z) W (evs P as))) : PE X (.List es pos) (tE (kt X Z) W (ev P (.lst as))) := (sn_lst ha).imp fun σ H Q h => tN_frz dat_lst h
/-! ### fresh things by operations -/
theorem own_op_ev {o : Op} {as : Cs} : ev P (.own (.op o as)) = fun S => (evs P as S).bind fun xs s => (Res.of (((s.ress xs).bind o.fn).bind (mkv o.fresh (tnts xs))) s).bind fun x s => match x with
      | .d x => if isC x || atom x then .ok (.d x) s else .stuck
      | _ => .stuck := by
  funext S
  rw [ev, op_ev]
  dsimp only
  cases evs P as S <;> rfl
theorem two_readN {sh : Sh} {a b : C} {f : List Vl → Ste → Res Vl} {σ : St} {H : Hp} {Q : VK} {k : V → V → Hp → Prop} (h : tN (kt X Z) W sh (fun S => (evs P (.cons a (.cons b .nil)) S).bind f) σ H Q)
    (fin : ∀ G S x y v u H1, Ok (kt X Z) G S σ H1 → VDs (kt X Z) G S σ H1 [x, y] [v, u] → PostN (kt X Z) W sh G S σ H1 Q (f [x, y] S) → k v u H1) : tE (kt X Z) W (ev P a) σ H fun v H1 => tE (kt X Z) W (ev P b) σ H1 fun u H2 => k v u H2 := by
  obtain ⟨G, S, o, p⟩ := h
  replace p := (show PostN (kt X Z) W sh G S σ H Q ((evs P _ S).bind f) from p)
  rw [evs_two] at p
  exact ⟨G, S, o, PostN.seq p fun G1 S1 x v H1 o1 st1 r1 p1 => PostN.held rc_V o1 r1 p1 fun G2 S2 y u H2 o2 st2 x2 r2 p2 => fin G2 S2 x y v u H2 o2 (.cons x2 (.cons r2 .nil)) p2⟩
theorem sn_bin {l r : Expr} {op : Operator} {o : Op} {a b : C} (hf : o.fresh = true) (ho : OpP X (binaryOp op) o.fresh o.fn) (lk : ∀ ds d, o.fn ds = some d → isC d = true → ∃ ys, d = .list ys) (ha : PE X l (tE (kt X Z) W (ev P a))) (hb : PE X r (tE (kt X Z) W (ev P b))) : PE X (.BinOp l op r pos) (tN (kt X Z) W (.o .z) (ev P (.own (.op o (.cons a (.cons b .nil)))))) := (pe_op ho ha hb).imp fun σ H Q h => by
  rw [own_op_ev] at h
  exact two_readN h fun G S x y v u H1 o1 vs p => PostN.op hf o1 vs lk p
theorem sn_ty {T : String} {x : Str} {p : Pos} {e : Expr} {es : List Expr} {o : Op} {as : Cs} (hf : o.fresh = true) (hc : CallP X (.type T) o.fresh o.fn) (lk : ∀ ds d, o.fn ds = some d → isC d = true → ∃ ys, d = .list ys) (hg : Gl X x) (hm : X.mg x = none) (hv : bootBuiltins x = some (.type T)) (ha : PA X (e :: es) (tA (kt X Z) W (evs P as))) (hn : x ≠ "__name__") (hdb : (x == ("__debug__" : Str)) = false)
    (he : starEach (e :: es) X.env = (false, eval e X.env) :: starEach es X.env) (hpl : (backTo pos (starEach es X.env)).any (·.1) = false) : PE X (.Call (.Name x p) (e :: es) [] pos) (tN (kt X Z) W (.o .z) (ev P (.own (.op o as)))) := (pe_callTy hc hg hm hv ha hn hdb he hpl).imp fun σ H Q h => by
  rw [own_op_ev] at h
  obtain ⟨G, S, o1, p1⟩ := h
  exact ⟨G, S, o1, PostN.seq p1 fun G2 S2 xs vs H2 o2 st2 r2 p2 => PostN.op hf o2 r2 lk p2⟩
theorem sn_bi {id : String} {x : Str} {p : Pos} {e : Expr} {es : List Expr} {o : Op} {as : Cs} (hf : o.fresh = true) (hc : CallP X (.builtin id) o.fresh o.fn) (lk : ∀ ds d, o.fn ds = some d → isC d = true → ∃ ys, d = .list ys) (hg : Gl X x) (hm : X.mg x = none) (hv : bootBuiltins x = some (.builtin id)) (ha : PA X (e :: es) (tA (kt X Z) W (evs P as))) (hn : x ≠ "__name__") (hdb : (x == ("__debug__" : Str)) = false)
    (he : starEach (e :: es) X.env = (false, eval e X.env) :: starEach es X.env) (hpl : (backTo pos (starEach es X.env)).any (·.1) = false) : PE X (.Call (.Name x p) (e :: es) [] pos) (tN (kt X Z) W (.o .z) (ev P (.own (.op o as)))) := (pe_callB hc hg hm hv ha hn hdb he hpl).imp fun σ H Q h => by
  rw [own_op_ev] at h
  obtain ⟨G, S, o1, p1⟩ := h
  exact ⟨G, S, o1, PostN.seq p1 fun G2 S2 xs vs H2 o2 st2 r2 p2 => PostN.op hf o2 r2 lk p2⟩
/-! ### slices -/
def RO : RL Vl (Option Int) := fun _ _ _ _ x v => (x = .d .none ∧ v = none) ∨ ∃ i, x = .d (.int i) ∧ v = some i
theorem po_no : PO X none (fun σ H Q => At (kt X Z) W RO (ev P (.kst .none)) σ H Q) := ⟨fun pins s σ H Q I h => by
  obtain ⟨G, S, o, p⟩ := h
  rw [ev] at p
  exact po_none.run pins s σ H Q I (p G none H o (Stp.refl _ _ _ _) (.inl ⟨rfl, rfl⟩))⟩
theorem po_so {e : Expr} {a : C} (ha : PE X e (tE (kt X Z) W (ev P a))) : PO X (some e) (fun σ H Q => At (kt X Z) W RO (ev P (.op Op.toi (.cons a .nil))) σ H Q) := ⟨fun pins s σ H Q I h => by
  refine (po_some ha).run pins s σ H Q I ?_
  rw [op_ev] at h
  obtain ⟨G, S, o, p⟩ := h
  replace p := (show Post (kt X Z) W RO G S σ H Q ((evs P _ S).bind _) from p)
  rw [evs_one'] at p
  refine ⟨G, S, o, p.seq fun G1 S1 x v H1 o1 st1 r1 p1 => ?_⟩
  obtain ⟨y, e1, p2⟩ := Post.of p1
  cases e2 : S1.ress [x] with
  | none => rw [e2] at e1; cases e1
  | some ds =>
    rw [e2] at e1
    have l := o1.ressL (.cons r1 .nil) e2 (Nat.le_refl _)
    obtain ⟨d, rfl, dn⟩ := l.one
    cases d with
    | int i =>
      cases dn
      have : mkv true (tnts [x]) (.int i) = some (.d (.int i)) := by
        unfold mkv
        split
        · rfl
        · rw [if_pos (by rfl)]
      have e1 : mkv true (tnts [x]) (.int i) = some y := e1
      rw [this] at e1
      cases e1
      exact ⟨i, rfl, p2 G1 _ _ o1 (Stp.refl _ _ _ _) (.inr ⟨i, rfl, rfl⟩)⟩
    | _ => cases e1⟩
theorem rc_O : RCong RO := fun σ G S S' H x v g h => h
theorem part_of {σ : St} {G : Gh} {S : Ste} {H : Hp} {x : Vl} {l : Option Int} (r : RO σ G S H x l) : VD (kt X Z) G S σ H x (vO l) := by
  rcases r with ⟨rfl, rfl⟩ | ⟨i, rfl, rfl⟩
  · exact Dn.non
  · exact Dn.int i
theorem evs_three {a b c : C} {S : Ste} {δ : Type} {f : List Vl → Ste → Res δ} : (evs P (.cons a (.cons b (.cons c .nil))) S).bind f = (ev P a S).bind fun x s => (x.held s fun s => evs P (.cons b (.cons c .nil)) s).bind fun yz s => f (x :: yz) s := by
  rw [evs]
  cases ev P a S with
  | ok x s =>
    show ((x.held s fun s => evs P (.cons b (.cons c .nil)) s).bind fun xs s => Res.ok (x :: xs) s).bind f = (x.held s fun s => evs P (.cons b (.cons c .nil)) s).bind fun yz s => f (x :: yz) s
    cases (x.held s fun s => evs P (.cons b (.cons c .nil)) s) <;> rfl
  | er c s => rfl
  | stuck => rfl
def RO2 : RL (List Vl) (Option Int × Option Int) := fun σ G S H xs v => ∃ x y, xs = [x, y] ∧ RO σ G S H x v.1 ∧ RO σ G S H y v.2
theorem rc_O2 : RCong RO2 := fun σ G S S' H x v g h => h
theorem se_slice {e : Expr} {lo hi : Option Expr} {p2 : Pos} {a l u : C} (ha : PE X e (tE (kt X Z) W (ev P a))) (hl : PO X lo (fun σ H Q => At (kt X Z) W RO (ev P l) σ H Q)) (hu : PO X hi (fun σ H Q => At (kt X Z) W RO (ev P u) σ H Q)) :
    PE X (.Subscript e (.Slice lo hi none p2) pos) (tE (kt X Z) W (ev P (.op Op.slice (.cons a (.cons l (.cons u .nil)))))) := (pe_slice o_slice ha hl hu).imp fun σ H Q h => by
  rw [op_ev] at h
  obtain ⟨G, S, o, p⟩ := h
  replace p := (show Post (kt X Z) W (RV (kt X Z)) G S σ H Q ((evs P _ S).bind _) from p)
  rw [evs_three] at p
  refine ⟨G, S, o, p.seq fun G1 S1 x v H1 o1 st1 r1 p1 => ?_⟩
  have := Post.held (R := RO2) (β := Option Int × Option Int) (Q' := fun q H2 => rP X.K true fSlice [v, vO q.1, vO q.2] H2 Q) rc_O2 o1 r1 p1 fun G2 S2 yz q H2 o2 st2 x2 r2 p2 => by
    obtain ⟨y, z, rfl, h1, h2⟩ := r2
    exact rP_of (g := fSlice) o2 (.cons x2 (.cons (part_of h1) (.cons (part_of h2) .nil))) p2
  obtain ⟨G2, S2, o2, p2⟩ := this
  replace p2 := (show Post (kt X Z) W RO2 G2 S2 σ _ _ (evs P (.cons l (.cons u .nil)) S2) from p2)
  rw [evs] at p2
  refine ⟨G2, S2, o2, p2.seq fun G3 S3 y lo' H3 o3 st3 r3 p3 => ?_⟩
  have hy : isPk y = false := by rcases r3 with ⟨rfl, _⟩ | ⟨i, rfl, _⟩ <;> rfl
  have e3 : (y.held S3 fun s => evs P (.cons u .nil) s) = evs P (.cons u .nil) S3 := by cases y <;> first | rfl | cases hy
  rw [e3, evs_one'] at p3
  have e4 : ((ev P u S3).bind fun x s => Res.ok [x] s).bind (fun xs s => Res.ok (y :: xs) s) = (ev P u S3).bind fun z s => Res.ok [y, z] s := by cases ev P u S3 <;> rfl
  refine ⟨G3, S3, o3, p3.seq fun G4 S4 z hi' H4 o4 st4 r4 p4 => ?_⟩
  exact p4 G4 (lo', hi') H4 o4 (Stp.refl _ _ _ _) ⟨y, z, rfl, r3, r4⟩
/-! ### methods -/
theorem meth_ev {o : Op} {a : C} {as : Cs} {S : Ste} : ev P (.meth o a as) S = (ev P a S).bind fun x s => match s.res x with
    | some d => if o.ty d then (x.held s fun s => evs P as s).bind fun xs s => Res.of (((s.ress (x :: xs)).bind o.fn).bind (mkv o.fresh (tnts (x :: xs)))) s else .stuck
    | none => .stuck := by rw [ev] <;> rfl
theorem se_meth {e e2 : Expr} {es : List Expr} {name : Str} {apos : Pos} {T id : String} {o : Op} {a : C} {as : Cs} (pa : PlainAttrs T) (slot : PySem.Slot T name id) (hty : typeOf (.builtin id) = pure (.type "method_descriptor")) (hm : MtP X id o.fresh o.fn)
    (ty : ∀ d, o.ty d = true → ∀ M H v, Dn X.K M H false d v → tyV X.K T v H) (he : PE X e (tE (kt X Z) W (ev P a))) (ha : PA X (e2 :: es) (tA (kt X Z) W (evs P as)))
    (hbase : attributeBase e name X.env (eval e X.env) = eval e X.env)
    (hfew : ((backTo pos (starEach (e2 :: es) X.env)).all (fun x => !x.1) && (backToKw pos (keywordEach [] X.env)).all (fun x => x.1.isSome)
      && decide ((e2 :: es).length + ([] : List Keyword).length + (if ([] : List Keyword).isEmpty then 0 else 1) < 30)) = true)
    (hline : (apos.endLine == pos.line) = true) (hs : starEach (e2 :: es) X.env = (false, eval e2 X.env) :: starEach es X.env) (hplain : (backTo pos (starEach es X.env)).any (·.1) = false) :
    PE X (.Call (.Attribute e name apos) (e2 :: es) [] pos) (tE (kt X Z) W (ev P (.meth o a as))) := (pe_bm pa slot hty hm he ha hbase hfew hline hs hplain).imp fun σ H Q h => by
  obtain ⟨G, S, ok, p⟩ := h
  rw [meth_ev] at p
  refine ⟨G, S, ok, p.seq fun G1 S1 x v H1 o1 st1 r1 p1 => ?_⟩
  cases ed : S1.res x with
  | none => rw [ed] at p1; exact p1.elim
  | some d =>
    rw [ed] at p1
    dsimp only at p1
    split at p1
    · rename_i ht
      exact ⟨ty d ht _ _ _ (o1.res r1 ed tnt_le), p1.held rc_Vs o1 r1 fun G2 S2 xs vs H2 o2 st2 x2 r2 p2 => rP_of o2 (.cons x2 r2) p2⟩
    · exact p1.elim
theorem se_meth0 {e : Expr} {name : Str} {apos : Pos} {T id : String} {o : Op} {a : C} (pa : PlainAttrs T) (slot : PySem.Slot T name id) (hty : typeOf (.builtin id) = pure (.type "method_descriptor")) (hm : MtP X id o.fresh o.fn)
    (ty : ∀ d, o.ty d = true → ∀ M H v, Dn X.K M H false d v → tyV X.K T v H) (he : PE X e (tE (kt X Z) W (ev P a)))
    (hbase : attributeBase e name X.env (eval e X.env) = eval e X.env) (hline : (apos.endLine == pos.line) = true) :
    PE X (.Call (.Attribute e name apos) [] [] pos) (tE (kt X Z) W (ev P (.meth o a .nil))) := (pe_bm0 pa slot hty hm he hbase hline).imp fun σ H Q h => by
  obtain ⟨G, S, ok, p⟩ := h
  rw [meth_ev] at p
  refine ⟨G, S, ok, p.seq fun G1 S1 x v H1 o1 st1 r1 p1 => ?_⟩
  cases ed : S1.res x with
  | none => rw [ed] at p1; exact p1.elim
  | some d =>
    rw [ed] at p1
    dsimp only at p1
    split at p1
    · rename_i ht
      rw [held_nil] at p1
      exact ⟨ty d ht _ _ _ (o1.res r1 ed tnt_le), rP_of o1 (.cons r1 .nil) p1⟩
    · exact p1.elim
end
section
/-- a container of data at a -/
def Cont (K : PySem.W.Frag) (M : Addr → Prop) (H : Hp) (a : Addr) : D → Prop
  | .list xs => ∃ vs, H a = some (.lst vs) ∧ DnL K M H xs vs
  | .dict kvs => ∃ vs, DK H a kvs vs ∧ DnL K M H (kvs.map (·.2)) vs
  | _ => False
theorem Keeps.at {M : Addr → Prop} {H : Hp} {a : Addr} {u : HO} (m : M a) : Keeps M H M (L2.upd H a u) := fun b w e n => ⟨by rw [upd_ne (fun z => n (by rw [z]; exact m))]; exact e, n⟩
end
section
variable {X : Cx}
/-! ### lists are changed -/
def MuP (X : Cx) (id : String) (m : Mu) : Prop := MtR X id fun x xs H Q => ∃ (M : Addr → Prop) (a : Addr) (d : D) (ds : List D) (y d' : D), x = .ref a ∧ M a ∧ Cont X.K M H a d ∧ DnL X.K M H ds xs ∧ m.fn d ds = some (y, d') ∧
  ∀ u v, Cont X.K M (upd H a u) a d' → Dn X.K M (upd H a u) true y v → Q v (upd H a u)
theorem u_app : MuP X "list.append" Mu.app := by
  intro pins s σ H x xs v us Q I rx r h
  obtain ⟨M, a, d, ds, y, d', rfl, m, c, l, e, q⟩ := h
  replace e : mApp d ds = some (y, d') := e
  unfold mApp at e
  split at e
  · rename_i ys z
    split at e
    · rename_i hl
      cases e
      obtain ⟨vs, e1, l1⟩ := c
      cases l with
      | cons dz r2 =>
        cases r2
        exact mt_append pins s σ H _ _ v us Q I rx r ⟨a, vs, _, rfl, rfl, e1, by rw [← l1.length]; exact Nat.lt_of_lt_of_le hl (by decide), q _ _ ⟨_, upd_same, DnL.mono (Keeps.at m) _ _ (l1.append (.cons dz .nil))⟩ .non⟩
    · cases e
  · cases e
theorem u_pop : MuP X "list.pop" Mu.pop := by
  intro pins s σ H x xs v us Q I rx r h
  obtain ⟨M, a, d, ds, y, d', rfl, m, c, l, e, q⟩ := h
  replace e : mPop d ds = some (y, d') := e
  unfold mPop at e
  split at e
  · rename_i zs
    obtain ⟨vs, e1, l1⟩ := c
    cases l
    split at e
    · rename_i z eg
      cases e
      obtain ⟨w, e2, dw⟩ := l1.get eg
      rw [l1.length] at e2
      exact mt_pop pins s σ H _ _ v us Q I rx r ⟨a, vs, w, rfl, rfl, e1, e2, q _ _ ⟨_, upd_same, DnL.mono (Keeps.at m) _ _ l1.dropLast⟩ (Dn.mono (Keeps.at m) _ _ dw)⟩
    · cases e
  · cases e
theorem u_popAt : MuP X "list.pop" Mu.popAt := by
  intro pins s σ H x xs v us Q I rx r h
  obtain ⟨M, a, d, ds, y, d', rfl, m, c, l, e, q⟩ := h
  replace e : mPopAt d ds = some (y, d') := e
  unfold mPopAt at e
  split at e
  · rename_i zs i
    split at e
    · rename_i hi
      obtain ⟨vs, e1, l1⟩ := c
      cases l with
      | cons di r2 =>
        cases r2
        cases di
        split at e
        · rename_i z eg
          cases e
          obtain ⟨w, e2, dw⟩ := l1.get eg
          have hlt : i.toNat < vs.length := (List.getElem?_eq_some_iff.mp e2).1
          exact mt_popAt pins s σ H _ _ v us Q I rx r ⟨a, vs, i, i.toNat, w, rfl, rfl, e1, by omega, by omega, seqIndex_of hi.1 (by omega), e2, q _ _ ⟨_, upd_same, DnL.mono (Keeps.at m) _ _ (l1.eraseIdx _)⟩ (Dn.mono (Keeps.at m) _ _ dw)⟩
        · cases e
    · cases e
  · cases e
theorem u_rev : MuP X "list.reverse" Mu.rev := by
  intro pins s σ H x xs v us Q I rx r h
  obtain ⟨M, a, d, ds, y, d', rfl, m, c, l, e, q⟩ := h
  replace e : mRev d ds = some (y, d') := e
  unfold mRev at e
  split at e
  · rename_i zs
    cases e
    obtain ⟨vs, e1, l1⟩ := c
    cases l
    exact mt_reverse pins s σ H _ _ v us Q I rx r ⟨a, vs, rfl, rfl, e1, q _ _ ⟨_, upd_same, DnL.mono (Keeps.at m) _ _ l1.reverse⟩ .non⟩
  · cases e
theorem u_clr : MuP X "list.clear" Mu.clr := by
  intro pins s σ H x xs v us Q I rx r h
  obtain ⟨M, a, d, ds, y, d', rfl, m, c, l, e, q⟩ := h
  replace e : mClr d ds = some (y, d') := e
  unfold mClr at e
  split at e
  · rename_i zs
    cases e
    obtain ⟨vs, e1, l1⟩ := c
    cases l
    exact mt_clear pins s σ H _ _ v us Q I rx r ⟨a, vs, rfl, rfl, e1, q _ _ ⟨_, upd_same, .nil⟩ .non⟩
  · cases e
end
end EV
end
section
set_option Elab.async false
set_option linter.all false
set_option maxRecDepth 100000
set_option maxHeartbeats 4000000
set_option autoImplicit false
/-! GD4: changes of containers; new shared things -/
namespace EV
open PySem L2
section
variable {T : Kt} {G G' : Gh} {S S' : Ste} {σ σ' : St} {H H' : Hp} {E : List Addr}
theorem StpE.stp (c : StpE G [] S σ H G' S' σ' H') : Stp G S σ H G' S' σ' H' := Stp.close (Stp.refl _ _ _ _) (Keeps.refl _ _) c
theorem mm_plus_nil : MM (G.plus []) = MM G := rfl
theorem OT.cont {io : List Addr} {M : Addr → Prop} {x : D} {v : V} {F : List Addr} (h : OT T io M H (.o .z) x v F) (c : isC x = true) (n : x ≠ EV.hole) : ∃ a, v = .ref a ∧ F = [a] ∧ Cont T.K M H a x := by
  cases h with
  | «at» e => cases x <;> first | (cases c; done) | (cases e; done)
  | hole => exact (n rfl).elim
  | lst e r =>
    obtain ⟨l, rfl⟩ := OTs.z r
    exact ⟨_, rfl, rfl, _, e, l⟩
  | tup e q r => cases c
  | dct e r =>
    obtain ⟨l, rfl⟩ := OTs.z (by simpa using r)
    exact ⟨_, rfl, rfl, _, e, l⟩
theorem Cont.ot {io : List Addr} {M : Addr → Prop} {x : D} {a : Addr} (h : Cont T.K M H a x) : OT T io M H (.o .z) x (.ref a) [a] := by
  cases x with
  | list xs => obtain ⟨vs, e, l⟩ := h; exact .lst e (OTs.ofZ l)
  | dict kvs =>
    obtain ⟨vs, e, l⟩ := h
    have := OTs.ofZ (T := T) (io := io) l
    rw [List.length_map] at this
    exact .dct e this
  | _ => exact h.elim
theorem parts_z (o : Ok T G S σ H) : ∀ {xs : List Vl} {vs : List V} {ds : List D}, VDs T G S σ H xs vs → parts .z xs = some ds → DnL T.K (MM G) H ds vs
  | _, _, _, .nil, e => by cases e; exact .nil
  | x :: xs, v :: vs, ds, .cons a r, e => by
    unfold parts at e
    split at e
    · rename_i d ds' h1 h2
      cases e
      have h1 : x.dat = some d := by cases x <;> exact h1
      exact .cons (dat_dn o a h1) (parts_z o r h2)
    · cases e
/-- what is just made is shared from now on -/
theorem Ok.cell (o : Ok T (G.plus E) S σ H) {sh : Sh} {x : D} {p : Addr} (ot : OT T G.io (MM (G.plus E)) H sh x (.ref p) E) :
    let G' : Gh := { io := G.io ++ [p], fs := G.fs, fh := fun n => if n = S.hp.length then E else G.fh n, tm := G.tm, A := G.A }
    let S' : Ste := { S with hp := S.hp ++ [.live sh x] }
    Ok T G' S' σ H ∧ StpE G E S σ H G' S' σ H ∧ (∀ a, MM G' a → MM (G.plus E) a) ∧ ∀ a, MM (G.plus E) a → MM G' a := by
  intro G' S'
  have hl : G.io.length = S.hp.length := o.hlen
  have fh0 : G.fh S.hp.length = [] := o.no (.c S.hp.length) (by simp [Ste.get])
  have fpc : ∀ t, t ≠ Rt.c S.hp.length → G'.fp t = G.fp t := fun t ne => by
    cases t with
    | s i => rfl
    | c n =>
      have : n ≠ S.hp.length := fun z => ne (by rw [z])
      show (if n = S.hp.length then E else G.fh n) = _
      rw [if_neg this]
      rfl
  have fps : G'.fp (.c S.hp.length) = E := by show (if S.hp.length = S.hp.length then E else _) = _; rw [if_pos rfl]
  have px : ∀ (t : Option Rt) (a : Addr), a ∈ G'.fpx t → (t ≠ some (.c S.hp.length) ∧ a ∈ G.fpx t) ∨ (t = some (.c S.hp.length) ∧ a ∈ E) := fun t a m => by
    cases t with
    | none => exact .inl ⟨fun z => (nomatch z), m⟩
    | some t =>
      by_cases ht : t = .c S.hp.length
      · subst ht
        have m : a ∈ G'.fp (.c S.hp.length) := m
        rw [fps] at m
        exact .inr ⟨rfl, m⟩
      · have m : a ∈ G'.fp t := m
        rw [fpc t ht] at m
        exact .inl ⟨fun z => ht (by cases z; rfl), m⟩
  have w : ∀ a, MW G' a → MW (G.plus E) a := fun a ⟨t, m⟩ => by
    rcases px t a m with ⟨_, m⟩ | ⟨_, m⟩
    · exact plus_mw ⟨t, m⟩
    · exact ⟨none, List.mem_append_left _ m⟩
  have mm : ∀ a, MM G' a → MM (G.plus E) a := fun a m => m.elim (fun m => .inl (w a m)) .inr
  have mm2 : ∀ a, MM (G.plus E) a → MM G' a := fun a m => by
    rcases m with ⟨t, m⟩ | m
    · cases t with
      | none =>
        rcases List.mem_append.mp m with m | m
        · exact .inl ⟨some (.c S.hp.length), by show a ∈ G'.fp (.c S.hp.length); rw [fps]; exact m⟩
        · exact .inl ⟨none, m⟩
      | some t =>
        by_cases ht : t = .c S.hp.length
        · subst ht
          rw [show (G.plus E).fpx (some (.c S.hp.length)) = [] from fh0] at m
          exact nomatch m
        · exact .inl ⟨some t, by show a ∈ G'.fp t; rw [fpc t ht]; exact m⟩
    · exact .inr m
  have get1 : ∀ t, t ≠ Rt.c S.hp.length → S'.get t = S.get t := fun t ne => by
    cases t with
    | s i => rfl
    | c n =>
      have : n ≠ S.hp.length := fun z => ne (by rw [z])
      unfold Ste.get
      dsimp only [S']
      by_cases hn : n < S.hp.length
      · rw [List.getElem?_append_left hn]
      · rw [List.getElem?_eq_none (by simp; omega), List.getElem?_eq_none (by omega)]
  have get2 : S'.get (.c S.hp.length) = some (sh, x) := by
    unfold Ste.get
    dsimp only [S']
    simp
  have rv : ∀ t v, rootV G σ t = some v → rootV G' σ t = some v := fun t v e => by
    cases t with
    | s i => exact e
    | c n =>
      have e : Option.map V.ref (G.io[n]?) = some v := e
      show Option.map V.ref ((G.io ++ [p])[n]?) = some v
      cases h : G.io[n]? with
      | none => rw [h] at e; cases e
      | some a =>
        rw [List.getElem?_append_left (List.getElem?_eq_some_iff.mp h).1, h]
        rw [h] at e
        exact e
  have kp : Keeps (MM (G.plus E)) H (MM G') H := fun a u e n => ⟨e, fun z => n (mm a z)⟩
  have kw : Keeps (MW (G.plus E)) H (MW G') H := fun a u e n => ⟨e, fun z => n (w a z)⟩
  have dA : ∀ (t : Option Rt) (a : Addr), a ∈ G'.fpx t → ¬ G'.A a := fun t a m z => by
    rcases px t a m with ⟨_, m⟩ | ⟨_, m⟩
    · exact o.dA t a (plus_fpx m) z
    · exact o.dA none a (List.mem_append_left _ m) z
  refine ⟨⟨o.len, by simp [G', S', hl], fun i y e => ?_, fun t s1 y e => ?_, fun t e => ?_, fun t => ?_, fun t t' a m m' => ?_, dA, fun a m => ?_⟩, ⟨⟨[p], rfl⟩, rfl, kp, dA, ⟨rfl, fun _ _ => rfl⟩, fun _ _ => rfl, fun t q e => ?_, fun n e => ?_, fun a u e => ⟨u, e⟩⟩, mm, mm2⟩
  · obtain ⟨v, h1, h2⟩ := o.val i y e
    refine ⟨v, h1, ?_⟩
    cases y with
    | d y => exact Dn.mono kp _ _ h2
    | r n =>
      obtain ⟨a, h3, h4⟩ := h2
      refine ⟨a, ?_, h4⟩
      have h3 : G.io[n]? = some a := h3
      show (G.io ++ [p])[n]? = _
      rw [List.getElem?_append_left (List.getElem?_eq_some_iff.mp h3).1]
      exact h3
    | w y => exact Dn.mono kw _ _ h2
    | k y => exact h2
    | pk t p => exact h2
  · by_cases ht : t = .c S.hp.length
    · subst ht
      rw [get2] at e
      cases e
      refine ⟨.ref p, ?_, by rw [fps]; exact OT.mono kp ⟨[p], rfl⟩ _ _ _ _ ot fun _ _ => rfl⟩
      show Option.map V.ref ((G.io ++ [p])[S.hp.length]?) = _
      rw [← hl]
      simp
    · rw [get1 t ht] at e
      obtain ⟨v, h1, h2⟩ := o.own t s1 y e
      refine ⟨v, rv t v (by rw [← rootV_plus (E := E)]; exact h1), ?_⟩
      rw [fpc t ht]
      rw [plus_fp] at h2
      exact OT.mono kp ⟨[p], rfl⟩ _ _ _ _ h2 fun _ _ => rfl
  · by_cases ht : t = .c S.hp.length
    · subst ht; rw [get2] at e; cases e
    · rw [get1 t ht] at e
      rw [fpc t ht]
      exact o.no t e
  · cases t with
    | none => exact (List.nodup_append.mp (o.nd none)).2.1
    | some t =>
      show (G'.fp t).Nodup
      by_cases ht : t = .c S.hp.length
      · subst ht; rw [fps]; exact o.mine.1
      · rw [fpc t ht]; exact o.nd (some t)
  · rcases px t a m with ⟨n1, c1⟩ | ⟨rfl, c1⟩ <;> rcases px t' a m' with ⟨n2, c2⟩ | ⟨rfl, c2⟩
    · exact o.dj t t' a (plus_fpx c1) (plus_fpx c2)
    · exact (o.mine.2 a c2 (.inl ⟨t, c1⟩)).elim
    · exact (o.mine.2 a c1 (.inl ⟨t', c2⟩)).elim
    · rfl
  · exact o.tr a (m.imp (fun m => List.mem_append_right _ m) id)
  · have ht : t ≠ .c S.hp.length := fun z => by
      subst z
      simp [Ste.lkd] at e
    refine ⟨?_, ?_, fpc t ht, fun _ _ => rfl⟩
    · cases t with
      | s i => exact e
      | c n =>
        unfold Ste.lkd at e ⊢
        dsimp only [S'] at e ⊢
        have hn : n < S.hp.length := by
          rcases Nat.lt_or_ge n S.hp.length with h | h
          · exact h
          · rw [List.getElem?_eq_none h] at e; cases e
        rw [List.getElem?_append_left hn]
        exact e
    · cases hr : rootV G σ t with
      | some v => exact rv t v hr
      | none =>
        obtain ⟨v, h1, _⟩ := o.own t q.1 q.2 (lkd_get e)
        rw [rootV_plus, hr] at h1
        cases h1
  · show (S.hp ++ [_])[n]? = _
    rw [List.getElem?_append_left (List.getElem?_eq_some_iff.mp e).1]
    exact e
end
section
variable {X : Cx} {Z : Ct} {W : WX} {P : Env} {pos : Pos}
theorem cell_ev {sh : Sh} {a : C} {S : Ste} : ev P (.cell sh a) S = (ev P a S).bind fun x s => match x with
    | .d x => if okC x then .ok (.r s.hp.length) { s with hp := s.hp ++ [.live sh x] } else .stuck
    | _ => .stuck := by rw [ev] <;> rfl
theorem OT.ref_of {T : Kt} {io : List Addr} {M : Addr → Prop} {H : Hp} {s : Sh} {x : D} {v : V} {F : List Addr} (h : OT T io M H (.o s) x v F) (c : okC x = true) : ∃ p, v = .ref p := by
  cases h with
  | «at» e => cases x <;> first | (cases c; done) | (cases e; done)
  | hole => cases c
  | lst e r => exact ⟨_, rfl⟩
  | tup e q r => exact ⟨_, rfl⟩
  | dct e r => exact ⟨_, rfl⟩
theorem se_cell {s : Sh} {e : Expr} {a : C} (ha : PE X e (tN (kt X Z) W (.o s) (ev P a))) : PE X e (tE (kt X Z) W (ev P (.cell (.o s) a))) := ha.imp fun σ H Q h => by
  obtain ⟨G, S, o, p⟩ := h
  rw [cell_ev] at p
  refine ⟨G, S, o, ?_⟩
  cases ea : ev P a S with
  | ok x S1 =>
    rw [ea] at p
    cases x with
    | d d =>
      have p : Post (kt X Z) W (RV (kt X Z)) G S σ H Q (if okC d then .ok (.r S1.hp.length) { S1 with hp := S1.hp ++ [.live (.o s) d] } else .stuck) := p
      intro G1 E v H1 o1 st1 k1 ot
      split at p
      case isFalse => exact p.elim
      rename_i hc
      obtain ⟨q, rfl⟩ := OT.ref_of ot hc
      obtain ⟨o2, c, _, _⟩ := Ok.cell o1 ot
      refine p _ _ _ o2 (Stp.close st1 k1 c) ⟨q, ?_, rfl⟩
      show (G1.io ++ [q])[S1.hp.length]? = _
      have : G1.io.length = S1.hp.length := o1.hlen
      rw [← this]
      simp
    | _ => exact p.elim
  | er c S1 => rw [ea] at p; exact p
  | stuck => rw [ea] at p; exact p
theorem mut_ev {p : Plc} {sh : Sh} {m : Mu} {as : Cs} {S : Ste} : ev P (.mut p sh m as) S = (evP P p S).bind fun l s => match l.in with
    | some (t, q) => (match s.at t q with
      | some (.o _, y0) => if m.ty y0 then (s.held t fun s => evs P as s).bind fun xs s => (if s.free t then (match s.get t, s.at t q, parts sh xs with
        | some (_, x), some (.o sh', y), some ds => if sh' = sh then (match m.fn y ds with
          | some (u, y') => (if sh = .z then .ok (.d u) (s.putR t (setAt x q y')) else .stuck)
          | none => .stuck) else .stuck
        | _, _, _ => .stuck) else .stuck) else .stuck
      | _ => .stuck)
    | none => .stuck := by rw [ev] <;> rfl
/-- what a change of a container of data comes to -/
theorem mut_fin {id : String} {m : Mu} (hC : ∀ y ds r, m.fn y ds = some r → isC y = true ∧ isC r.2 = true ∧ y ≠ hole) {r : V → List V → Hp → VK → Prop}
    (hr : ∀ x xs H Q, (∃ (M : Addr → Prop) (a : Addr) (d : D) (ds : List D) (y d' : D), x = .ref a ∧ M a ∧ Cont X.K M H a d ∧ DnL X.K M H ds xs ∧ m.fn d ds = some (y, d') ∧ ∀ u v, Cont X.K M (upd H a u) a d' → Dn X.K M (upd H a u) true y v → Q v (upd H a u)) → r x xs H Q)
    {G : Gh} {S : Ste} {σ : St} {H : Hp} {Q : VK} {t : Rt} {q : List Nat} {v : V} {xs : List Vl} {vs : List V} (o : Ok (kt X Z) G S σ H) (vd : VD (kt X Z) G S σ H (.pk t q) v) (r2 : VDs (kt X Z) G S σ H xs vs)
    (p : Post (kt X Z) W (RV (kt X Z)) G S σ H Q (if S.free t then (match S.get t, S.at t q, parts .z xs with
        | some (_, x), some (.o sh', y), some ds => if sh' = .z then (match m.fn y ds with
          | some (u, y') => (if Sh.z = .z then .ok (.d u) (S.putR t (setAt x q y')) else .stuck)
          | none => .stuck) else .stuck
        | _, _, _ => .stuck) else .stuck)) : r v vs H Q := by
  split at p
  case isFalse => exact p.elim
  rename_i hf
  cases eg : S.get t with
  | none => rw [eg] at p; exact p.elim
  | some g =>
    obtain ⟨sh, x⟩ := g
    cases ea : S.at t q with
    | none => rw [eg, ea] at p; exact p.elim
    | some g =>
      obtain ⟨s', y⟩ := g
      cases ep : parts .z xs with
      | none => rw [eg, ea, ep] at p; cases s' <;> exact p.elim
      | some ds =>
        rw [eg, ea, ep] at p
        cases s' with
        | o sh' =>
          dsimp only at p
          split at p
          case isFalse => exact p.elim
          rename_i hs
          subst hs
          cases em : m.fn y ds with
          | none => rw [em] at p; exact p.elim
          | some uy =>
            obtain ⟨u, y'⟩ := uy
            rw [em] at p
            simp only [if_true] at p
            have en : nav sh x q = some (.o .z, y) := by
              unfold Ste.at at ea
              rw [eg] at ea
              exact ea
            obtain ⟨v0, u0, F2, w1, w2, w3, w4, w5, w6⟩ := Ok.wr (E := []) (G := G) o hf eg en
            obtain ⟨v0', q0, z1, z2, _⟩ := vd
            rw [w1] at z1
            cases z1
            rw [w2] at z2
            cases z2
            obtain ⟨c1, c2, c3⟩ := hC _ _ _ em
            obtain ⟨a, rfl, rfl, ct⟩ := OT.cont w3 c1 c3
            refine hr _ _ _ _ ⟨MM G, a, y, ds, u, y', rfl, (w5 a (by simp)).2, ct, parts_z o r2 ep, em, fun uu w c dn => ?_⟩
            obtain ⟨G', o', stp, kk, io', less⟩ := w6 (upd H a uu) y' [a] [] (fun b hb => upd_ne fun z => hb (by simp [z])) (fun b hb => by
                rw [List.mem_singleton.mp hb]; exact ⟨_, upd_same⟩) (fun b hb => hb) (by simp) (fun b hb => nomatch hb) (Cont.ot c)
            exact p G' w _ o' stp.stp (Dn.anti less _ _ _ dn)
        | _ => exact p.elim
theorem se_mut {e e2 : Expr} {es : List Expr} {name : Str} {apos : Pos} {T id : String} {m : Mu} {p : Plc} {as : Cs} (pa : PlainAttrs T) (slot : PySem.Slot T name id) (hty : typeOf (.builtin id) = pure (.type "method_descriptor")) (hm : MuP X id m) (hC : ∀ y ds r, m.fn y ds = some r → isC y = true ∧ isC r.2 = true ∧ y ≠ hole)
    (ty : ∀ d s, m.ty d = true → ∀ io M H v F, OT (kt X Z) io M H (.o s) d v F → tyV X.K T v H) (he : PE X e (tP (kt X Z) W (evP P p))) (ha : PA X (e2 :: es) (tA (kt X Z) W (evs P as)))
    (hbase : attributeBase e name X.env (eval e X.env) = eval e X.env)
    (hfew : ((backTo pos (starEach (e2 :: es) X.env)).all (fun x => !x.1) && (backToKw pos (keywordEach [] X.env)).all (fun x => x.1.isSome)
      && decide ((e2 :: es).length + ([] : List Keyword).length + (if ([] : List Keyword).isEmpty then 0 else 1) < 30)) = true)
    (hline : (apos.endLine == pos.line) = true) (hs : starEach (e2 :: es) X.env = (false, eval e2 X.env) :: starEach es X.env) (hplain : (backTo pos (starEach es X.env)).any (·.1) = false) :
    PE X (.Call (.Attribute e name apos) (e2 :: es) [] pos) (tE (kt X Z) W (ev P (.mut p .z m as))) := (pe_bm pa slot hty hm he ha hbase hfew hline hs hplain).imp fun σ H Q h => by
  obtain ⟨G, S, ok, q⟩ := h
  rw [mut_ev] at q
  refine ⟨G, S, ok, q.seq fun G1 S1 l v H1 o1 st1 r1 p1 => ?_⟩
  cases e1 : l.in with
  | none => rw [e1] at p1; exact p1.elim
  | some tq =>
    obtain ⟨t, q⟩ := tq
    rw [e1] at p1
    dsimp only at p1
    cases e3 : S1.at t q with
    | none => rw [e3] at p1; exact p1.elim
    | some r =>
      obtain ⟨sh, y0⟩ := r
      rw [e3] at p1
      cases sh with
      | o s0 =>
        dsimp only at p1
        split at p1
        case isFalse => exact p1.elim
        rename_i ht
        have vd := in_vd r1 e1 e3
        obtain ⟨F, _, ot⟩ := o1.pk vd e3
        refine ⟨ty y0 s0 ht _ _ _ _ _ ot, ?_⟩
        exact Post.held (x := .pk t q) rc_Vs o1 vd p1 fun G2 S2 xs vs H2 o2 st2 x2 r2 p2 => mut_fin (m := m) (r := fun x xs H Q => ∃ (M : Addr → Prop) (a : Addr) (d : D) (ds : List D) (y d' : D), x = .ref a ∧ M a ∧ Cont X.K M H a d ∧ DnL X.K M H ds xs ∧ m.fn d ds = some (y, d') ∧ ∀ u v, Cont X.K M (upd H a u) a d' → Dn X.K M (upd H a u) true y v → Q v (upd H a u)) (id := id) hC (fun _ _ _ _ h => h) o2 x2 r2 p2
      | _ => exact p1.elim
theorem se_mut0 {e : Expr} {name : Str} {apos : Pos} {T id : String} {m : Mu} {p : Plc} (pa : PlainAttrs T) (slot : PySem.Slot T name id) (hty : typeOf (.builtin id) = pure (.type "method_descriptor")) (hm : MuP X id m) (hC : ∀ y ds r, m.fn y ds = some r → isC y = true ∧ isC r.2 = true ∧ y ≠ hole)
    (ty : ∀ d s, m.ty d = true → ∀ io M H v F, OT (kt X Z) io M H (.o s) d v F → tyV X.K T v H) (he : PE X e (tP (kt X Z) W (evP P p)))
    (hbase : attributeBase e name X.env (eval e X.env) = eval e X.env) (hline : (apos.endLine == pos.line) = true) :
    PE X (.Call (.Attribute e name apos) [] [] pos) (tE (kt X Z) W (ev P (.mut p .z m .nil))) := (pe_bm0 pa slot hty hm he hbase hline).imp fun σ H Q h => by
  obtain ⟨G, S, ok, q⟩ := h
  rw [mut_ev] at q
  refine ⟨G, S, ok, q.seq fun G1 S1 l v H1 o1 st1 r1 p1 => ?_⟩
  cases e1 : l.in with
  | none => rw [e1] at p1; exact p1.elim
  | some tq =>
    obtain ⟨t, q⟩ := tq
    rw [e1] at p1
    dsimp only at p1
    cases e3 : S1.at t q with
    | none => rw [e3] at p1; exact p1.elim
    | some r =>
      obtain ⟨sh, y0⟩ := r
      rw [e3] at p1
      cases sh with
      | o s0 =>
        dsimp only at p1
        split at p1
        case isFalse => exact p1.elim
        rename_i ht
        have vd := in_vd r1 e1 e3
        obtain ⟨F, _, ot⟩ := o1.pk vd e3
        refine ⟨ty y0 s0 ht _ _ _ _ _ ot, ?_⟩
        have e0 : (S1.held t fun s => evs P .nil s) = .ok [] S1 := held_nil (x := .pk t q)
        rw [e0] at p1
        exact mut_fin (m := m) (r := fun x xs H Q => ∃ (M : Addr → Prop) (a : Addr) (d : D) (ds : List D) (y d' : D), x = .ref a ∧ M a ∧ Cont X.K M H a d ∧ DnL X.K M H ds xs ∧ m.fn d ds = some (y, d') ∧ ∀ u v, Cont X.K M (upd H a u) a d' → Dn X.K M (upd H a u) true y v → Q v (upd H a u)) (id := id) hC (fun _ _ _ _ h => h) o1 vd .nil p1
      | _ => exact p1.elim
theorem ty_lst : ∀ d s, isLst d = true → ∀ io M H v F, OT (kt X Z) io M H (.o s) d v F → tyV X.K "list" v H := fun d s h io M H v F ot => by
  cases d with
  | list xs =>
    cases ot with
    | «at» e => cases e
    | lst e r => exact .inl ⟨rfl, _, SqL.of e⟩
  | _ => cases h
end
end EV
end
section
set_option Elab.async false
set_option linter.all false
set_option maxRecDepth 100000
set_option maxHeartbeats 4000000
set_option autoImplicit false
/-! GE: calls of defs and methods; new instances -/
namespace EV
open PySem L2
def isHid : List Vl → Nat → Bool
  | [], _ => false
  | .pk (.c m) _ :: r, n => (m == n) || isHid r n
  | _ :: r, n => isHid r n
theorem hide_get : ∀ (xs : List Vl) (h : List Cell) (n : Nat), (hide xs h)[n]? = if isHid xs n then (h[n]?).map (fun _ => Cell.hid) else h[n]?
  | [], h, n => rfl
  | x :: r, h, n => by
    have ih := hide_get r h n
    have len : ∀ r : List Vl, (hide r h).length = h.length := fun r => by
      induction r with
      | nil => rfl
      | cons y t ih =>
        cases y with
        | pk u p =>
          cases u with
          | s i => exact ih
          | c m => show ((hide t h).set m Cell.hid).length = _; rw [List.length_set]; exact ih
        | _ => exact ih
    cases x with
    | pk u p =>
      cases u with
      | s i => exact ih
      | c m =>
        show ((hide r h).set m Cell.hid)[n]? = if ((m == n) || isHid r n) then _ else _
        by_cases e : m = n
        · subst e
          simp only [beq_self_eq_true, Bool.true_or, if_true]
          by_cases hm : m < h.length
          · rw [List.getElem?_set_self (by rw [len]; exact hm), List.getElem?_eq_getElem hm]; rfl
          · rw [List.getElem?_eq_none (by rw [List.length_set, len]; omega), List.getElem?_eq_none (by omega)]; rfl
        · have : (m == n) = false := by simpa using e
          rw [List.getElem?_set_ne e, ih, this, Bool.false_or]
    | _ => exact ih
theorem hide_len : ∀ (xs : List Vl) (h : List Cell), (hide xs h).length = h.length
  | [], h => rfl
  | x :: r, h => by
    cases x with
    | pk u p =>
      cases u with
      | s i => exact hide_len r h
      | c m => show ((hide r h).set m Cell.hid).length = _; rw [List.length_set]; exact hide_len r h
    | _ => exact hide_len r h
theorem unhide_len (h0 : List Cell) : ∀ (xs : List Vl) (h : List Cell), (unhide h0 xs h).length = h.length
  | [], h => rfl
  | x :: r, h => by
    cases x with
    | pk u p =>
      cases u with
      | s i => exact unhide_len h0 r h
      | c m =>
        show (match h0[m]? with | some x => (unhide h0 r h).set m x | none => unhide h0 r h).length = _
        cases h0[m]? with
        | none => exact unhide_len h0 r h
        | some y => dsimp only; rw [List.length_set]; exact unhide_len h0 r h
    | _ => exact unhide_len h0 r h
theorem unhide_get (h0 : List Cell) : ∀ (xs : List Vl) (h : List Cell) (n : Nat), n < h.length → (unhide h0 xs h)[n]? = if isHid xs n && decide (n < h0.length) then h0[n]? else h[n]?
  | [], h, n, _ => rfl
  | x :: r, h, n, hn => by
    have ih := unhide_get h0 r h n hn
    cases x with
    | pk u p =>
      cases u with
      | s i => exact ih
      | c m =>
        show (match h0[m]? with | some x => (unhide h0 r h).set m x | none => unhide h0 r h)[n]? = if ((m == n) || isHid r n) && decide (n < h0.length) then _ else _
        by_cases e : m = n
        · subst e
          simp only [beq_self_eq_true, Bool.true_or, Bool.true_and]
          by_cases hm : m < h0.length
          · rw [List.getElem?_eq_getElem hm]
            dsimp only
            rw [List.getElem?_set_self (by rw [unhide_len]; exact hn), if_pos (by simpa using hm)]
          · have e0 : h0[m]? = none := List.getElem?_eq_none (by omega)
            rw [e0]
            dsimp only
            rw [ih, if_neg (by simp; omega), if_neg (by simpa using hm)]
        · have e2 : (m == n) = false := by simpa using e
          rw [e2, Bool.false_or, ← ih]
          cases h0[m]? with
          | none => rfl
          | some y => dsimp only; rw [List.getElem?_set_ne e]
    | _ => exact ih
/-! ### the callers' own things, as the callee sees them -/
def Gh.below (G : Gh) (xs : List Vl) : Gh := { io := G.io, fs := fun _ => [], fh := fun n => if isHid xs n then [] else G.fh n, tm := [], A := fun a => G.A a ∨ a ∈ G.tm ∨ (∃ i, a ∈ G.fs i) ∨ ∃ n, isHid xs n = true ∧ a ∈ G.fh n }
section
variable {T : Kt} {W : WX} {G : Gh} {S : Ste} {σ : St} {H H' : Hp} {xs : List Vl}
theorem below_px {t : Option Rt} {a : Addr} (h : a ∈ (G.below xs).fpx t) : ∃ n, t = some (.c n) ∧ isHid xs n = false ∧ a ∈ G.fh n := by
  cases t with
  | none => exact nomatch h
  | some t =>
    cases t with
    | s i => exact nomatch h
    | c n =>
      have h : a ∈ (if isHid xs n then [] else G.fh n) := h
      cases e : isHid xs n with
      | true => rw [e] at h; exact nomatch h
      | false => rw [e] at h; exact ⟨n, rfl, e, h⟩
theorem below_mw : ∀ a, MW (G.below xs) a → MW G a := fun a ⟨t, h⟩ => by
  obtain ⟨n, rfl, _, h⟩ := below_px h
  exact ⟨some (.c n), h⟩
theorem below_mm : ∀ a, MM (G.below xs) a ↔ MM G a := fun a => by
  constructor
  · rintro (h | h | h | ⟨i, h⟩ | ⟨n, _, h⟩)
    · exact .inl (below_mw a h)
    · exact .inr h
    · exact .inl ⟨none, h⟩
    · exact .inl ⟨some (.s i), h⟩
    · exact .inl ⟨some (.c n), h⟩
  · rintro (⟨t, h⟩ | h)
    · cases t with
      | none => exact .inr (.inr (.inl h))
      | some t =>
        cases t with
        | s i => exact .inr (.inr (.inr (.inl ⟨i, h⟩)))
        | c n =>
          cases e : isHid xs n with
          | true => exact .inr (.inr (.inr (.inr ⟨n, e, h⟩)))
          | false => exact .inl ⟨some (.c n), by show a ∈ (if isHid xs n then [] else G.fh n); rw [e]; exact h⟩
    · exact .inr (.inl h)
theorem below_eq : MM (G.below xs) = MM G := by
  funext a
  exact propext (below_mm a)
theorem hide_cell (n : Nat) : (⟨[], hide xs S.hp⟩ : Ste).get (.c n) = if isHid xs n then none else S.get (.c n) := by
  unfold Ste.get
  dsimp only
  rw [hide_get]
  cases isHid xs n with
  | true => simp only [if_true]; cases S.hp[n]? <;> rfl
  | false => rfl
theorem Ok.below (o : Ok T G S σ H) : Ok T (G.below xs) ⟨[], hide xs S.hp⟩ [] H := by
  refine ⟨rfl, by rw [hide_len]; exact o.hlen, fun i x e => by simp at e, fun t sh x e => ?_, fun t e => ?_, fun t => ?_, fun t t' a m m' => ?_, fun t a m z => ?_, fun a m => ?_⟩
  · cases t with
    | s i => simp [Ste.get] at e
    | c n =>
      rw [hide_cell] at e
      cases eh : isHid xs n with
      | true => rw [eh] at e; cases e
      | false =>
        rw [eh] at e
        obtain ⟨v, h1, h2⟩ := o.own (.c n) sh x e
        refine ⟨v, h1, ?_⟩
        rw [below_eq]
        show OT T G.io (MM G) H sh x v (if isHid xs n then [] else G.fh n)
        rw [eh]
        exact h2
  · cases t with
    | s i => rfl
    | c n =>
      rw [hide_cell] at e
      show (if isHid xs n then [] else G.fh n) = []
      cases eh : isHid xs n with
      | true => rfl
      | false => rw [eh] at e; exact o.no (.c n) e
  · cases t with
    | none => exact List.nodup_nil
    | some t =>
      cases t with
      | s i => exact List.nodup_nil
      | c n =>
        show (if isHid xs n then [] else G.fh n).Nodup
        split
        · exact List.nodup_nil
        · exact o.nd (some (.c n))
  · obtain ⟨n, rfl, _, h⟩ := below_px m
    obtain ⟨n', rfl, _, h'⟩ := below_px m'
    exact o.dj (some (.c n)) (some (.c n')) a h h'
  · obtain ⟨n, rfl, e, h⟩ := below_px m
    rcases z with z | z | ⟨i, z⟩ | ⟨n', e', z⟩
    · exact o.dA (some (.c n)) a h z
    · exact nomatch o.dj (some (.c n)) none a h z
    · exact nomatch o.dj (some (.c n)) (some (.s i)) a h z
    · have := o.dj (some (.c n)) (some (.c n')) a h z
      cases this
      rw [e] at e'
      cases e'
  · refine o.tracked ?_
    rcases m with m | m
    · exact nomatch m
    · exact (below_mm a).mp (.inr m)
/-- the arguments, as the callee sees them -/
theorem args_below (o : Ok T G S σ H) {all : List Vl} : ∀ {xs ys : List Vl} {vs : List V}, (∀ x ∈ xs, x ∈ all) → VDs T G S σ H xs vs → S.args xs = some ys → VDs T (G.below all) ⟨[], hide all S.hp⟩ [] H ys vs ∧ noPk ys = true
  | [], ys, _, _, .nil, e => by cases e; exact ⟨.nil, rfl⟩
  | x :: xs, ys, v :: vs, hm, .cons a r, e => by
    unfold Ste.args at e
    split at e
    · rename_i y ys' h1 h2
      cases e
      obtain ⟨ih, nk⟩ := args_below o (fun z m => hm z (List.mem_cons_of_mem _ m)) r h2
      cases x with
      | d x =>
        cases h1
        exact ⟨.cons (show Dn T.K (MM (G.below all)) H true _ v by rw [below_eq]; exact a) ih, nk⟩
      | r n => cases h1; exact ⟨.cons a ih, nk⟩
      | w x => cases h1; exact ⟨.cons (show Dn T.K (MW (G.below all)) H true _ v from Dn.anti below_mw _ _ _ a) ih, nk⟩
      | k x => cases h1
      | pk t p =>
        have h1 : (pure? (S.at t p)).map Vl.w = some y := h1
        cases e0 : pure? (S.at t p) with
        | none => rw [e0] at h1; cases h1
        | some z =>
          rw [e0] at h1
          cases h1
          obtain ⟨sh, e1, q⟩ := pure_of e0
          obtain ⟨F, sub, ot⟩ := o.pk a e1
          refine ⟨.cons (show Dn T.K (MW (G.below all)) H true z v from OT.frz (fun b m => .inl (below_mw b m)) _ _ _ _ ot q fun b m n => ?_) ih, nk⟩
          obtain ⟨tt, n⟩ := n
          obtain ⟨k, rfl, eh, n⟩ := below_px n
          have := o.dj (some t) (some (.c k)) b (sub b m) n
          cases this
          have hk : ∀ l : List Vl, Vl.pk (.c k) p ∈ l → isHid l k = true := fun l ml => by
            induction l with
            | nil => exact nomatch ml
            | cons u l ih =>
              rcases List.mem_cons.mp ml with rfl | ml
              · show ((k == k) || _) = true
                simp
              · have := ih ml
                cases u with
                | pk t' p' =>
                  cases t' with
                  | s i => exact this
                  | c m' => show ((m' == k) || isHid l k) = true; rw [this, Bool.or_true]
                | _ => exact this
          rw [hk all (hm _ List.mem_cons_self)] at eh
          cases eh
    · cases e
/-- behind a call -/
def Gh.above (G : Gh) (xs : List Vl) (G' : Gh) : Gh := { io := G'.io, fs := G.fs, fh := fun n => if isHid xs n then G.fh n else G'.fh n, tm := G.tm, A := G.A }
theorem Ok.above {G' : Gh} {E : List Addr} {hp' : List Cell} (o : Ok T G S σ H) (hin : ∀ n, isHid xs n = true → n < S.hp.length) (o' : Ok T (G'.plus E) ⟨[], hp'⟩ [] H') (st : Stp (G.below xs) ⟨[], hide xs S.hp⟩ [] H G' ⟨[], hp'⟩ [] H') (k : Keeps (MM (G.below xs)) H (MM (G'.plus E)) H') :
    let G2 := G.above xs G'
    let S2 : Ste := { S with hp := unhide S.hp xs hp' }
    Ok T (G2.plus E) S2 σ H' ∧ Stp G S σ H G2 S2 σ H' ∧ Keeps (MM G) H (MM (G2.plus E)) H' ∧ MM (G2.plus E) = MM (G'.plus E) ∧ G2.io = G'.io := by
  intro G2 S2
  have eA : G'.A = (G.below xs).A := st.A
  have etm : G'.tm = [] := st.tm.1
  have hl' : G'.io.length = hp'.length := o'.hlen
  have hl : G.io.length = S.hp.length := o.hlen
  have ln : S.hp.length ≤ hp'.length := by
    obtain ⟨l, e⟩ := st.io
    rw [← hl', e, List.length_append]
    show _ ≤ G.io.length + _
    omega
  have hidn : ∀ n, isHid xs n = true → hp'[n]? = some .hid := fun n e => by
    refine st.hid n ?_
    show (hide xs S.hp)[n]? = _
    rw [hide_get, e, if_pos rfl, List.getElem?_eq_getElem (hin n e)]
    rfl
  have fh0 : ∀ n, isHid xs n = true → G'.fh n = [] := fun n e => by
    have := o'.no (.c n) (by simp only [Ste.get, hidn n e])
    exact this
  -- who has an address behind the call
  have px : ∀ (t : Option Rt) (a : Addr), a ∈ (G2.plus E).fpx t → (a ∈ E ∧ t = none) ∨ (a ∈ (G.below xs |>.plus []).fpx none ∨ (G.below xs).A a ∧ a ∈ G.fpx t) ∨ ∃ n, t = some (.c n) ∧ a ∈ G'.fh n := fun t a m => by
    cases t with
    | none =>
      rcases List.mem_append.mp m with m | m
      · exact .inl ⟨m, rfl⟩
      · exact .inr (.inl (.inr ⟨.inr (.inl m), m⟩))
    | some t =>
      cases t with
      | s i => exact .inr (.inl (.inr ⟨.inr (.inr (.inl ⟨i, m⟩)), m⟩))
      | c n =>
        have m : a ∈ (if isHid xs n then G.fh n else G'.fh n) := m
        cases e : isHid xs n with
        | true => rw [e] at m; exact .inr (.inl (.inr ⟨.inr (.inr (.inr ⟨n, e, m⟩)), m⟩))
        | false => rw [e] at m; exact .inr (.inr ⟨n, rfl, m⟩)
  have px2 : ∀ (t : Option Rt) (a : Addr), a ∈ (G2.plus E).fpx t → (a ∈ (G'.plus E).fpx t ∧ (t = none ∨ ∃ n, t = some (.c n))) ∨ ((G.below xs).A a ∧ a ∈ G.fpx t) := fun t a m => by
    rcases px t a m with ⟨h, rfl⟩ | (h | h) | ⟨n, rfl, h⟩
    · exact .inl ⟨List.mem_append_left _ h, .inl rfl⟩
    · exact nomatch h
    · exact .inr h
    · exact .inl ⟨h, .inr ⟨n, rfl⟩⟩
  have eM : MM (G2.plus E) = MM (G'.plus E) := by
    funext a
    apply propext
    constructor
    · rintro (⟨t, m⟩ | m)
      · rcases px2 t a m with ⟨h, _⟩ | ⟨h, _⟩
        · exact .inl ⟨t, h⟩
        · exact .inr (by show G'.A a; rw [eA]; exact h)
      · exact .inr (by show G'.A a; rw [eA]; exact .inl m)
    · rintro (⟨t, m⟩ | m)
      · cases t with
        | none =>
          rcases List.mem_append.mp m with m | m
          · exact .inl ⟨none, List.mem_append_left _ m⟩
          · rw [etm] at m; exact nomatch m
        | some t =>
          cases t with
          | s i =>
            have : (G'.plus E).fpx (some (.s i)) = [] := o'.no (.s i) (by simp [Ste.get])
            rw [this] at m
            exact nomatch m
          | c n =>
            have m : a ∈ G'.fh n := m
            refine .inl ⟨some (.c n), ?_⟩
            show a ∈ (if isHid xs n then G.fh n else G'.fh n)
            cases e : isHid xs n with
            | true => rw [fh0 n e] at m; exact nomatch m
            | false => exact m
      · have m : G'.A a := m
        rw [eA] at m
        rcases m with m | m | ⟨i, m⟩ | ⟨n, e, m⟩
        · exact .inr m
        · exact .inl ⟨none, List.mem_append_right _ m⟩
        · exact .inl ⟨some (.s i), m⟩
        · exact .inl ⟨some (.c n), by show a ∈ (if isHid xs n then G.fh n else G'.fh n); rw [e]; exact m⟩
  have kk : Keeps (MM G) H (MM (G2.plus E)) H' := by
    rw [eM, ← below_eq (xs := xs)]
    exact k
  have anon : ∀ a, (G.below xs).A a → H' a = H a := st.anon
  have dA : ∀ (t : Option Rt) (a : Addr), a ∈ (G2.plus E).fpx t → ¬ G.A a := fun t a m z => by
    rcases px2 t a m with ⟨h, _⟩ | ⟨_, h⟩
    · exact o'.dA t a h (by show G'.A a; rw [eA]; exact .inl z)
    · exact o.dA t a h z
  have sub : ∀ a, MM G2 a → MM (G2.plus E) a := fun a m => plus_mm m
  have k0 : Keeps (MM G) H (MM G2) H' := fun a u e n => ⟨(kk a u e n).1, fun z => (kk a u e n).2 (sub a z)⟩
  have kw : Keeps (MW G) H (MW (G2.plus E)) H' := keepsW (G' := G2.plus E) rfl dA kk fun a m => anon a (.inl m)
  have kw0 : Keeps (MW G) H (MW G2) H' := keepsW (G' := G2) rfl (fun t a m => dA t a (plus_fpx m)) k0 fun a m => anon a (.inl m)
  have get1 : ∀ n, S2.get (.c n) = if isHid xs n then S.get (.c n) else (⟨[], hp'⟩ : Ste).get (.c n) := fun n => by
    unfold Ste.get
    dsimp only [S2]
    by_cases hn : n < hp'.length
    · rw [unhide_get S.hp xs hp' n hn]
      cases e : isHid xs n with
      | true => simp [hin n e]
      | false => rfl
    · have e1 : (unhide S.hp xs hp')[n]? = none := List.getElem?_eq_none (by rw [unhide_len]; omega)
      have e2 : hp'[n]? = none := List.getElem?_eq_none (by omega)
      have e3 : S.hp[n]? = none := List.getElem?_eq_none (by omega)
      rw [e1, e2, e3]
      cases isHid xs n <;> rfl
  have io' : ∃ l, G'.io = G.io ++ l := st.io
  have rvs : ∀ t v, rootV G σ t = some v → rootV G2 σ t = some v := fun t v e => by
    cases t with
    | s i => exact e
    | c n =>
      obtain ⟨l, el⟩ := io'
      have e : Option.map V.ref (G.io[n]?) = some v := e
      show Option.map V.ref (G'.io[n]?) = some v
      rw [el]
      cases h : G.io[n]? with
      | none => rw [h] at e; cases e
      | some a =>
        rw [List.getElem?_append_left (List.getElem?_eq_some_iff.mp h).1, h]
        rw [h] at e
        exact e
  refine ⟨⟨o.len, by show G'.io.length = (unhide S.hp xs hp').length; rw [unhide_len]; exact hl', fun i x e => ?_, fun t sh x e => ?_, fun t e => ?_, fun t => ?_, fun t t' a m m' => ?_, dA, fun a m => ?_⟩,
    ⟨io', rfl, k0, kw0, ⟨rfl, fun a m => anon a (.inr (.inl m))⟩, fun a m => anon a (.inl m), fun t q e => ?_, fun n e => ?_, st.tr⟩, kk, eM, rfl⟩
  · obtain ⟨v, h1, h2⟩ := o.val i x e
    refine ⟨v, h1, ?_⟩
    cases x with
    | d x => exact Dn.mono kk _ _ h2
    | r n =>
      obtain ⟨a, h3, h4⟩ := h2
      obtain ⟨l, el⟩ := io'
      refine ⟨a, ?_, h4⟩
      show G'.io[n]? = _
      rw [el, List.getElem?_append_left (List.getElem?_eq_some_iff.mp h3).1]
      exact h3
    | w x => exact Dn.mono kw _ _ h2
    | k x => exact h2
    | pk t p => exact h2
  · cases t with
    | s i =>
      obtain ⟨v, h1, h2⟩ := o.own (.s i) sh x e
      exact ⟨v, rvs _ v h1, OT.mono kk io' _ _ _ _ h2 fun a m => anon a (.inr (.inr (.inl ⟨i, m⟩)))⟩
    | c n =>
      rw [get1] at e
      rw [plus_fp]
      show ∃ v, _ ∧ OT T G'.io (MM (G2.plus E)) H' sh x v (if isHid xs n then G.fh n else G'.fh n)
      cases eh : isHid xs n with
      | true =>
        rw [eh] at e
        obtain ⟨v, h1, h2⟩ := o.own (.c n) sh x e
        exact ⟨v, rvs _ v h1, OT.mono kk io' _ _ _ _ h2 fun a m => anon a (.inr (.inr (.inr ⟨n, eh, m⟩)))⟩
      | false =>
        rw [eh] at e
        obtain ⟨v, h1, h2⟩ := o'.own (.c n) sh x e
        refine ⟨v, h1, ?_⟩
        rw [eM]
        exact h2
  · cases t with
    | s i => exact o.no (.s i) e
    | c n =>
      rw [get1] at e
      rw [plus_fp]
      show (if isHid xs n then G.fh n else G'.fh n) = []
      cases eh : isHid xs n with
      | true => rw [eh] at e; exact o.no (.c n) e
      | false => rw [eh] at e; exact o'.no (.c n) e
  · cases t with
    | none =>
      refine List.nodup_append.mpr ⟨o'.mine.1, o.nd none, fun a m b m2 e => ?_⟩
      subst e
      exact o'.dA none a (List.mem_append_left _ m) (by show G'.A a; rw [eA]; exact .inr (.inl m2))
    | some t =>
      cases t with
      | s i => exact o.nd (some (.s i))
      | c n =>
        show (if isHid xs n then G.fh n else G'.fh n).Nodup
        split
        · exact o.nd (some (.c n))
        · exact o'.nd (some (.c n))
  · rcases px2 t a m with ⟨h, _⟩ | ⟨h1, h2⟩ <;> rcases px2 t' a m' with ⟨h', _⟩ | ⟨h1', h2'⟩
    · exact o'.dj t t' a h h'
    · exact (o'.dA t a h (by show G'.A a; rw [eA]; exact h1')).elim
    · exact (o'.dA t' a h' (by show G'.A a; rw [eA]; exact h1)).elim
    · exact o.dj t t' a h2 h2'
  · rcases m with m | m
    · rcases List.mem_append.mp m with m | m
      · exact o'.tr a (.inl (List.mem_append_left _ m))
      · obtain ⟨u, e, nt⟩ := o.tr a (.inl m)
        exact ⟨u, by rw [anon a (.inr (.inl m))]; exact e, nt⟩
    · obtain ⟨u, e, nt⟩ := o.tr a (.inr m)
      exact ⟨u, by rw [anon a (.inl m)]; exact e, nt⟩
  · cases t with
    | s i =>
      refine ⟨e, rfl, rfl, fun a m => anon a (.inr (.inr (.inl ⟨i, m⟩)))⟩
    | c n =>
      have hn : n < S.hp.length := by
        rcases Nat.lt_or_ge n S.hp.length with h | h
        · exact h
        · simp only [Ste.lkd, List.getElem?_eq_none h] at e
          cases e
      have rv : rootV G2 σ (.c n) = rootV G σ (.c n) := by
        obtain ⟨v, h1, _⟩ := o.own (.c n) q.1 q.2 (lkd_get e)
        rw [h1]
        exact rvs _ v h1
      cases eh : isHid xs n with
      | true =>
        refine ⟨?_, rv, ?_, fun a m => anon a (.inr (.inr (.inr ⟨n, eh, m⟩)))⟩
        · unfold Ste.lkd at e ⊢
          dsimp only [S2] at e ⊢
          rw [unhide_get S.hp xs hp' n (by omega), eh]
          simp only [Bool.true_and, decide_eq_true_eq, hn, if_true]
          exact e
        · show (if isHid xs n then G.fh n else G'.fh n) = G.fh n
          rw [eh]; rfl
      | false =>
        have e1 : (⟨[], hide xs S.hp⟩ : Ste).lkd (.c n) = some q := by
          unfold Ste.lkd at e ⊢
          dsimp only at e ⊢
          rw [hide_get, eh]
          exact e
        obtain ⟨f1, f2, f3, f4⟩ := st.lck (.c n) q e1
        have f3 : G'.fh n = (if isHid xs n then [] else G.fh n) := f3
        rw [eh] at f3
        refine ⟨?_, rv, ?_, fun a m => f4 a (by show a ∈ (if isHid xs n then [] else G.fh n); rw [eh]; exact m)⟩
        · unfold Ste.lkd at f1 ⊢
          dsimp only [S2] at f1 ⊢
          rw [unhide_get S.hp xs hp' n (by omega), eh]
          exact f1
        · show (if isHid xs n then G.fh n else G'.fh n) = G.fh n
          rw [eh]; exact f3
  · have hn : n < S.hp.length := (List.getElem?_eq_some_iff.mp e).1
    dsimp only [S2]
    rw [unhide_get S.hp xs hp' n (by omega)]
    cases eh : isHid xs n with
    | true => simp only [Bool.true_and, decide_eq_true_eq, hn, if_true]; exact e
    | false =>
      refine st.hid n ?_
      show (hide xs S.hp)[n]? = _
      rw [hide_get, eh]
      exact e
end
end EV
end
section
set_option Elab.async false
set_option linter.all false
set_option maxRecDepth 100000
set_option maxHeartbeats 4000000
set_option autoImplicit false
/-! GE2: rules for calls of defs, of methods, for new instances -/
namespace EV
open PySem L2
/-- what a def promises: it comes to what the call comes to. exv: the error classes; nw: what it tells is new, held so -/
def spF (T : Kt) (exv : Nat → Value) (nw : Option Sh) (f : List Vl → List Cell → CRes) : Sp := fun vs H Q E => ∃ (G : Gh) (xs : List Vl) (hp : List Cell), Ok T G ⟨[], hp⟩ [] H ∧ VDs T G ⟨[], hp⟩ [] H xs vs ∧ noPk xs = true ∧
  match f xs hp with
  | .ok x hp' => (match nw with
    | none => ∀ G' v H', Ok T G' ⟨[], hp'⟩ [] H' → Stp G ⟨[], hp⟩ [] H G' ⟨[], hp'⟩ [] H' → SD T G' H' x v → Q v H'
    | some sh => ∃ d, x = .d d ∧ ∀ G' E v H', Ok T (G'.plus E) ⟨[], hp'⟩ [] H' → Stp G ⟨[], hp⟩ [] H G' ⟨[], hp'⟩ [] H' → Keeps (MM G) H (MM (G'.plus E)) H' → OT T G'.io (MM (G'.plus E)) H' sh d v E → Q v H')
  | .er c hp' => ∀ G' H', Ok T G' ⟨[], hp'⟩ [] H' → Stp G ⟨[], hp⟩ [] H G' ⟨[], hp'⟩ [] H' → E (exv c) none H'
  | .stuck => False
def EW (exv : Nat → Value) (W : WX) : St → XK := fun σ cls d H => ∃ c, cls = exv c ∧ d = none ∧ W c σ H
section
variable {T : Kt} {W : WX} {G : Gh} {S : Ste} {σ : St} {H H' : Hp} {exv : Nat → Value} {call : Nat → List Vl → List Cell → CRes} {f : Nat}
theorem hid_lt : ∀ {xs : List Vl} {vs : List V}, VDs T G S σ H xs vs → ∀ n, isHid xs n = true → n < S.hp.length
  | _, _, .nil, n, e => nomatch e
  | x :: xs, _, .cons a r, n, e => by
    cases x with
    | pk t p =>
      cases t with
      | s i => exact hid_lt r n e
      | c m =>
        have e : ((m == n) || isHid xs n) = true := e
        rw [Bool.or_eq_true] at e
        rcases e with e | e
        · have : m = n := eq_of_beq e
          subst this
          obtain ⟨v0, q, _, _, h3⟩ := a
          unfold Ste.at Ste.get at h3
          rcases Nat.lt_or_ge m S.hp.length with h | h
          · exact h
          · simp only [List.getElem?_eq_none h] at h3
            cases h3
        · exact hid_lt r n e
    | _ => exact hid_lt r n e
theorem call_fin {Q : VK} {xs : List Vl} {vs : List V} (o : Ok T G S σ H) (r : VDs T G S σ H xs vs) (p : Post T W (RV T) G S σ H Q (goC call f xs S)) : spF T exv none (call f) vs H Q (EW exv W σ) := by
  unfold goC at p
  cases ea : S.args xs with
  | none => rw [ea] at p; exact p.elim
  | some ys =>
    rw [ea] at p
    dsimp only at p
    obtain ⟨r2, nk⟩ := args_below o (all := xs) (fun _ m => m) r ea
    refine ⟨G.below xs, ys, hide xs S.hp, o.below, r2, nk, ?_⟩
    cases e : call f ys (hide xs S.hp) with
    | ok x h =>
      rw [e] at p
      intro G' v H' o' st sd
      obtain ⟨o2, st2, _, eM, eio⟩ := Ok.above (E := []) o (hid_lt r) o' st st.mono
      have eM : MM (G.above xs G') = MM G' := eM
      cases x with
      | d x => exact p _ v H' o2 st2 (show Dn T.K (MM (G.above xs G')) H' true x v by rw [eM]; exact sd)
      | r n => exact p _ v H' o2 st2 (show ∃ a, (G.above xs G').io[n]? = some a ∧ v = .ref a from sd)
      | w x => exact p.elim
      | k x => exact p.elim
      | pk t q => exact p.elim
    | er c h =>
      rw [e] at p
      intro G' H' o' st
      obtain ⟨o2, st2, _, _, _⟩ := Ok.above (E := []) o (hid_lt r) o' st st.mono
      exact ⟨c, rfl, rfl, p _ H' o2 st2⟩
    | stuck => rw [e] at p; exact p
theorem call_finN {Q : VK} {xs : List Vl} {vs : List V} {sh : Sh} (o : Ok T G S σ H) (r : VDs T G S σ H xs vs) (p : PostN T W sh G S σ H Q (goC call f xs S)) : spF T exv (some sh) (call f) vs H Q (EW exv W σ) := by
  unfold goC at p
  cases ea : S.args xs with
  | none => rw [ea] at p; exact p.elim
  | some ys =>
    rw [ea] at p
    dsimp only at p
    obtain ⟨r2, nk⟩ := args_below o (all := xs) (fun _ m => m) r ea
    refine ⟨G.below xs, ys, hide xs S.hp, o.below, r2, nk, ?_⟩
    cases e : call f ys (hide xs S.hp) with
    | ok x h =>
      rw [e] at p
      cases x with
      | d d =>
        refine ⟨d, rfl, fun G' E v H' o' st k ot => ?_⟩
        obtain ⟨o2, st2, k2, eM, eio⟩ := Ok.above (E := E) o (hid_lt r) o' st k
        exact p _ E v H' o2 st2 k2 (by rw [eM]; exact ot)
      | r n => exact p.elim
      | w x => exact p.elim
      | k x => exact p.elim
      | pk t q => exact p.elim
    | er c h =>
      rw [e] at p
      intro G' H' o' st
      obtain ⟨o2, st2, _, _, _⟩ := Ok.above (E := []) o (hid_lt r) o' st st.mono
      exact ⟨c, rfl, rfl, p _ H' o2 st2⟩
    | stuck => rw [e] at p; exact p
end
section
variable {X : Cx} {Z : Ct} {W : WX} {P : Env} {pos : Pos} {exv : Nat → Value}
theorem call_ev {f : Nat} {as : Cs} {S : Ste} : ev P (.call f as) S = (evs P as S).bind fun xs s => P.go f xs s := by rw [ev]
theorem se_call {x : Str} {p : Pos} {e : Expr} {es : List Expr} {f : Nat} {as : Cs} {CX : CXT} {k : Nat} {a : Addr} {fd : FuncData} {ps : List Str} (F : FnG X.prog X.w X.K X.mg X.base CX k a fd ps (spF (kt X Z) exv none (P.call f))) (hr : Room k X.A) (hgd : X.A.guards = some []) (hg : Gl X x) (hm : X.mg x = some (.ref a))
    (hk : PySem.W.keepIn X.K (.ref a) = true) (hb : Binds X.K fd ps []) (hx : ∀ ss, PassesAt CX X ss (EW exv W ss)) (ha : PA X (e :: es) (tA (kt X Z) W (evs P as))) (hdb : (x == ("__debug__" : Str)) = false)
    (he : starEach (e :: es) X.env = (false, eval e X.env) :: starEach es X.env) (hpl : (backTo pos (starEach es X.env)).any (·.1) = false) : PE X (.Call (.Name x p) (e :: es) [] pos) (tE (kt X Z) W (ev P (.call f as))) :=
  (pe_callG F hr hgd hg hm hk hb hx ha hdb he hpl).imp fun σ H Q h => by
    obtain ⟨G, S, o, p⟩ := h
    rw [call_ev] at p
    exact ⟨G, S, o, p.seq fun G1 S1 xs vs H1 o1 st1 r1 p1 => call_fin o1 r1 p1⟩
theorem se_call0 {x : Str} {p : Pos} {f : Nat} {CX : CXT} {k : Nat} {a : Addr} {fd : FuncData} {ps : List Str} (F : FnG X.prog X.w X.K X.mg X.base CX k a fd ps (spF (kt X Z) exv none (P.call f))) (hr : Room k X.A) (hgd : X.A.guards = some []) (hg : Gl X x) (hm : X.mg x = some (.ref a))
    (hk : PySem.W.keepIn X.K (.ref a) = true) (hb : Binds X.K fd ps []) (hx : ∀ ss, PassesAt CX X ss (EW exv W ss)) (hdb : (x == ("__debug__" : Str)) = false) : PE X (.Call (.Name x p) [] [] pos) (tE (kt X Z) W (ev P (.call f .nil))) :=
  (pe_callG0 F hr hgd hg hm hk hb hx hdb).imp fun σ H Q h => by
    obtain ⟨G, S, o, p⟩ := h
    rw [call_ev, evs_nil] at p
    exact call_fin o .nil p
theorem sn_call {sh : Sh} {x : Str} {p : Pos} {e : Expr} {es : List Expr} {f : Nat} {as : Cs} {CX : CXT} {k : Nat} {a : Addr} {fd : FuncData} {ps : List Str} (F : FnG X.prog X.w X.K X.mg X.base CX k a fd ps (spF (kt X Z) exv (some sh) (P.call f))) (hr : Room k X.A) (hgd : X.A.guards = some []) (hg : Gl X x) (hm : X.mg x = some (.ref a))
    (hk : PySem.W.keepIn X.K (.ref a) = true) (hb : Binds X.K fd ps []) (hx : ∀ ss, PassesAt CX X ss (EW exv W ss)) (ha : PA X (e :: es) (tA (kt X Z) W (evs P as))) (hdb : (x == ("__debug__" : Str)) = false)
    (he : starEach (e :: es) X.env = (false, eval e X.env) :: starEach es X.env) (hpl : (backTo pos (starEach es X.env)).any (·.1) = false) : PE X (.Call (.Name x p) (e :: es) [] pos) (tN (kt X Z) W sh (ev P (.call f as))) :=
  (pe_callG F hr hgd hg hm hk hb hx ha hdb he hpl).imp fun σ H Q h => by
    obtain ⟨G, S, o, p⟩ := h
    rw [call_ev] at p
    exact ⟨G, S, o, PostN.seq p fun G1 S1 xs vs H1 o1 st1 r1 p1 => call_finN o1 r1 p1⟩
theorem sn_call0 {sh : Sh} {x : Str} {p : Pos} {f : Nat} {CX : CXT} {k : Nat} {a : Addr} {fd : FuncData} {ps : List Str} (F : FnG X.prog X.w X.K X.mg X.base CX k a fd ps (spF (kt X Z) exv (some sh) (P.call f))) (hr : Room k X.A) (hgd : X.A.guards = some []) (hg : Gl X x) (hm : X.mg x = some (.ref a))
    (hk : PySem.W.keepIn X.K (.ref a) = true) (hb : Binds X.K fd ps []) (hx : ∀ ss, PassesAt CX X ss (EW exv W ss)) (hdb : (x == ("__debug__" : Str)) = false) : PE X (.Call (.Name x p) [] [] pos) (tN (kt X Z) W sh (ev P (.call f .nil))) :=
  (pe_callG0 F hr hgd hg hm hk hb hx hdb).imp fun σ H Q h => by
    obtain ⟨G, S, o, p⟩ := h
    rw [call_ev, evs_nil] at p
    exact call_finN o .nil p
/-- what was made is frozen -/
theorem se_frz {sh : Sh} {e : Expr} {a : C} (h : PE X e (tN (kt X Z) W sh (ev P a))) : PE X e (tE (kt X Z) W (ev P (.frz a))) := h.imp fun σ H Q h => by
  obtain ⟨G, S, o, p⟩ := h
  have e : ev P (.frz a) S = (ev P a S).bind fun x s => match x with
    | .d x => if noRf x then .ok (.d x) s else .stuck
    | _ => .stuck := by rw [ev] <;> rfl
  rw [e] at p
  refine ⟨G, S, o, ?_⟩
  cases ea : ev P a S with
  | ok x S1 =>
    rw [ea] at p
    cases x with
    | d d =>
      have p : Post (kt X Z) W (RV (kt X Z)) G S σ H Q (if noRf d then .ok (.d d) S1 else .stuck) := p
      intro G' E v H' o' st k ot
      split at p
      · rename_i hp
        exact p G' v H' o'.drop st (OT.frz (fun a m => plus_mm m) _ _ _ _ ot hp o'.mine.2)
      · exact p.elim
    | _ => exact p.elim
  | er c S1 => rw [ea] at p; exact p
  | stuck => rw [ea] at p; exact p
/-! ### methods -/
/-- o.m(..): the object's class, its method, that one's promise -/
def tMethG (X : Cx) (CX : CXT) (m : Str) (E : L2.St → XK) (ta : TE) (t : TA) : TE := fun ss H Q => ta ss H fun x H1 => ∃ a C dx fs f fd ps sp k, x = .ref a ∧ H1 a = some (.ins C dx fs) ∧ Cls X.K C ∧ Meth X.K C m f ∧ fs.lookup m = none ∧ FnG X.prog X.w X.K X.mg X.base CX k f fd ps sp ∧ Room k X.A ∧ Binds X.K fd ps [] ∧
  t ss H1 fun vs H2 => sp (.ref a :: vs) H2 Q (E ss)
theorem pe_methG {CX : CXT} {m : Str} {E : L2.St → XK} {o e : Expr} {es : List Expr} {ta : TE} {t : TA} {apos : Pos} {pl : Sem Bool} (he : PE X o ta) (hgd : X.A.guards = some []) (hx : ∀ ss, PassesAt CX X ss (E ss)) (ha : PA X (e :: es) t)
    (hst : starEach (e :: es) X.env = (false, eval e X.env) :: starEach es X.env) (hpl : (backTo pos (starEach es X.env)).any (·.1) = false)
    (ht : eval (.Call (.Attribute o m apos) (e :: es) [] pos) X.env = (do
      let ov ← eval o X.env
      standAt apos.atName
      let (f, first) ← holding [ov] (getMethod ov m pl)
      callWith pos f first (backTo pos (starEach (e :: es) X.env)) (backToKw pos (keywordEach [] X.env)))) :
    PE X (.Call (.Attribute o m apos) (e :: es) [] pos) (tMethG X CX m E ta t) := by
  refine ⟨fun pins s σ H Q I h => ?_⟩
  refine PySem.W.methodCall_KW (pl := pl) (thn (he.run pins s σ H _ I h) fun u s1 ⟨x, H1, I1, rx, a, C, dx, fs, f, fd, ps, sp, k, ex, ea, c, hm, l, F, hr, hb, q⟩ => ?_) ht
  subst ex
  obtain rfl : u = Value.ref a := rx
  refine getmeth_ok I1 ea c hm l ?_
  refine PySem.W.callWith_K (first := [.ref a]) (h₀ := X.base) I.ok.mod.kin hm.kp (thn (ha.run pos pins s1 σ H1 _ I1 q) fun us s2 ⟨vs, H2, I2, r, q2⟩ => ⟨I2.kIn, ?_⟩) hst hpl
  exact run_fnG (us := .ref a :: us) (vs := .ref a :: vs) F hr hgd hb (hx σ) I2 (.cons rfl r) q2
theorem pe_methG0 {CX : CXT} {m : Str} {E : L2.St → XK} {o : Expr} {ta : TE} {apos : Pos} {pl : Sem Bool} (he : PE X o ta) (hgd : X.A.guards = some []) (hx : ∀ ss, PassesAt CX X ss (E ss))
    (ht : eval (.Call (.Attribute o m apos) [] [] pos) X.env = (do
      let ov ← eval o X.env
      standAt apos.atName
      let (f, first) ← holding [ov] (getMethod ov m pl)
      callWith pos f first (backTo pos (starEach [] X.env)) (backToKw pos (keywordEach [] X.env)))) :
    PE X (.Call (.Attribute o m apos) [] [] pos) (tMethG X CX m E ta tNil) := by
  refine ⟨fun pins s σ H Q I h => ?_⟩
  refine PySem.W.methodCall_KW (pl := pl) (thn (he.run pins s σ H _ I h) fun u s1 ⟨x, H1, I1, rx, a, C, dx, fs, f, fd, ps, sp, k, ex, ea, c, hm, l, F, hr, hb, q⟩ => ?_) ht
  subst ex
  obtain rfl : u = Value.ref a := rx
  refine getmeth_ok I1 ea c hm l ?_
  exact PySem.W.callWith_K0 (first := [.ref a]) I1.kIn hm.kp (run_fnG (us := [.ref a]) (vs := [.ref a]) F hr hgd hb (hx σ) I1 (.cons rfl .nil) q)
/-- a method's promise, for each class that has it -/
def MethOk (X : Cx) (Z : Ct) (CX : CXT) (P : Env) (exv : Nat → Value) (k : Nat) (nw : Option Sh) (m : Str) (mi : Nat) : Prop :=
  ∀ c f, P.meth c mi = some f → ∃ a fd ps, Meth X.K (Z.cls c) m a ∧ FnG X.prog X.w X.K X.mg X.base CX k a fd ps (spF (kt X Z) exv nw (P.call f)) ∧ Binds X.K fd ps []
theorem no_attr {tb : List (Str × Nat)} {m : Str} (h : ∀ p ∈ tb, p.1 ≠ m) : ∀ {kvs : List (D × D)} {fs : List (Str × V)}, kvs.length = fs.length →
    (∀ (i : Nat) (p : D × D) (q : Str × V), kvs[i]? = some p → fs[i]? = some q → ∃ j : Nat, p.1 = PyData.int j ∧ (q.1, j) ∈ tb) → fs.lookup m = none
  | [], [], _, _ => rfl
  | [], _ :: _, h, _ => by simp at h
  | _ :: _, [], h, _ => by simp at h
  | p :: r, q :: t, hl, hq => by
    obtain ⟨j, _, m0⟩ := hq 0 p q rfl rfl
    obtain ⟨f, v⟩ := q
    have ne : (m == f) = false := by
      rw [beq_eq_false_iff_ne]
      rintro rfl
      exact h _ m0 rfl
    rw [List.lookup_cons, ne]
    exact no_attr h (kvs := r) (by simpa using hl) fun i p q h1 h2 => hq (i + 1) p q (by simpa using h1) (by simpa using h2)
theorem mcall_ev {a : C} {m : Nat} {as : Cs} {S : Ste} : ev P (.mcall a m as) S = (ev P a S).bind fun x s => match Env.clsOf s x with
    | some c => (match P.meth c m with
      | some f => (evs P as s).bind fun xs s => P.go f (x :: xs) s
      | none => .stuck)
    | none => .stuck := by rw [ev] <;> rfl
/-- the object of a method's call -/
theorem obj_at {T : Kt} {G : Gh} {S : Ste} {σ : St} {H : Hp} {x : Vl} {v : V} {c : Nat} (o : Ok T G S σ H) (h : VD T G S σ H x v) (e : Env.clsOf S x = some c) {m : Str} (hm : ∀ p ∈ T.C.tb, p.1 ≠ m) : isPk x = false ∧ ∃ a dx fs, v = .ref a ∧ H a = some (.ins (T.C.cls c) dx fs) ∧ Cls T.K (T.C.cls c) ∧ fs.lookup m = none := by
  cases x with
  | r n =>
    obtain ⟨a, h1, rfl⟩ := h
    unfold Env.clsOf at e
    dsimp only at e
    split at e
    · rename_i y eg
      obtain ⟨v, h2, ot⟩ := o.own (.c n) .i y eg
      have : v = .ref a := by
        simp only [rootV, h1] at h2
        cases h2; rfl
      subst this
      generalize G.fp (.c n) = F0 at ot
      cases ot with
      | @ins c0 kvs vs _ F q r =>
        obtain ⟨cl, na, n1, n2, dx, fs, g1, g2, g3, g4⟩ := q
        have : c0 = c := by simpa [insOf, insD] using e
        subst this
        exact ⟨rfl, a, dx, fs, rfl, g1, cl, no_attr hm g3 g4⟩
    · cases e
  | _ => cases e
theorem se_mcall {CX : CXT} {k : Nat} {m : Str} {mi : Nat} {o e : Expr} {es : List Expr} {a : C} {as : Cs} {apos : Pos} {pl : Sem Bool} (M : MethOk X Z CX P exv k none m mi) (hr : Room k X.A) (hm : ∀ p ∈ Z.tb, p.1 ≠ m) (he : PE X o (tE (kt X Z) W (ev P a))) (hgd : X.A.guards = some []) (hx : ∀ ss, PassesAt CX X ss (EW exv W ss)) (ha : PA X (e :: es) (tA (kt X Z) W (evs P as)))
    (hst : starEach (e :: es) X.env = (false, eval e X.env) :: starEach es X.env) (hpl : (backTo pos (starEach es X.env)).any (·.1) = false)
    (ht : eval (.Call (.Attribute o m apos) (e :: es) [] pos) X.env = (do
      let ov ← eval o X.env
      standAt apos.atName
      let (f, first) ← holding [ov] (getMethod ov m pl)
      callWith pos f first (backTo pos (starEach (e :: es) X.env)) (backToKw pos (keywordEach [] X.env)))) :
    PE X (.Call (.Attribute o m apos) (e :: es) [] pos) (tE (kt X Z) W (ev P (.mcall a mi as))) := (pe_methG he hgd hx ha hst hpl ht).imp fun σ H Q h => by
  obtain ⟨G, S, ok, p⟩ := h
  rw [mcall_ev] at p
  refine ⟨G, S, ok, p.seq fun G1 S1 x v H1 o1 st1 r1 p1 => ?_⟩
  cases ec : Env.clsOf S1 x with
  | none => rw [ec] at p1; exact p1.elim
  | some c =>
    rw [ec] at p1
    dsimp only at p1
    cases em : P.meth c mi with
    | none => rw [em] at p1; exact p1.elim
    | some f =>
      rw [em] at p1
      obtain ⟨np, ad, dx, fs, rfl, g1, g2, g3⟩ := obj_at o1 r1 ec hm
      obtain ⟨fa, fd, ps, h1, h2, h3⟩ := M c f em
      exact ⟨ad, _, dx, fs, fa, fd, ps, _, k, rfl, g1, g2, h1, g3, h2, hr, h3, G1, S1, o1, p1.seq fun G2 S2 xs vs H2 o2 st2 r2 p2 => call_fin o2 (.cons (VD.step np st2 r1) r2) p2⟩
theorem sn_mcall {sh : Sh} {CX : CXT} {k : Nat} {m : Str} {mi : Nat} {o e : Expr} {es : List Expr} {a : C} {as : Cs} {apos : Pos} {pl : Sem Bool} (M : MethOk X Z CX P exv k (some sh) m mi) (hr : Room k X.A) (hm : ∀ p ∈ Z.tb, p.1 ≠ m) (he : PE X o (tE (kt X Z) W (ev P a))) (hgd : X.A.guards = some []) (hx : ∀ ss, PassesAt CX X ss (EW exv W ss)) (ha : PA X (e :: es) (tA (kt X Z) W (evs P as)))
    (hst : starEach (e :: es) X.env = (false, eval e X.env) :: starEach es X.env) (hpl : (backTo pos (starEach es X.env)).any (·.1) = false)
    (ht : eval (.Call (.Attribute o m apos) (e :: es) [] pos) X.env = (do
      let ov ← eval o X.env
      standAt apos.atName
      let (f, first) ← holding [ov] (getMethod ov m pl)
      callWith pos f first (backTo pos (starEach (e :: es) X.env)) (backToKw pos (keywordEach [] X.env)))) :
    PE X (.Call (.Attribute o m apos) (e :: es) [] pos) (tN (kt X Z) W sh (ev P (.mcall a mi as))) := (pe_methG he hgd hx ha hst hpl ht).imp fun σ H Q h => by
  obtain ⟨G, S, ok, p⟩ := h
  rw [mcall_ev] at p
  refine ⟨G, S, ok, PostN.seq p fun G1 S1 x v H1 o1 st1 r1 p1 => ?_⟩
  cases ec : Env.clsOf S1 x with
  | none => rw [ec] at p1; exact p1.elim
  | some c =>
    rw [ec] at p1
    dsimp only at p1
    cases em : P.meth c mi with
    | none => rw [em] at p1; exact p1.elim
    | some f =>
      rw [em] at p1
      obtain ⟨np, ad, dx, fs, rfl, g1, g2, g3⟩ := obj_at o1 r1 ec hm
      obtain ⟨fa, fd, ps, h1, h2, h3⟩ := M c f em
      exact ⟨ad, _, dx, fs, fa, fd, ps, _, k, rfl, g1, g2, h1, g3, h2, hr, h3, G1, S1, o1, PostN.seq p1 fun G2 S2 xs vs H2 o2 st2 r2 p2 => call_finN o2 (.cons (VD.step np st2 r1) r2) p2⟩
theorem se_mcall0 {CX : CXT} {k : Nat} {m : Str} {mi : Nat} {o : Expr} {a : C} {apos : Pos} {pl : Sem Bool} (M : MethOk X Z CX P exv k none m mi) (hr : Room k X.A) (hm : ∀ p ∈ Z.tb, p.1 ≠ m) (he : PE X o (tE (kt X Z) W (ev P a))) (hgd : X.A.guards = some []) (hx : ∀ ss, PassesAt CX X ss (EW exv W ss))
    (ht : eval (.Call (.Attribute o m apos) [] [] pos) X.env = (do
      let ov ← eval o X.env
      standAt apos.atName
      let (f, first) ← holding [ov] (getMethod ov m pl)
      callWith pos f first (backTo pos (starEach [] X.env)) (backToKw pos (keywordEach [] X.env)))) :
    PE X (.Call (.Attribute o m apos) [] [] pos) (tE (kt X Z) W (ev P (.mcall a mi .nil))) := (pe_methG0 he hgd hx ht).imp fun σ H Q h => by
  obtain ⟨G, S, ok, p⟩ := h
  rw [mcall_ev] at p
  refine ⟨G, S, ok, p.seq fun G1 S1 x v H1 o1 st1 r1 p1 => ?_⟩
  cases ec : Env.clsOf S1 x with
  | none => rw [ec] at p1; exact p1.elim
  | some c =>
    rw [ec] at p1
    dsimp only at p1
    cases em : P.meth c mi with
    | none => rw [em] at p1; exact p1.elim
    | some f =>
      rw [em] at p1
      obtain ⟨np, ad, dx, fs, rfl, g1, g2, g3⟩ := obj_at o1 r1 ec hm
      obtain ⟨fa, fd, ps, h1, h2, h3⟩ := M c f em
      rw [evs_nil] at p1
      exact ⟨ad, _, dx, fs, fa, fd, ps, _, k, rfl, g1, g2, h1, g3, h2, hr, h3, call_fin o1 (.cons r1 .nil) p1⟩
theorem sn_mcall0 {sh : Sh} {CX : CXT} {k : Nat} {m : Str} {mi : Nat} {o : Expr} {a : C} {apos : Pos} {pl : Sem Bool} (M : MethOk X Z CX P exv k (some sh) m mi) (hr : Room k X.A) (hm : ∀ p ∈ Z.tb, p.1 ≠ m) (he : PE X o (tE (kt X Z) W (ev P a))) (hgd : X.A.guards = some []) (hx : ∀ ss, PassesAt CX X ss (EW exv W ss))
    (ht : eval (.Call (.Attribute o m apos) [] [] pos) X.env = (do
      let ov ← eval o X.env
      standAt apos.atName
      let (f, first) ← holding [ov] (getMethod ov m pl)
      callWith pos f first (backTo pos (starEach [] X.env)) (backToKw pos (keywordEach [] X.env)))) :
    PE X (.Call (.Attribute o m apos) [] [] pos) (tN (kt X Z) W sh (ev P (.mcall a mi .nil))) := (pe_methG0 he hgd hx ht).imp fun σ H Q h => by
  obtain ⟨G, S, ok, p⟩ := h
  rw [mcall_ev] at p
  refine ⟨G, S, ok, PostN.seq p fun G1 S1 x v H1 o1 st1 r1 p1 => ?_⟩
  cases ec : Env.clsOf S1 x with
  | none => rw [ec] at p1; exact p1.elim
  | some c =>
    rw [ec] at p1
    dsimp only at p1
    cases em : P.meth c mi with
    | none => rw [em] at p1; exact p1.elim
    | some f =>
      rw [em] at p1
      obtain ⟨np, ad, dx, fs, rfl, g1, g2, g3⟩ := obj_at o1 r1 ec hm
      obtain ⟨fa, fd, ps, h1, h2, h3⟩ := M c f em
      rw [evs_nil] at p1
      exact ⟨ad, _, dx, fs, fa, fd, ps, _, k, rfl, g1, g2, h1, g3, h2, hr, h3, call_finN o1 (.cons r1 .nil) p1⟩
/-! ### new instances -/
def tMakeG (C : Addr) (sp : Sp) (E : L2.St → XK) (t : TA) : TE := fun ss H Q => t ss H fun vs H1 => ∀ x dx, H1 x = none → H1 dx = none → dx ≠ x → sp (.ref x :: vs) (upd (upd H1 dx (.own x)) x (.ins C dx [])) (fun v H2 => v = .non ∧ Q (.ref x) H2) (E ss)
theorem run_makeG {CX : CXT} {k : Nat} {C f : Addr} {fd : FuncData} {ps : List Str} {sp : Sp} {E : L2.St → XK} {pins : List (Addr × Obj)} {σ : St} {H : Hp} {s : Shared} {Q : VK} {us : List Value} {vs : List V} (M : Mk X.K C f) (F : FnG X.prog X.w X.K X.mg X.base CX k f fd ps sp) (hr : Room (k + 1) X.A) (hgd : X.A.guards = some []) (hb : Binds X.K fd ps [])
    (hx : ∀ ss H s e s', CX X.stack H s (E ss) e s' → X.xe e s' ∨ True) (hx2 : PassesAt CX X σ (E σ)) (I : Inv X pins σ H s) (r : Vals vs us)
    (h : ∀ x dx, H x = none → H dx = none → dx ≠ x → sp (.ref x :: vs) (upd (upd H dx (.own x)) x (.ins C dx [])) (fun v H2 => v = .non ∧ Q (.ref x) H2) (E σ)) :
    wpAny (model X.prog X.w) X.A (call (.ref C) us) (EP X pins σ Q) X.xe s := by
  have hq := h (s.heap.objs.size + 1) s.heap.objs.size (I.hok.fresh (Nat.le_succ _)) (I.hok.fresh (Nat.le_refl _)) (Nat.ne_of_lt (Nat.lt_succ_self _))
  have I2 := Inv.made (C := C) I
  have r2 : Vals (V.ref (s.heap.objs.size + 1) :: vs) (Value.ref (s.heap.objs.size + 1) :: us) := .cons rfl r
  have hl : (Value.ref (s.heap.objs.size + 1) :: us ++ []).length = ps.length := by
    have e := r2.length
    rw [F.len _ _ _ _ hq] at e
    rw [List.append_nil]
    exact e.symm
  have bd := hb _ (Value.ref (s.heap.objs.size + 1) :: us) I2.kIn hl
  rw [List.append_nil] at bd
  have hg2 : (X.A.under (.builtin "type.__call__" ⟨.ref C :: us, []⟩)).guards = some [] := by
    simp [Around.under, Code.guards, Code.isGuard, guardIds, pushGuards, hgd]
  refine wpAny_call (make_map (f := f) I.kIn M.makes M.init (beq_iff_eq.mp M.fn) (codeAny_mono (F.run _ X.stack _ _ ⟨Value.ref (s.heap.objs.size + 1) :: us, []⟩ (Value.ref (s.heap.objs.size + 1) :: us) _ _ (E σ) (hr.make C us []) hg2
    (I2.env0.make C us []) bd r2 hq) fun r s' hq' => ?_))
  cases r with
  | error e => exact hx2 pins _ _ e s' I2 hq'
  | ok fl =>
    cases fl with
    | ret u =>
      obtain ⟨v, H', I3, rv, ev, q3⟩ := I2.after hq'
      subst ev
      exact ⟨rv, ⟨V.ref (s.heap.objs.size + 1), H', I3, rfl, q3⟩⟩
    | next => exact False.elim hq'
    | brk => exact False.elim hq'
    | cont => exact False.elim hq'
theorem pe_makeG {CX : CXT} {k : Nat} {C f : Addr} {fd : FuncData} {ps : List Str} {sp : Sp} {E : L2.St → XK} {x : Str} {p : Pos} {e : Expr} {es : List Expr} {t : TA} (M : Mk X.K C f) (F : FnG X.prog X.w X.K X.mg X.base CX k f fd ps sp) (hr : Room (k + 1) X.A) (hgd : X.A.guards = some []) (hg : Gl X x) (hm : X.mg x = some (.ref C)) (hb : Binds X.K fd ps []) (hx : ∀ ss, PassesAt CX X ss (E ss))
    (ha : PA X (e :: es) t) (hdb : (x == ("__debug__" : Str)) = false) (he : starEach (e :: es) X.env = (false, eval e X.env) :: starEach es X.env) (hpl : (backTo pos (starEach es X.env)).any (·.1) = false) :
    PE X (.Call (.Name x p) (e :: es) [] pos) (tMakeG C sp E t) := by
  refine ⟨fun pins s σ H Q I h => wpAny_Call_Name_kw (ld_glob I hg hm ?_ hdb)⟩
  exact PySem.W.callWith_K (h₀ := X.base) I.ok.mod.kin M.kp (thn (ha.run pos pins s σ H _ I h) fun us s1 ⟨vs, H1, I1, r, q⟩ => ⟨I1.kIn, run_makeG M F hr hgd hb (fun _ _ _ _ _ _ => .inr trivial) (hx σ) I1 r q⟩) he hpl
theorem pe_makeG0 {CX : CXT} {k : Nat} {C f : Addr} {fd : FuncData} {ps : List Str} {sp : Sp} {E : L2.St → XK} {x : Str} {p : Pos} (M : Mk X.K C f) (F : FnG X.prog X.w X.K X.mg X.base CX k f fd ps sp) (hr : Room (k + 1) X.A) (hgd : X.A.guards = some []) (hg : Gl X x) (hm : X.mg x = some (.ref C)) (hb : Binds X.K fd ps []) (hx : ∀ ss, PassesAt CX X ss (E ss))
    (hdb : (x == ("__debug__" : Str)) = false) : PE X (.Call (.Name x p) [] [] pos) (tMakeG C sp E tNil) := by
  refine ⟨fun pins s σ H Q I h => wpAny_Call_Name_kw (ld_glob I hg hm ?_ hdb)⟩
  exact PySem.W.callWith_K0 I.kIn M.kp (run_makeG (us := []) M F hr hgd hb (fun _ _ _ _ _ _ => .inr trivial) (hx σ) I .nil h)
/-- what is known of a class that is made -/
structure ClsOk (K : PySem.W.Frag) (Z : Ct) (c : Nat) : Prop where
  cl : Cls K (Z.cls c)
  na : ∀ p ∈ Z.tb, NoAttr K (Z.cls c) p.1
  n1 : (Z.tb.map (·.1)).Nodup
  n2 : (Z.tb.map (·.2)).Nodup
theorem mk_ev {c : Nat} {as : Cs} {S : Ste} : ev P (.mk c as) S = match P.meth c 0 with
    | some f => (evs P as S).bind fun xs s => if noPk xs then (match goC P.init f (.r s.hp.length :: xs) { s with hp := s.hp ++ [.live .i (insD c [])] } with
      | .ok (.d .none) s' => .ok (.r s.hp.length) s'
      | .ok _ _ => .stuck
      | .er e s' => .er e s'
      | .stuck => .stuck) else .stuck
    | none => .stuck := by rw [ev] <;> rfl
theorem VDs.stepN {T : Kt} {G G' : Gh} {S S' : Ste} {σ σ' : St} {H H' : Hp} : ∀ {xs : List Vl} {vs : List V}, noPk xs = true → Stp G S σ H G' S' σ' H' → VDs T G S σ H xs vs → VDs T G' S' σ' H' xs vs
  | _, _, _, _, .nil => .nil
  | x :: xs, _, n, st, .cons a r => by
    have h : isPk x = false ∧ noPk xs = true := by cases x <;> first | exact ⟨rfl, n⟩ | cases n
    exact .cons (VD.step h.1 st a) (VDs.stepN h.2 st r)
theorem mk_fin {c f : Nat} {σ : St} {H : Hp} {G : Gh} {S : Ste} {Q : VK} {xs : List Vl} {vs : List V} (ok : ClsOk X.K Z c) (o : Ok (kt X Z) G S σ H) (r : VDs (kt X Z) G S σ H xs vs)
    (p : Post (kt X Z) W (RV (kt X Z)) G S σ H Q (if noPk xs then (match goC P.init f (.r S.hp.length :: xs) { S with hp := S.hp ++ [.live .i (insD c [])] } with
      | .ok (.d .none) s' => .ok (.r S.hp.length) s'
      | .ok _ _ => .stuck
      | .er e s' => .er e s'
      | .stuck => .stuck) else .stuck)) :
    ∀ x dx, H x = none → H dx = none → dx ≠ x → spF (kt X Z) exv none (P.init f) (.ref x :: vs) (upd (upd H dx (.own x)) x (.ins (Z.cls c) dx [])) (fun v H2 => v = .non ∧ Q (.ref x) H2) (EW exv W σ) := by
  intro x dx nx ndx ne
  split at p
  case isFalse => exact p.elim
  rename_i hn
  have sm := Same.upd (o := HO.own x) ndx
  have o1 := o.same sm
  have st1 := Stp.same o sm
  have nx1 : (upd H dx (.own x)) x = none := by rw [upd_ne (Ne.symm ne)]; exact nx
  obtain ⟨o2, k2, s2⟩ := o1.laid (u := .ins (Z.cls c) dx []) nx1 trivial
  have ot : OT (kt X Z) G.io (MM (G.plus [x])) (upd (upd H dx (.own x)) x (.ins (Z.cls c) dx [])) .i (insD c []) (.ref x) [x] :=
    .ins (kvs := []) ⟨ok.cl, ok.na, ok.n1, ok.n2, dx, [], upd_same, rfl, rfl, fun i p q h => by simp at h⟩ .nil
  obtain ⟨o3, c3, _, _⟩ := Ok.cell o2 ot
  have st3 : Stp G S σ H _ _ σ _ := Stp.close (st1.trans s2) ((st1.mono).trans k2) c3
  have hl : G.io.length = S.hp.length := o.hlen
  refine call_fin (call := P.init) (f := f) (xs := .r S.hp.length :: xs) (W := W) o3 (.cons ⟨x, ?_, rfl⟩ (VDs.stepN hn st3 r)) ?_
  · show (G.io ++ [x])[S.hp.length]? = _
    rw [← hl]
    simp
  · have p2 := Post.shift p st3
    cases e : goC P.init f (.r S.hp.length :: xs) { S with hp := S.hp ++ [.live .i (insD c [])] } with
    | ok y S' =>
      rw [e] at p2
      cases y with
      | d d =>
        cases d with
        | none =>
          intro G' v H' o' s' dv
          cases dv
          refine ⟨rfl, p2 G' (.ref x) H' o' s' ⟨x, ?_, rfl⟩⟩
          obtain ⟨l, el⟩ := s'.io
          rw [el]
          show ((G.io ++ [x]) ++ l)[S.hp.length]? = _
          rw [← hl]
          simp
        | _ => exact p2.elim
      | _ => exact p2.elim
    | er cc S' => rw [e] at p2; exact p2
    | stuck => rw [e] at p2; exact p2
theorem se_mk {CX : CXT} {k c f : Nat} {fa : Addr} {fd : FuncData} {ps : List Str} {x : Str} {p : Pos} {e : Expr} {es : List Expr} {as : Cs} (ef : P.meth c 0 = some f) (ok : ClsOk X.K Z c) (M : Mk X.K (Z.cls c) fa) (F : FnG X.prog X.w X.K X.mg X.base CX k fa fd ps (spF (kt X Z) exv none (P.init f))) (hr : Room (k + 1) X.A) (hgd : X.A.guards = some []) (hg : Gl X x) (hm : X.mg x = some (.ref (Z.cls c))) (hb : Binds X.K fd ps []) (hx : ∀ ss, PassesAt CX X ss (EW exv W ss))
    (ha : PA X (e :: es) (tA (kt X Z) W (evs P as))) (hdb : (x == ("__debug__" : Str)) = false) (he : starEach (e :: es) X.env = (false, eval e X.env) :: starEach es X.env) (hpl : (backTo pos (starEach es X.env)).any (·.1) = false) :
    PE X (.Call (.Name x p) (e :: es) [] pos) (tE (kt X Z) W (ev P (.mk c as))) := (pe_makeG M F hr hgd hg hm hb hx ha hdb he hpl).imp fun σ H Q h => by
  obtain ⟨G, S, o, p⟩ := h
  rw [mk_ev, ef] at p
  exact ⟨G, S, o, p.seq fun G1 S1 xs vs H1 o1 st1 r1 p1 => mk_fin ok o1 r1 p1⟩
theorem se_mk0 {CX : CXT} {k c f : Nat} {fa : Addr} {fd : FuncData} {ps : List Str} {x : Str} {p : Pos} (ef : P.meth c 0 = some f) (ok : ClsOk X.K Z c) (M : Mk X.K (Z.cls c) fa) (F : FnG X.prog X.w X.K X.mg X.base CX k fa fd ps (spF (kt X Z) exv none (P.init f))) (hr : Room (k + 1) X.A) (hgd : X.A.guards = some []) (hg : Gl X x) (hm : X.mg x = some (.ref (Z.cls c))) (hb : Binds X.K fd ps []) (hx : ∀ ss, PassesAt CX X ss (EW exv W ss))
    (hdb : (x == ("__debug__" : Str)) = false) : PE X (.Call (.Name x p) [] [] pos) (tE (kt X Z) W (ev P (.mk c .nil))) := (pe_makeG0 M F hr hgd hg hm hb hx hdb).imp fun σ H Q h => by
  obtain ⟨G, S, o, p⟩ := h
  rw [mk_ev, ef] at p
  dsimp only at p
  rw [evs_nil] at p
  exact mk_fin ok o .nil p
end
end EV
end
section
set_option Elab.async false
set_option linter.all false
set_option maxRecDepth 100000
set_option maxHeartbeats 4000000
set_option autoImplicit false
/-! GF: slots that are stored; targets; statements -/
namespace EV
open PySem L2
section
variable {T : Kt} {G : Gh} {E : List Addr} {S : Ste} {σ σ' : St} {H : Hp}
/-- a slot is stored -/
theorem Ok.sset0 (o : Ok T (G.plus E) S σ H) {i : Nat} {y : Slot} (hi : i < S.rho.length) (hl : σ'.length = σ.length) (hσ : ∀ j, j ≠ i → σ'[j]? = σ[j]?)
    (hy : (y = .non ∧ E = []) ∨ (∃ x v, y = .v x ∧ E = [] ∧ σ'[i]? = some (some v) ∧ SD T G H x v) ∨ ∃ sh x v, y = .own sh x ∧ σ'[i]? = some (some v) ∧ OT T G.io (MM (G.plus E)) H sh x v E) :
    Ok T (G.setFp (.s i) E) { S with rho := S.rho.set i y } σ' H ∧ ((∀ q, S.lkd (.s i) ≠ some q) → StpE G E S σ H (G.setFp (.s i) E) { S with rho := S.rho.set i y } σ' H) ∧ (∀ a, MM (G.setFp (.s i) E) a → MM (G.plus E) a) ∧ ∀ a, MW (G.setFp (.s i) E) a → MW (G.plus E) a := by
  obtain ⟨i1, i2, i3⟩ := setFp_io G (.s i) E
  obtain ⟨g1, g2⟩ := set_get (S := S) (y := y) hi
  have self : (S.rho.set i y)[i]? = some y := List.getElem?_set_self hi
  have px : ∀ (t : Option Rt) (a : Addr), a ∈ (G.setFp (.s i) E).fpx t → (t ≠ some (.s i) ∧ a ∈ G.fpx t) ∨ (t = some (.s i) ∧ a ∈ E) := fun t a m => by
    cases t with
    | none => rw [show (G.setFp (.s i) E).fpx none = G.tm from i2] at m; exact .inl ⟨fun z => (nomatch z), m⟩
    | some t =>
      by_cases ht : t = .s i
      · subst ht
        rw [show (G.setFp (.s i) E).fpx (some (.s i)) = E from fp_self G (.s i) E] at m
        exact .inr ⟨rfl, m⟩
      · rw [show (G.setFp (.s i) E).fpx (some t) = G.fp t from fp_ne G E ht] at m
        exact .inl ⟨fun z => ht (by cases z; rfl), m⟩
  have w : ∀ a, MW (G.setFp (.s i) E) a → MW (G.plus E) a := fun a ⟨t, m⟩ => by
    rcases px t a m with ⟨_, m⟩ | ⟨_, m⟩
    · exact plus_mw ⟨t, m⟩
    · exact ⟨none, List.mem_append_left _ m⟩
  have mm : ∀ a, MM (G.setFp (.s i) E) a → MM (G.plus E) a := fun a m => by
    rcases m with m | m
    · exact .inl (w a m)
    · rw [i3] at m; exact .inr m
  have kp : Keeps (MM (G.plus E)) H (MM (G.setFp (.s i) E)) H := fun a u e n => ⟨e, fun z => n (mm a z)⟩
  have dA : ∀ (t : Option Rt) (a : Addr), a ∈ (G.setFp (.s i) E).fpx t → ¬ (G.setFp (.s i) E).A a := fun t a m z => by
    rw [i3] at z
    rcases px t a m with ⟨_, m⟩ | ⟨_, m⟩
    · exact o.dA t a (plus_fpx m) z
    · exact o.dA none a (List.mem_append_left _ m) z
  have rv : ∀ t, t ≠ Rt.s i → rootV (G.setFp (.s i) E) σ' t = rootV G σ t := fun t ht => by
    cases t with
    | s j =>
      have hj : j ≠ i := fun z => ht (by rw [z])
      unfold rootV
      dsimp only
      rw [hσ j hj]
    | c n => rfl
  have rvi : ∀ v, σ'[i]? = some (some v) → rootV (G.setFp (.s i) E) σ' (.s i) = some v := fun v e => by
    unfold rootV
    simp only [e]
  have gi : ({ S with rho := S.rho.set i y } : Ste).get (.s i) = none → E = [] := fun e => by
    simp only [Ste.get, self] at e
    rcases hy with ⟨rfl, h⟩ | ⟨x, v, rfl, h, _⟩ | ⟨sh, x, v, rfl, _⟩
    · exact h
    · exact h
    · cases e
  refine ⟨o.re i1 (by simpa [hl] using o.len) rfl w mm (fun j z h => ?_) (fun t sh1 z h => ?_) (fun t h => ?_) (fun t => ?_) (fun t t' a m m2 => ?_) dA, fun nl => ⟨⟨[], by rw [i1]; simp⟩, i3, kp, dA, ⟨i2, fun _ _ => rfl⟩, fun _ _ => rfl, fun t q e => ?_, fun n e => e, fun a u e => ⟨u, e⟩⟩, mm, w⟩
  · by_cases hj : j = i
    · subst hj
      have h : (S.rho.set j y)[j]? = some (.v z) := h
      rw [self] at h
      cases h
      rcases hy with ⟨h, _⟩ | ⟨x, v, h, rfl, h2, h3⟩ | ⟨sh, x, v, h, _⟩
      · cases h
      · cases h
        exact ⟨v, h2, .inl h3⟩
      · cases h
    · have h : (S.rho.set i y)[j]? = some (.v z) := h
      rw [List.getElem?_set_ne (Ne.symm hj)] at h
      obtain ⟨u, h1, h2⟩ := o.val j z h
      exact ⟨u, by rw [hσ j hj]; exact h1, .inl h2⟩
  · by_cases ht : t = .s i
    · subst ht
      simp only [Ste.get, self] at h
      rcases hy with ⟨rfl, _⟩ | ⟨x, v, rfl, _⟩ | ⟨sh, x, v, rfl, h2, h3⟩
      · cases h
      · cases h
      · cases h
        exact ⟨v, rvi v h2, by rw [fp_self]; exact h3⟩
    · rw [g1 t ht] at h
      obtain ⟨u, h1, h2⟩ := o.own t sh1 z h
      refine ⟨u, by rw [rv t ht]; rw [rootV_plus] at h1; exact h1, ?_⟩
      rw [fp_ne G E ht]
      rw [plus_fp] at h2
      exact h2
  · by_cases ht : t = .s i
    · subst ht
      rw [fp_self]
      exact gi h
    · rw [g1 t ht] at h
      rw [fp_ne G E ht]
      have := o.no t h
      rw [plus_fp] at this
      exact this
  · cases t with
    | none =>
      show (G.setFp (.s i) E).tm.Nodup
      rw [i2]
      exact (List.nodup_append.mp (o.nd none)).2.1
    | some t =>
      show ((G.setFp (.s i) E).fp t).Nodup
      by_cases ht : t = .s i
      · rw [ht, fp_self]; exact o.mine.1
      · rw [fp_ne G E ht]
        have := o.nd (some t)
        rw [show (G.plus E).fpx (some t) = G.fp t from plus_fp t] at this
        exact this
  · rcases px t a m with ⟨n1, c1⟩ | ⟨rfl, c1⟩ <;> rcases px t' a m2 with ⟨n2, c2⟩ | ⟨rfl, c2⟩
    · exact o.dj t t' a (plus_fpx c1) (plus_fpx c2)
    · exact (o.mine.2 a c2 (.inl ⟨t, c1⟩)).elim
    · exact (o.mine.2 a c1 (.inl ⟨t', c2⟩)).elim
    · rfl
  · have ht : t ≠ .s i := fun z => by subst z; exact nl q e
    exact ⟨g2 t q ht e, rv t ht, fp_ne G E ht, fun _ _ => rfl⟩
theorem Ok.sset (o : Ok T (G.plus E) S σ H) {i : Nat} {y : Slot} (hi : i < S.rho.length) (nl : ∀ q, S.lkd (.s i) ≠ some q) (hl : σ'.length = σ.length) (hσ : ∀ j, j ≠ i → σ'[j]? = σ[j]?)
    (hy : (y = .non ∧ E = []) ∨ (∃ x v, y = .v x ∧ E = [] ∧ σ'[i]? = some (some v) ∧ SD T G H x v) ∨ ∃ sh x v, y = .own sh x ∧ σ'[i]? = some (some v) ∧ OT T G.io (MM (G.plus E)) H sh x v E) :
    Ok T (G.setFp (.s i) E) { S with rho := S.rho.set i y } σ' H ∧ StpE G E S σ H (G.setFp (.s i) E) { S with rho := S.rho.set i y } σ' H ∧ (∀ a, MM (G.setFp (.s i) E) a → MM (G.plus E) a) ∧ ∀ a, MW (G.setFp (.s i) E) a → MW (G.plus E) a :=
  let ⟨a, b, c, d⟩ := Ok.sset0 o hi hl hσ hy
  ⟨a, b nl, c, d⟩
theorem open_at {i : Nat} (h : Slot.open S.rho[i]? = true) : i < S.rho.length ∧ ∀ q, S.lkd (.s i) ≠ some q := by
  cases e : S.rho[i]? with
  | none => rw [e] at h; cases h
  | some x =>
    refine ⟨(List.getElem?_eq_some_iff.mp e).1, fun q z => ?_⟩
    unfold Ste.lkd at z
    simp only [e] at z
    cases x with
    | lck sh y => rw [e] at h; cases h
    | _ => cases z
theorem set_same_ne {i : Nat} {u : Option V} : ∀ j, j ≠ i → (σ.set i u)[j]? = σ[j]? := fun j hj => List.getElem?_set_ne (Ne.symm hj)
/-- .. with a value that may be kept -/
theorem Ok.asg (o : Ok T G S σ H) {i : Nat} {x : Vl} {v : V} (hop : Slot.open S.rho[i]? = true) (sd : SD T G H x v) :
    ∃ G', Ok T G' { S with rho := S.rho.set i (.v x) } (σ.set i (some v)) H ∧ Stp G S σ H G' { S with rho := S.rho.set i (.v x) } (σ.set i (some v)) H ∧ (∀ a, MM G' a → MM G a) ∧ ∀ a, MW G' a → MW G a := by
  obtain ⟨hi, nl⟩ := open_at hop
  have hσ : i < σ.length := by rw [← o.len]; exact hi
  obtain ⟨o1, c, m, w⟩ := Ok.sset (E := []) (y := .v x) (σ' := σ.set i (some v)) o hi nl (by simp) set_same_ne (.inr (.inl ⟨x, v, rfl, rfl, List.getElem?_set_self hσ, sd⟩))
  exact ⟨_, o1, c.stp, m, w⟩
/-- what a target is given -/
def WD (T : Kt) (G : Gh) (H : Hp) (w : Bool) (x : D) (v : V) : Prop := Dn T.K (if w then MW G else MM G) H true x v
theorem wv_sd (o : Ok T G S σ H) {w : Bool} {x : D} {v : V} (d : WD T G H w x v) : SD T G H (wv w x) v := by
  unfold wv
  unfold WD at d
  cases w with
  | false => exact d
  | true =>
    cases hf : flat x with
    | true => exact Dn.flat (fun a m => o.tracked m) _ _ _ d hf
    | false => exact d
end
/-! ### targets -/
mutual
def slotsT : Tg → List Nat
  | .nm i => [i]
  | .tp ts => slotsTs ts
def slotsTs : List Tg → List Nat
  | [] => []
  | t :: ts => slotsT t ++ slotsTs ts
end
mutual
inductive TgE (X : Cx) : Expr → Tg → Prop
  | nm {x : Str} {pos : Pos} {i : Nat} : X.N[i]? = some x → Loc X.env.scope x → (X.fn x = true ∨ X.env.scope.names.lookup x = some .local) → TgE X (.Name x pos) (.nm i)
  | tp {es : List Expr} {k : Nat} {pos : Pos} {ts : List Tg} : TgEs X es ts → TgE X (.Tuple es k pos) (.tp ts)
inductive TgEs (X : Cx) : List Expr → List Tg → Prop
  | nil : TgEs X [] []
  | cons {e : Expr} {t : Tg} {es : List Expr} {ts : List Tg} : TgE X e t → TgEs X es ts → TgEs X (e :: es) (t :: ts)
end
/-- behind a target's store -/
def Tgd (T : Kt) (G : Gh) (S : Ste) (σ : St) (H : Hp) (js : List Nat) (rho : List Slot) (Q : St → Hp → Prop) : Prop :=
  ∀ G' σ', Ok T G' { S with rho := rho } σ' H → Stp G S σ H G' { S with rho := rho } σ' H → (∀ j, j ∉ js → σ'[j]? = σ[j]?) → σ'.length = σ.length → (∀ b, MM G' b → MM G b) → (∀ b, MW G' b → MW G b) → Q σ' H
def tG (T : Kt) (w : Bool) (tg : Tg) : TG := fun v σ H Q => ∃ G S x rho, Ok T G S σ H ∧ WD T G H w x v ∧ bindT w tg x S.rho = some rho ∧ Tgd T G S σ H (slotsT tg) rho Q
def WDs (T : Kt) (G : Gh) (H : Hp) (w : Bool) (xs : List D) (vs : List V) : Prop := DnL T.K (if w then MW G else MM G) H xs vs
def tGs (T : Kt) (w : Bool) (ts : List Tg) : TGs := fun vs σ H Q => ∃ G S xs rho, Ok T G S σ H ∧ WDs T G H w xs vs ∧ bindTs w ts xs S.rho = some rho ∧ Tgd T G S σ H (slotsTs ts) rho Q
section
variable {X : Cx} {Z : Ct}
theorem assign1 {e : Expr} {t : Tg} (h : TgE X e t) (es : List Expr) (env : PySem.Env) : assignEach (e :: es) env = (false, assign e env) :: assignEach es env := by
  cases h <;> rfl
theorem assignN {es : List Expr} {ts : List Tg} (h : TgEs X es ts) (env : PySem.Env) : (assignEach es env).length = ts.length ∧ (assignEach es env).findIdx? (·.1) = none := by
  match h with
  | .nil => exact ⟨rfl, rfl⟩
  | .cons (es := es) a r =>
    obtain ⟨h1, h2⟩ := assignN r env
    rw [assign1 a]
    refine ⟨by simp [h1], ?_⟩
    rw [List.findIdx?_cons]
    simp [h2]
theorem bindTs_len {w : Bool} {ts : List Tg} : ∀ {xs : List D} {rho rho' : List Slot}, bindTs w ts xs rho = some rho' → xs.length = ts.length := by
  induction ts with
  | nil =>
    intro xs rho rho' h
    cases xs with
    | nil => rfl
    | cons x xs => unfold bindTs at h; cases h
  | cons t ts ih =>
    intro xs rho rho' h
    cases xs with
    | nil => unfold bindTs at h; cases h
    | cons x xs =>
      unfold bindTs at h
      cases hb : bindT w t x rho with
      | none => rw [hb] at h; cases h
      | some r => rw [hb] at h; simp [ih (show bindTs w ts xs r = some rho' from h)]
section
variable {prog : Program} {w : World} {A : Around} {E : Value → Shared → Prop} {s : Shared}
theorem asg_list {env : PySem.Env} {elts : List Expr} {x1} {pos : Pos} {t : Addr} {items : Array Value} {Q : Unit → Shared → Prop} (hh : A.handled = none) (ht : s.heap.IsList t items)
    (hn : (assignEach elts env).length = items.size) (hstar : (assignEach elts env).findIdx? (·.1) = none)
    (h : ∀ h', Heap.ExtBut s.heap.objs.size s.heap h' → wpAny (model prog w) A (assignInOrder ((assignEach elts env).map (·.2)) items.toList) Q E { s with heap := h' }) :
    wpAny (model prog w) A (assign (.Tuple elts x1 pos) env (.ref t)) Q E s := by
  rw [PyProof.Rows.assign_Tuple]
  refine wpAny_bind (wpAny_standAt ?_)
  unfold unpack
  rw [hn, hstar]
  exact wpAny_bind (wpAny_holding (PySem.W.kun_itemsOf hh ht h))
end
def gSeq (K : PySem.W.Frag) (n : Nat) (t : TGs) : TG := fun v σ H Q => ∃ a xs, v = .ref a ∧ (SqT K H a xs ∨ SqL K H a xs) ∧ xs.length = n ∧ t xs σ H Q
theorem pg_seq {es : List Expr} {k : Nat} {pos : Pos} {t : TGs} {n : Nat} (hc : X.calm = true) (h : PGs X es t)
    (hn : (assignEach es X.env).length = n) (hst : (assignEach es X.env).findIdx? (·.1) = none) : PG X (.Tuple es k pos) (gSeq X.K n t) := by
  refine ⟨fun pins s σ H v u Q I r hw => ?_⟩
  obtain ⟨a, xs, e1, hq, hl, hw⟩ := hw
  rcases hq with hq | hq
  · exact (pg_tup hc h hn hst).run pins s σ H v u Q I r ⟨a, xs, e1, hq, hl, hw⟩
  · subst e1
    cases r
    obtain ⟨its, rv, pl, hz⟩ := I.list hq
    refine asg_list (I.ok.hd hc) pl.isList (by simp [hn, ← hl, rv.length]) hst fun h' hx => ?_
    have I1 : Inv X pins σ H { s with heap := h' } := I.kept (t' := s.toks) fun b o e => hx b o (Nat.ne_of_lt (Heap.lt_size e)) e
    exact h.run pins _ σ H xs _ Q I1 (by simpa using rv) hw
mutual
theorem sg_tg (hc : X.calm = true) (nd : X.N.Nodup) {w : Bool} {e : Expr} {t : Tg} (h : TgE X e t) : PG X e (tG (kt X Z) w t) := by
  match h with
  | .nm (i := i) h1 h2 h3 =>
    refine (pg_name nd h1 h2 h3).imp fun v σ H Q q => ?_
    obtain ⟨G, S, x, rho, o, dn, hb, q⟩ := q
    unfold bindT at hb
    split at hb
    · rename_i hop
      cases hb
      obtain ⟨G', o2, st, m, w2⟩ := o.asg hop (wv_sd o dn)
      exact q G' _ o2 st (fun j hj => List.getElem?_set_ne fun z => hj (by simp [slotsT, z])) (by simp) m w2
    · cases hb
  | .tp (ts := ts) hs =>
    obtain ⟨hl, hst⟩ := assignN hs X.env
    refine (pg_seq hc (sg_tgs (w := w) hc nd hs) hl hst).imp fun v σ H Q q => ?_
    obtain ⟨G, S, x, rho, o, dn, hb, q⟩ := q
    unfold WD at dn
    unfold bindT at hb
    cases x with
    | tuple xs =>
      obtain ⟨a, vs, rfl, h1, l⟩ := dn.sqt
      have hb : bindTs w ts xs S.rho = some rho := hb
      exact ⟨a, vs, rfl, .inl h1, by rw [← l.length]; exact bindTs_len hb, G, S, xs, rho, o, l, hb, q⟩
    | list xs =>
      obtain ⟨a, vs, rfl, h1, l⟩ := dn.sql
      have hb : bindTs w ts xs S.rho = some rho := hb
      exact ⟨a, vs, rfl, .inr h1, by rw [← l.length]; exact bindTs_len hb, G, S, xs, rho, o, l, hb, q⟩
    | _ => cases hb
theorem sg_tgs (hc : X.calm = true) (nd : X.N.Nodup) {w : Bool} {es : List Expr} {ts : List Tg} (h : TgEs X es ts) : PGs X es (tGs (kt X Z) w ts) := by
  match h with
  | .nil =>
    refine ⟨fun pins s σ H vs us Q I r q => pgs_nil.run pins s σ H vs us Q I r ?_⟩
    obtain ⟨G, S, xs, rho, o, l, hb, q⟩ := q
    unfold WDs at l
    cases l with
    | nil =>
      unfold bindTs at hb
      cases hb
      exact ⟨rfl, q G σ o (Stp.refl _ _ _ _) (fun _ _ => rfl) rfl (fun _ h => h) fun _ h => h⟩
    | cons a r => unfold bindTs at hb; cases hb
  | .cons (e := e) (t := t) (es := es) (ts := ts) h1 h2 =>
    refine ⟨fun pins s σ H vs us Q I r q => (pgs_cons (sg_tg (w := w) hc nd h1) (sg_tgs (w := w) hc nd h2) (by rw [assign1 h1]; rfl)).run pins s σ H vs us Q I r ?_⟩
    obtain ⟨G, S, xs, rho, o, l, hb, q⟩ := q
    unfold WDs at l
    cases l with
    | nil => unfold bindTs at hb; cases hb
    | @cons x v xs vs dx l =>
      unfold bindTs at hb
      cases hb1 : bindT w t x S.rho with
      | none => rw [hb1] at hb; cases hb
      | some rho1 =>
        rw [hb1] at hb
        have hb : bindTs w ts xs rho1 = some rho := hb
        refine ⟨v, vs, rfl, G, S, x, rho1, o, dx, hb1, fun G1 σ1 o1 st1 ag1 ln1 less1 lw1 => ⟨G1, { S with rho := rho1 }, xs, rho, o1, ?_, hb, fun G2 σ2 o2 st2 ag2 ln2 less2 lw2 => ?_⟩⟩
        · show DnL _ (if w then MW G1 else MM G1) _ _ _
          refine DnL.anti (fun a m => ?_) _ _ l
          cases w with
          | false => exact less1 a m
          | true => exact lw1 a m
        · refine q G2 σ2 o2 (st1.trans st2) (fun j hj => ?_) (ln2.trans ln1) (fun b h => less1 b (less2 b h)) fun b h => lw1 b (lw2 b h)
          have : j ∉ slotsT t ∧ j ∉ slotsTs ts := by simpa [slotsTs] using hj
          rw [ag2 j this.2, ag1 j this.1]
end
end
end EV
end
section
set_option Elab.async false
set_option linter.all false
set_option maxRecDepth 100000
set_option maxHeartbeats 4000000
set_option autoImplicit false
/-! GF2: statements without loops -/
namespace EV
open PySem L2
def PostS (T : Kt) (W : WX) (nw : Option Sh) (G : Gh) (S : Ste) (σ : St) (H : Hp) (D : Ends) : Out → Prop
  | .nx S' => ∀ G' σ' H', Ok T G' S' σ' H' → Stp G S σ H G' S' σ' H' → D.nx σ' H'
  | .rt x S' => match nw with
    | none => ∀ G' σ' H' v, Ok T G' S' σ' H' → Stp G S σ H G' S' σ' H' → SD T G' H' x v → D.rt v H'
    | some sh => ∃ d, x = .d d ∧ ∀ G' E σ' H' v, Ok T (G'.plus E) S' σ' H' → Stp G S σ H G' S' σ' H' → Keeps (MM G) H (MM (G'.plus E)) H' → OT T G'.io (MM (G'.plus E)) H' sh d v E → D.rt v H'
  | .bk S' => ∀ G' σ' H', Ok T G' S' σ' H' → Stp G S σ H G' S' σ' H' → D.bk σ' H'
  | .ct S' => ∀ G' σ' H', Ok T G' S' σ' H' → Stp G S σ H G' S' σ' H' → D.ct σ' H'
  | .er c S' => ∀ G' σ' H', Ok T G' S' σ' H' → Stp G S σ H G' S' σ' H' → W c σ' H'
  | .stuck => False
def tS (T : Kt) (W : WX) (nw : Option Sh) (r : Ste → Out) : TS := fun D σ H => ∃ G S, Ok T G S σ H ∧ PostS T W nw G S σ H D (r S)
def Res.out {α : Type} (r : Res α) (f : α → Ste → Out) : Out := match r with
  | .ok x s => f x s
  | .er c s => .er c s
  | .stuck => .stuck
section
variable {T : Kt} {W : WX} {nw : Option Sh} {G G1 G2 G3 : Gh} {S S1 S2 S3 : Ste} {σ σ1 σ2 σ3 : St} {H H1 H2 H3 : Hp} {D : Ends} {E : List Addr}
theorem PostS.shift {r : Out} (h : PostS T W nw G S σ H D r) (st : Stp G S σ H G1 S1 σ1 H1) : PostS T W nw G1 S1 σ1 H1 D r := by
  cases r with
  | nx S' => exact fun G' σ' H' o s => h G' σ' H' o (st.trans s)
  | rt x S' =>
    cases nw with
    | none => exact fun G' σ' H' v o s r => h G' σ' H' v o (st.trans s) r
    | some sh =>
      obtain ⟨d, e, h⟩ := h
      exact ⟨d, e, fun G' E σ' H' v o s k ot => h G' E σ' H' v o (st.trans s) (st.mono.trans k) ot⟩
  | bk S' => exact fun G' σ' H' o s => h G' σ' H' o (st.trans s)
  | ct S' => exact fun G' σ' H' o s => h G' σ' H' o (st.trans s)
  | er c S' => exact fun G' σ' H' o s => h G' σ' H' o (st.trans s)
  | stuck => exact h
theorem PostS.seq {α β : Type} {R : RL α β} {Q : β → Hp → Prop} {r : Res α} {f : α → Ste → Out} (h : PostS T W nw G S σ H D (r.out f))
    (k : ∀ G1 S1 x v H1, Ok T G1 S1 σ H1 → Stp G S σ H G1 S1 σ H1 → R σ G1 S1 H1 x v → PostS T W nw G1 S1 σ H1 D (f x S1) → Q v H1) : Post T W R G S σ H Q r := by
  cases r with
  | ok x S' => exact fun G' v H' o s r => k G' S' x v H' o s r (PostS.shift h s)
  | er c S' => exact fun G' H' o s => h G' σ H' o s
  | stuck => exact h
/-- .. of things just made -/
theorem PostS.seqN {sh : Sh} {Q : VK} {r : Res Vl} {f : Vl → Ste → Out} (h : PostS T W nw G S σ H D (r.out f)) (no : ∀ x S', (∀ d, x ≠ .d d) → f x S' = .stuck)
    (k : ∀ G1 E S1 d v H1, Ok T (G1.plus E) S1 σ H1 → Stp G S σ H G1 S1 σ H1 → Keeps (MM G) H (MM (G1.plus E)) H1 → OT T G1.io (MM (G1.plus E)) H1 sh d v E → PostS T W nw G S σ H D (f (.d d) S1) → Q v H1) : PostN T W sh G S σ H Q r := by
  cases r with
  | ok x S' =>
    have h : PostS T W nw G S σ H D (f x S') := h
    cases x with
    | d d => exact fun G' E v H' o s kk ot => k G' E S' d v H' o s kk ot h
    | r n => rw [no (.r n) S' fun d' e => nomatch e] at h; exact h.elim
    | w y => rw [no (.w y) S' fun d' e => nomatch e] at h; exact h.elim
    | k y => rw [no (.k y) S' fun d' e => nomatch e] at h; exact h.elim
    | pk t p => rw [no (.pk t p) S' fun d' e => nomatch e] at h; exact h.elim
  | er c S' => exact fun G' H' o s => h G' σ H' o s
  | stuck => exact h
/-! ### with things just made at hand -/
def PostE (T : Kt) (W : WX) (G : Gh) (E : List Addr) (S : Ste) (σ : St) (H : Hp) (D : Ends) : Out → Prop
  | .nx S' => ∀ G' σ' H', Ok T G' S' σ' H' → StpE G E S σ H G' S' σ' H' → D.nx σ' H'
  | .er c S' => ∀ G' σ' H', Ok T G' S' σ' H' → StpE G E S σ H G' S' σ' H' → W c σ' H'
  | .stuck => False
  | _ => True
theorem PostE.of {r : Out} (h : PostS T W nw G S σ H D r) (st : Stp G S σ H G1 S1 σ1 H1) (k : Keeps (MM G) H (MM (G1.plus E)) H1) : PostE T W G1 E S1 σ1 H1 D r := by
  cases r with
  | nx S' => exact fun G' σ' H' o s => h G' σ' H' o (Stp.close st k s)
  | er c S' => exact fun G' σ' H' o s => h G' σ' H' o (Stp.close st k s)
  | stuck => exact h
  | _ => trivial
theorem Stp.unplus {G' : Gh} (st : Stp (G1.plus E) S1 σ1 H1 G' S2 σ2 H2) : ∃ G2 : Gh, G' = G2.plus E ∧ G2.tm = G1.tm := by
  refine ⟨{ G' with tm := G1.tm }, ?_, rfl⟩
  have h := st.tm.1
  cases G'
  unfold Gh.plus at h ⊢
  dsimp only at h ⊢
  rw [h]
theorem StpE.pre (s : Stp (G1.plus E) S1 σ1 H1 (G2.plus E) S2 σ2 H2) (tm : G2.tm = G1.tm) (c : StpE G2 E S2 σ2 H2 G3 S3 σ3 H3) : StpE G1 E S1 σ1 H1 G3 S3 σ3 H3 := by
  refine ⟨?_, c.A.trans s.A, s.mono.trans c.mono, c.dA, ⟨c.tm.1.trans tm, fun a h => ?_⟩, fun a h => ?_, fun t q e => ?_, fun n e => c.hid n (s.hid n e), fun a o e => let ⟨o1, e1⟩ := s.tr a o e; c.tr a o1 e1⟩
  · obtain ⟨l, e⟩ := s.io
    obtain ⟨l2, e2⟩ := c.io
    have e : G2.io = G1.io ++ l := e
    exact ⟨l ++ l2, by rw [e2, e, List.append_assoc]⟩
  · rw [c.tm.2 a (by rw [tm]; exact h), s.tm.2 a (List.mem_append_right _ h)]
  · have e : G2.A = G1.A := s.A
    rw [c.anon a (by rw [e]; exact h), s.anon a h]
  · obtain ⟨e1, e2, e3, e4⟩ := s.lck t q e
    obtain ⟨f1, f2, f3, f4⟩ := c.lck t q e1
    rw [rootV_plus, rootV_plus] at e2
    rw [plus_fp, plus_fp] at e3
    refine ⟨f1, f2.trans e2, f3.trans e3, fun c m => ?_⟩
    rw [f4 c (by rw [e3]; exact m), e4 c (by rw [plus_fp]; exact m)]
theorem StpE.dropped (o : Ok T (G1.plus E) S1 σ1 H1) : StpE G1 E S1 σ1 H1 G1 S1 σ1 H1 :=
  ⟨⟨[], by simp⟩, rfl, fun a u e n => ⟨e, fun z => n (plus_mm z)⟩, fun t a m => o.dA t a (plus_fpx m), ⟨rfl, fun _ _ => rfl⟩, fun _ _ => rfl, fun _ _ e => ⟨e, rfl, rfl, fun _ _ => rfl⟩, fun _ e => e, fun _ u e => ⟨u, e⟩⟩
theorem PostE.shift {r : Out} (h : PostE T W G1 E S1 σ1 H1 D r) (s : Stp (G1.plus E) S1 σ1 H1 (G2.plus E) S2 σ2 H2) (tm : G2.tm = G1.tm) : PostE T W G2 E S2 σ2 H2 D r := by
  cases r with
  | nx S' => exact fun G' σ' H' o c => h G' σ' H' o (StpE.pre s tm c)
  | er c S' => exact fun G' σ' H' o c => h G' σ' H' o (StpE.pre s tm c)
  | stuck => exact h
  | _ => trivial
theorem PostE.seq {α β : Type} {R : RL α β} {Q : β → Hp → Prop} {r : Res α} {f : α → Ste → Out} (h : PostE T W G E S σ H D (r.out f))
    (k : ∀ G1 S1 x v H1, Ok T (G1.plus E) S1 σ H1 → Stp (G.plus E) S σ H (G1.plus E) S1 σ H1 → R σ (G1.plus E) S1 H1 x v → PostE T W G1 E S1 σ H1 D (f x S1) → Q v H1) : Post T W R (G.plus E) S σ H Q r := by
  cases r with
  | ok x S' =>
    intro G' v H' o s r
    obtain ⟨G1, rfl, tm⟩ := s.unplus
    exact k G1 S' x v H' o s r (PostE.shift h s tm)
  | er c S' =>
    intro G' H' o s
    obtain ⟨G1, rfl, tm⟩ := s.unplus
    exact h G1 σ H' o.drop (StpE.pre s tm (StpE.dropped o))
  | stuck => exact h
theorem PostE.held {α β : Type} {R : RL α β} {x : Vl} {v : V} {r : Ste → Res α} {f : α → Ste → Out} {Q' : β → Hp → Prop} (rc : RCong R) (o : Ok T (G.plus E) S σ H) (hx : VD T (G.plus E) S σ H x v) (h : PostE T W G E S σ H D ((x.held S r).out f))
    (k : ∀ G2 S2 y u H2, Ok T (G2.plus E) S2 σ H2 → Stp (G.plus E) S σ H (G2.plus E) S2 σ H2 → VD T (G2.plus E) S2 σ H2 x v → R σ (G2.plus E) S2 H2 y u → PostE T W G2 E S2 σ H2 D (f y S2) → Q' u H2) : At T W R r σ H Q' := by
  have plain : isPk x = false → x.held S r = r S := fun n => by cases x <;> first | rfl | cases n
  cases hp : isPk x with
  | false =>
    rw [plain hp] at h
    exact ⟨G.plus E, S, o, h.seq fun G2 S2 y u H2 o2 st2 r2 p2 => k G2 S2 y u H2 o2 st2 (VD.step hp st2 hx) r2 p2⟩
  | true =>
    cases x with
    | pk t p =>
      have h : PostE T W G E S σ H D (((r (S.lock t)).map (fun s => s.unlock t (S.free t)) id).out f) := h
      refine ⟨G.plus E, S.lock t, o.lock t, ?_⟩
      cases e : r (S.lock t) with
      | ok y S2 =>
        rw [e] at h
        intro G' u H2 o2 st2 r2
        obtain ⟨G2, rfl, tm⟩ := st2.unplus
        have s2 := Stp.unlock st2
        exact k G2 (S2.unlock t (S.free t)) y u H2 (o2.unlock _ _) s2 ((VD.held o hx st2).congr (unlock_get S2 t _)) (rc _ _ _ _ _ _ _ (unlock_get S2 t _) r2) (PostE.shift (show PostE T W G E S σ H D (f y (S2.unlock t (S.free t))) from h) s2 tm)
      | er c S2 =>
        rw [e] at h
        intro G' H2 o2 st2
        obtain ⟨G2, rfl, tm⟩ := st2.unplus
        have o3 := o2.unlock t (S.free t)
        exact h G2 σ H2 o3.drop (StpE.pre (Stp.unlock st2) tm (StpE.dropped o3))
      | stuck => rw [e] at h; exact h
    | _ => cases hp
/-- slots are forgotten -/
theorem Ok.kill : ∀ {vs : List Nat} {rho : List Slot}, Ok T G S σ H → killR S.rho vs = some rho → ∃ G', Ok T G' { S with rho := rho } σ H ∧ Stp G S σ H G' { S with rho := rho } σ H
  | [], rho, o, e => by
    cases e
    exact ⟨G, o, Stp.refl _ _ _ _⟩
  | v :: vs, rho, o, e => by
    unfold killR at e
    cases e1 : killR S.rho vs with
    | none => rw [e1] at e; cases e
    | some r =>
      rw [e1] at e
      have e : (if Slot.open r[v]? then some (r.set v .non) else none) = some rho := e
      split at e
      · rename_i hop
        cases e
        obtain ⟨G1, o1, s1⟩ := Ok.kill o e1
        obtain ⟨hi, nl⟩ := open_at (S := { S with rho := r }) hop
        obtain ⟨o2, c, _, _⟩ := Ok.sset (E := []) (y := .non) (σ' := σ) o1 hi nl rfl (fun _ _ => rfl) (.inl ⟨rfl, rfl⟩)
        exact ⟨_, o2, s1.trans c.stp⟩
      · cases e
end
section
variable {X : Cx} {Z : Ct} {W : WX} {P : Env} {pos : Pos} {nw : Option Sh}
/-! ### stores -/
theorem set_ev {i : Nat} {e : C} {S : Ste} : exS P (.set i e) S = (ev P e S).out fun x s => match x with
    | .pk _ _ => .stuck
    | .k _ => .stuck
    | x => if Slot.open s.rho[i]? then .nx { s with rho := s.rho.set i (.v x) } else .stuck := by
  rw [exS]
  cases ev P e S with
  | ok x s => cases x <;> rfl
  | er c s => rfl
  | stuck => rfl
theorem set_fin {T : Kt} {i : Nat} {x : Vl} {v : V} {G : Gh} {S : Ste} {σ : St} {H : Hp} {D : Ends} (o : Ok T G S σ H) (r : SD T G H x v)
    (p : PostS T W nw G S σ H D (if Slot.open S.rho[i]? then .nx { S with rho := S.rho.set i (.v x) } else .stuck)) : D.nx (σ.set i (some v)) H := by
  split at p
  · rename_i hop
    obtain ⟨G', o2, st, _, _⟩ := o.asg hop r
    exact p G' _ H o2 st
  · exact p.elim
theorem r_set {i : Nat} {e : C} {D : Ends} {σ : St} {H : Hp} (h : tS (kt X Z) W nw (exS P (.set i e)) D σ H) : tAsg (tE (kt X Z) W (ev P e)) (gName i) D σ H := by
  obtain ⟨G, S, o, p⟩ := h
  rw [set_ev] at p
  refine ⟨G, S, o, p.seq fun G1 S1 x v H1 o1 st1 r1 p1 => ?_⟩
  cases x with
  | d x => exact set_fin (x := .d x) o1 r1 p1
  | r n => exact set_fin (x := .r n) o1 r1 p1
  | w x => exact set_fin (x := .w x) o1 r1 p1
  | k x => exact p1.elim
  | pk t p => exact p1.elim
theorem setO_ev {i : Nat} {sh : Sh} {e : C} {S : Ste} : exS P (.setO i sh e) S = (ev P e S).out fun x s => match x with
    | .d x => if Slot.open s.rho[i]? then .nx { s with rho := s.rho.set i (.own sh x) } else .stuck
    | _ => .stuck := by
  rw [exS]
  cases ev P e S with
  | ok x s => cases x <;> rfl
  | er c s => rfl
  | stuck => rfl
theorem r_setO {i : Nat} {sh : Sh} {e : C} {D : Ends} {σ : St} {H : Hp} (h : tS (kt X Z) W nw (exS P (.setO i sh e)) D σ H) : tAsg (tN (kt X Z) W sh (ev P e)) (gName i) D σ H := by
  obtain ⟨G, S, o, p⟩ := h
  rw [setO_ev] at p
  refine ⟨G, S, o, p.seqN (fun x S' hx => ?_) fun G1 E S1 d v H1 o1 st1 k1 c1 p1 => ?_⟩
  · cases x with
    | d d => exact (hx d rfl).elim
    | _ => rfl
  · dsimp only at p1
    split at p1
    · rename_i hop
      obtain ⟨hi, nl⟩ := open_at hop
      have hσ : i < σ.length := by rw [← o1.len]; exact hi
      obtain ⟨o2, c, _, _⟩ := Ok.sset (y := .own sh d) (σ' := σ.set i (some v)) o1 hi nl (by simp) set_same_ne (.inr (.inr ⟨sh, d, v, rfl, List.getElem?_set_self hσ, c1⟩))
      exact p1 _ _ H1 o2 (Stp.close st1 k1 c)
    · exact p1.elim
/-- a target, of frozen data or of data that is but looked at -/
def tGx (T : Kt) (tg : Tg) : TG := fun v σ H Q => ∃ w, tG T w tg v σ H Q
theorem sg_tgx (hc : X.calm = true) (nd : X.N.Nodup) {e : Expr} {t : Tg} (h : TgE X e t) : PG X e (tGx (kt X Z) t) := ⟨fun pins s σ H v u Q I r ⟨w, q⟩ => (sg_tg (w := w) hc nd h).run pins s σ H v u Q I r q⟩
def Vl.wd : Vl → Option (Bool × D)
  | .d x => some (false, x)
  | .w x => some (true, x)
  | _ => none
theorem setT_ev {ts : List Tg} {e : C} {S : Ste} : exS P (.setT ts e) S = (ev P e S).out fun x s => match x.wd with
    | some (w, x) => (match bindT w (.tp ts) x s.rho with
      | some rho => .nx { s with rho := rho }
      | none => .stuck)
    | none => .stuck := by
  rw [exS]
  cases ev P e S with
  | ok x s => cases x <;> rfl
  | er c s => rfl
  | stuck => rfl
theorem r_setT {ts : List Tg} {e : C} {D : Ends} {σ : St} {H : Hp} (h : tS (kt X Z) W nw (exS P (.setT ts e)) D σ H) : tAsg (tE (kt X Z) W (ev P e)) (tGx (kt X Z) (.tp ts)) D σ H := by
  obtain ⟨G, S, o, p⟩ := h
  rw [setT_ev] at p
  refine ⟨G, S, o, p.seq fun G1 S1 x v H1 o1 st1 r1 p1 => ?_⟩
  have fin : ∀ w d, WD (kt X Z) G1 H1 w d v → PostS (kt X Z) W nw G1 S1 σ H1 D (match bindT w (.tp ts) d S1.rho with
      | some rho => .nx { S1 with rho := rho }
      | none => .stuck) → tGx (kt X Z) (.tp ts) v σ H1 D.nx := fun w d wd p1 => by
    cases eb : bindT w (.tp ts) d S1.rho with
    | none => rw [eb] at p1; exact p1.elim
    | some rho =>
      rw [eb] at p1
      exact ⟨w, G1, S1, d, rho, o1, wd, eb, fun G' σ' o2 st2 _ _ _ _ => p1 G' σ' H1 o2 st2⟩
  cases x with
  | d x => exact fin false x r1 p1
  | w x => exact fin true x r1 p1
  | _ => exact p1.elim
/-! ### the rest -/
theorem expr_ev {e : C} {S : Ste} : exS P (.expr e) S = (ev P e S).out fun _ s => .nx s := by
  rw [exS]
  cases ev P e S <;> rfl
theorem r_expr {e : C} {D : Ends} {σ : St} {H : Hp} (h : tS (kt X Z) W nw (exS P (.expr e)) D σ H) : tDrop (tE (kt X Z) W (ev P e)) D σ H := by
  obtain ⟨G, S, o, p⟩ := h
  rw [expr_ev] at p
  exact ⟨G, S, o, p.seq fun G1 S1 x v H1 o1 st1 r1 p1 => p1 G1 σ H1 o1 (Stp.refl _ _ _ _)⟩
theorem ret_ev {e : C} {S : Ste} : exS P (.ret e) S = (ev P e S).out fun x s => match x with
    | .d x => .rt (.d x) s
    | .r n => .rt (.r n) s
    | .w x => if flat x then .rt (.d x) s else .stuck
    | _ => .stuck := by
  rw [exS]
  cases ev P e S with
  | ok x s => cases x <;> rfl
  | er c s => rfl
  | stuck => rfl
theorem r_ret {e : C} {D : Ends} {σ : St} {H : Hp} (h : tS (kt X Z) W none (exS P (.ret e)) D σ H) : tRet (tE (kt X Z) W (ev P e)) D σ H := by
  obtain ⟨G, S, o, p⟩ := h
  rw [ret_ev] at p
  refine ⟨G, S, o, p.seq fun G1 S1 x v H1 o1 st1 r1 p1 => ?_⟩
  cases x with
  | d x => exact p1 G1 σ H1 v o1 (Stp.refl _ _ _ _) r1
  | r n => exact p1 G1 σ H1 v o1 (Stp.refl _ _ _ _) r1
  | w x =>
    dsimp only at p1
    split at p1
    · rename_i hf
      exact p1 G1 σ H1 v o1 (Stp.refl _ _ _ _) (Dn.flat (fun a m => o1.tracked m) _ _ _ r1 hf)
    · exact p1.elim
  | k x => exact p1.elim
  | pk t p => exact p1.elim
/-- .. of what is new -/
theorem r_retN2 {sh : Sh} {e : C} {D : Ends} {σ : St} {H : Hp} (h : tS (kt X Z) W (some sh) (exS P (.ret e)) D σ H) (nr : ∀ S x S', ev P e S = .ok x S' → ∃ d, x = .d d) : tRet (tN (kt X Z) W sh (ev P e)) D σ H := by
  obtain ⟨G, S, o, p⟩ := h
  rw [ret_ev] at p
  refine ⟨G, S, o, ?_⟩
  cases ee : ev P e S with
  | ok x S1 =>
    rw [ee] at p
    obtain ⟨d, rfl⟩ := nr _ _ _ ee
    obtain ⟨d', e', p⟩ := (show PostS (kt X Z) W (some sh) G S σ H D (.rt (.d d) S1) from p)
    cases e'
    exact fun G' E v H' o' st k ot => p G' E σ H' v o' st k ot
  | er c S1 => rw [ee] at p; exact fun G' H' o' s => p G' σ H' o' s
  | stuck => rw [ee] at p; exact p
theorem r_retN {D : Ends} {σ : St} {H : Hp} (h : tS (kt X Z) W none (exS P .retN) D σ H) : tRetN D σ H := by
  obtain ⟨G, S, o, p⟩ := h
  rw [exS] at p
  exact p G σ H .non o (Stp.refl _ _ _ _) .non
theorem r_retNn {sh : Sh} {D : Ends} {σ : St} {H : Hp} (h : tS (kt X Z) W (some (.o sh)) (exS P .retN) D σ H) : tRetN D σ H := by
  obtain ⟨G, S, o, p⟩ := h
  rw [exS] at p
  obtain ⟨d, e, p⟩ := p
  cases e
  exact p G [] σ H .non o (Stp.refl _ _ _ _) (Keeps.refl _ _) (.at rfl)
theorem r_pass {D : Ends} {σ : St} {H : Hp} (h : tS (kt X Z) W nw (exS P .pass) D σ H) : tNext D σ H := by
  obtain ⟨G, S, o, p⟩ := h
  rw [exS] at p
  exact p G σ H o (Stp.refl _ _ _ _)
theorem r_brk {D : Ends} {σ : St} {H : Hp} (h : tS (kt X Z) W nw (exS P .brk) D σ H) : tBreak D σ H := by
  obtain ⟨G, S, o, p⟩ := h
  rw [exS] at p
  exact p G σ H o (Stp.refl _ _ _ _)
theorem r_cnt {D : Ends} {σ : St} {H : Hp} (h : tS (kt X Z) W nw (exS P .cnt) D σ H) : tCont D σ H := by
  obtain ⟨G, S, o, p⟩ := h
  rw [exS] at p
  exact p G σ H o (Stp.refl _ _ _ _)
theorem r_raise {c : Nat} {D : Ends} {σ : St} {H : Hp} (h : tS (kt X Z) W nw (exS P (.raise c)) D σ H) : W c σ H := by
  obtain ⟨G, S, o, p⟩ := h
  rw [exS] at p
  exact p G σ H o (Stp.refl _ _ _ _)
theorem ite_evS {t : C} {a b : CSs} {S : Ste} : exS P (.ite t a b) S = (evB P t S).out fun c s => if c then exs P a s else exs P b s := by
  rw [exS]
  unfold evB
  cases ev P t S with
  | ok x s =>
    simp only [Res.bind]
    cases (s.res x).bind truth with
    | none => rfl
    | some c => cases c <;> rfl
  | er c s => rfl
  | stuck => rfl
theorem r_if {t : C} {a b : CSs} {D : Ends} {σ : St} {H : Hp} (h : tS (kt X Z) W nw (exS P (.ite t a b)) D σ H) : tIfS (tT (kt X Z) W (evB P t)) (tS (kt X Z) W nw (exs P a)) (tS (kt X Z) W nw (exs P b)) D σ H := by
  obtain ⟨G, S, o, p⟩ := h
  rw [ite_evS] at p
  refine ⟨G, S, o, p.seq fun G1 S1 c v H1 o1 st1 r1 p1 => ?_⟩
  have r1 : c = v := r1
  subst r1
  cases c with
  | true => exact ⟨G1, S1, o1, p1⟩
  | false => exact ⟨G1, S1, o1, p1⟩
/-! ### rows of statements -/
theorem r_nil {D : Ends} {σ : St} {H : Hp} (h : tS (kt X Z) W nw (exs P .nil) D σ H) : tNext D σ H := by
  obtain ⟨G, S, o, p⟩ := h
  rw [exs] at p
  exact p G σ H o (Stp.refl _ _ _ _)
theorem r_cons {c : CS} {r : CSs} {D : Ends} {σ : St} {H : Hp} (h : tS (kt X Z) W nw (exs P (.cons c r)) D σ H) : tSeq (tS (kt X Z) W nw (exS P c)) (tS (kt X Z) W nw (exs P r)) D σ H := by
  obtain ⟨G, S, o, p⟩ := h
  rw [exs] at p
  refine ⟨G, S, o, ?_⟩
  cases e : exS P c S with
  | nx S' => rw [e] at p; exact fun G' σ' H' o' s => ⟨G', S', o', PostS.shift p s⟩
  | rt x S' => rw [e] at p; exact p
  | bk S' => rw [e] at p; exact p
  | ct S' => rw [e] at p; exact p
  | er c S' => rw [e] at p; exact p
  | stuck => rw [e] at p; exact p
/-- slots that are forgotten: nothing is done -/
theorem r_kill {vs : List Nat} {r : CSs} {D : Ends} {σ : St} {H : Hp} (h : tS (kt X Z) W nw (exs P (.cons (.kill vs) r)) D σ H) : tS (kt X Z) W nw (exs P r) D σ H := by
  obtain ⟨G, S, o, p⟩ := h
  rw [exs, exS] at p
  cases e : killR S.rho vs with
  | none => rw [e] at p; exact p.elim
  | some rho =>
    rw [e] at p
    obtain ⟨G', o', st⟩ := o.kill e
    exact ⟨G', _, o', PostS.shift p st⟩
theorem while_ev {t : C} {b : CSs} {S : Ste} : exS P (.while t b) S = whileLoop (evB P t) (exs P b) wfuel S := by
  rw [exS] <;> rfl
theorem r_while {t : C} {b : CSs} {D : Ends} {σ : St} {H : Hp} (h : tS (kt X Z) W nw (exS P (.while t b)) D σ H) : tWhile (tT (kt X Z) W (evB P t)) (tS (kt X Z) W nw (exs P b)) D σ H := by
  obtain ⟨G, S, o, p⟩ := h
  rw [while_ev] at p
  refine ⟨fun m σ2 H2 => ∃ G2 S2, Ok (kt X Z) G2 S2 σ2 H2 ∧ PostS (kt X Z) W nw G2 S2 σ2 H2 D (whileLoop (evB P t) (exs P b) m S2), ⟨wfuel, G, S, o, p⟩, ?_⟩
  rintro m σ2 H2 ⟨G2, S2, o2, p2⟩
  cases m with
  | zero => exact p2.elim
  | succ m =>
    unfold whileLoop at p2
    refine ⟨G2, S2, o2, ?_⟩
    cases et : evB P t S2 with
    | er c S' => rw [et] at p2; exact fun G' H' o s => p2 G' σ2 H' o s
    | stuck => rw [et] at p2; exact p2
    | ok c S3 =>
      rw [et] at p2
      intro G3 c' H3 o3 st3 hc
      have hc : c = c' := hc
      subst hc
      cases c with
      | false => exact p2 G3 σ2 H3 o3 st3
      | true =>
        refine ⟨fun σ' H' => ∃ G2 S2, Ok (kt X Z) G2 S2 σ' H' ∧ PostS (kt X Z) W nw G2 S2 σ' H' D (whileLoop (evB P t) (exs P b) m S2), fun σ' H' hN => ⟨m, Nat.lt_succ_self _, hN⟩, G3, S3, o3, ?_⟩
        have p3 := PostS.shift p2 st3
        dsimp only at p3
        cases ex : exs P b S3 with
        | nx S' => rw [ex] at p3; exact fun G' σ' H' o' s => ⟨G', S', o', PostS.shift p3 s⟩
        | ct S' => rw [ex] at p3; exact fun G' σ' H' o' s => ⟨G', S', o', PostS.shift p3 s⟩
        | bk S' => rw [ex] at p3; exact p3
        | rt x S' => rw [ex] at p3; exact p3
        | er c S' => rw [ex] at p3; exact p3
        | stuck => rw [ex] at p3; exact p3
end
end EV
end
section
set_option Elab.async false
set_option linter.all false
set_option maxRecDepth 100000
set_option maxHeartbeats 4000000
set_option autoImplicit false
/-! GF3: stores into trees -/
namespace EV
open PySem L2
section
variable {T : Kt} {io : List Addr} {M : Addr → Prop} {H : Hp}
theorem OTs.lens : ∀ {ss : List Sh} {xs : List D} {vs : List V} {F : List Addr}, OTs T io M H ss xs vs F → ss.length = xs.length ∧ xs.length = vs.length
  | _, _, _, _, .nil => ⟨rfl, rfl⟩
  | _, _, _, _, .cons a r => by
    obtain ⟨h1, h2⟩ := OTs.lens r
    simp [h1, h2]
theorem OTs.upd1 {s : Sh} {x' : D} {v' : V} {E : List Addr} (ot : OT T io M H s x' v' E) : ∀ {ss : List Sh} {xs : List D} {vs : List V} {F : List Addr} {i : Nat}, OTs T io M H ss xs vs F → ss[i]? = some s →
    ∃ F', OTs T io M H ss (xs.set i x') (vs.set i v') F' ∧ (∀ a ∈ F', a ∈ F ++ E) ∧ ((F ++ E).Nodup → F'.Nodup)
  | _, _, _, _, i, .nil, h => by simp at h
  | _, _, _, _, 0, .cons (F := F1) (F' := F2) a r, h => by
    simp only [List.getElem?_cons_zero, Option.some.injEq] at h
    subst h
    refine ⟨E ++ F2, .cons ot r, fun b m => ?_, fun n => ?_⟩
    · simp at m ⊢; rcases m with m | m <;> simp [m]
    · obtain ⟨n1, n2, n3⟩ := List.nodup_append.mp n
      obtain ⟨_, n4, _⟩ := List.nodup_append.mp n1
      exact List.nodup_append.mpr ⟨n2, n4, fun a m b m2 q => n3 b (List.mem_append_right _ m2) a m q.symm⟩
  | _, _, _, _, i + 1, .cons (F := F1) (F' := F2) a r, h => by
    rw [List.getElem?_cons_succ] at h
    obtain ⟨F', o', sub, nd⟩ := OTs.upd1 ot r h
    refine ⟨F1 ++ F', .cons a o', fun b m => ?_, fun n => ?_⟩
    · rcases List.mem_append.mp m with m | m
      · simp [m]
      · have := sub b m
        simp at this ⊢
        rcases this with q | q <;> simp [q]
    · obtain ⟨n1, n2, n3⟩ := List.nodup_append.mp n
      obtain ⟨n4, n5, n6⟩ := List.nodup_append.mp n1
      refine List.nodup_append.mpr ⟨n4, nd (List.nodup_append.mpr ⟨n5, n2, fun a m b m2 => n3 a (List.mem_append_right _ m) b m2⟩), fun a m b m2 => ?_⟩
      rcases List.mem_append.mp (sub b m2) with q | q
      · exact n6 a m b q
      · exact n3 a (List.mem_append_left _ m) b q
theorem OTs.snoc {s : Sh} {x : D} {v : V} {E : List Addr} (ot : OT T io M H s x v E) : ∀ {ss : List Sh} {xs : List D} {vs : List V} {F : List Addr}, OTs T io M H ss xs vs F → OTs T io M H (ss ++ [s]) (xs ++ [x]) (vs ++ [v]) (F ++ E)
  | _, _, _, _, .nil => by
    have := OTs.cons (F' := []) ot OTs.nil
    simpa using this
  | _, _, _, _, .cons a r => by
    have := OTs.cons a (OTs.snoc ot r)
    simpa using this
/-- an item put into a dict -/
theorem OTs.dput {s : Sh} {x : D} {v : V} {E : List Addr} (ot : OT T io M H s x v E) {kvs : List (D × D)} {vs : List V} {F : List Addr} {k : D} (r : OTs T io M H (List.replicate kvs.length s) (kvs.map (·.2)) vs F) :
    ∃ F', OTs T io M H (List.replicate (dPut kvs k x).length s) ((dPut kvs k x).map (·.2)) (vPut kvs vs k v) F' ∧ (∀ a ∈ F', a ∈ F ++ E) ∧ ((F ++ E).Nodup → F'.Nodup) := by
  unfold dPut vPut
  cases e : dIx kvs k with
  | none =>
    refine ⟨F ++ E, ?_, fun a m => m, fun n => n⟩
    have := OTs.snoc ot r
    simpa [List.replicate_succ'] using this
  | some i =>
    have hi := dIx_lt e
    obtain ⟨F', o', sub, nd⟩ := OTs.upd1 ot r (i := i) (by rw [List.getElem?_replicate, if_pos hi])
    refine ⟨F', ?_, sub, nd⟩
    dsimp only
    rw [modify_snd, List.length_modify]
    exact o'
end
section
variable {X : Cx} {Z : Ct} {W : WX} {P : Env} {pos : Pos} {nw : Option Sh}
/-! ### a place, a key -/
def putP (P : Env) (p : Plc) (k : C) (g : Rt → List Nat → Vl → Ste → Out) (s : Ste) : Out := (evP P p s).out fun l s => match l.in with
  | some (t, q) => if (s.at t q).isSome then ((Vl.pk t q).held s fun s => ev P k s).out fun x s => g t q x s else .stuck
  | none => .stuck
def putFin (sh : Sh) (oy : Option D) (t : Rt) (q : List Nat) (x : Vl) (s : Ste) : Out := if s.free t then (match s.get t, s.at t q, x.dat, oy with
        | some (_, z), some (.o sh', o), some k, some y => if sh' = sh then (match putD o k y with
          | some o' => .nx (s.putR t (setAt z q o'))
          | none => .stuck) else .stuck
        | _, _, _, _ => .stuck) else .stuck
theorem put_ev {p : Plc} {sh : Sh} {k v : C} {S : Ste} : exS P (.put p sh k v) S = (ev P v S).out fun y s => putP P p k (putFin sh (part sh y)) s := by
  rw [exS]
  cases ev P v S with
  | ok y s =>
    simp only [Res.out]
    unfold putP
    cases evP P p s with
    | ok l s =>
      simp only [Res.bind, Res.out]
      cases l.in with
      | none => rfl
      | some tq =>
        obtain ⟨t, q⟩ := tq
        by_cases hs : (s.at t q).isSome = true
        · simp only [if_pos hs, Vl.held]
          cases s.held t (fun s => ev P k s) <;> rfl
        · simp only [if_neg hs]
    | er c s => rfl
    | stuck => rfl
  | er c s => rfl
  | stuck => rfl
theorem put_at {G : Gh} {E : List Addr} {S : Ste} {σ : St} {H : Hp} {D : Ends} {p : Plc} {k : C} {g : Rt → List Nat → Vl → Ste → Out} {R : V → V → Hp → Prop} (o : Ok (kt X Z) (G.plus E) S σ H) (h : PostE (kt X Z) W G E S σ H D (putP P p k g S))
    (f : ∀ G2 S2 H2 t q x a i, Ok (kt X Z) (Gh.plus G2 E) S2 σ H2 → Stp (G.plus E) S σ H (G2.plus E) S2 σ H2 → VD (kt X Z) (G2.plus E) S2 σ H2 (.pk t q) a → VD (kt X Z) (G2.plus E) S2 σ H2 x i → PostE (kt X Z) W G2 E S2 σ H2 D (g t q x S2) → R a i H2) :
    tP (kt X Z) W (evP P p) σ H fun o H1 => tE (kt X Z) W (ev P k) σ H1 fun i H2 => R o i H2 := by
  unfold putP at h
  refine ⟨G.plus E, S, o, h.seq fun G1 S1 l v H1 o1 st1 r1 p1 => ?_⟩
  cases el : l.in with
  | none => rw [el] at p1; exact p1.elim
  | some tq =>
    obtain ⟨t, q⟩ := tq
    rw [el] at p1
    dsimp only at p1
    split at p1
    case isFalse => exact p1.elim
    rename_i hs
    obtain ⟨r, er⟩ := Option.isSome_iff_exists.mp hs
    have vd : VD (kt X Z) (G1.plus E) S1 σ H1 (.pk t q) v := in_vd r1 el er
    exact PostE.held rc_V o1 vd p1 fun G2 S2 x i H2 o2 st2 vd2 r2 p2 => f G2 S2 H2 t q x v i o2 (st1.trans st2) vd2 r2 p2
/-- a list's or a dict's item -/
def rPut (K : PySem.W.Frag) : TSet := fun o i v H Q => rSetL o i v H Q ∨ ∃ a kvs vs kd vd M, o = .ref a ∧ DK H a kvs vs ∧ keyOk kvs kd = true ∧ Dn K M H true kd i ∧ kvs.length < sizeLine ∧
  ∀ ob, notTup ob → DK (upd H a ob) a (dPut kvs kd vd) (vPut kvs vs kd v) → Q (upd H a ob)
theorem set_put (hu : X.A.units + 1 < cLine) : PSet X (rPut X.K) := by
  intro pins s σ H o i v ov iv u Q I ro ri rv h
  rcases h with h | ⟨a, kvs, vs, kd, vd, M, rfl, d, ok, dk, hl, q⟩
  · exact set_list pins s σ H o i v ov iv u Q I ro ri rv h
  · cases (show ov = Value.ref a from ro)
    exact g_setItem (vd := vd) hu I d ok dk ri rv hl fun s' ob d' I' nt => ⟨_, I', q ob nt d'⟩
theorem lt_size {n : Nat} (h : n < lim) : n < sizeLine := Nat.lt_of_lt_of_le h (le_size (Nat.le_refl lim))
/-- the store -/
theorem put_fin {sh : Sh} {oy : Option EV.D} {u : V} {G : Gh} {E : List Addr} {S : Ste} {σ : St} {H : Hp} {D : Ends} {t : Rt} {q : List Nat} {x : Vl} {a i : V} (o : Ok (kt X Z) (G.plus E) S σ H) (vd : VD (kt X Z) (G.plus E) S σ H (.pk t q) a) (vx : VD (kt X Z) (G.plus E) S σ H x i)
    (ot : ∀ d, oy = some d → OT (kt X Z) G.io (MM (G.plus E)) H sh d u E) (p : PostE (kt X Z) W G E S σ H D (putFin sh oy t q x S)) : rPut X.K a i u H fun H3 => D.nx σ H3 := by
  unfold putFin at p
  split at p
  case isFalse => exact p.elim
  rename_i hf
  cases eg : S.get t with
  | none => rw [eg] at p; exact p.elim
  | some g =>
    obtain ⟨s0, z⟩ := g
    cases ea : S.at t q with
    | none => rw [eg, ea] at p; exact p.elim
    | some g =>
      obtain ⟨s', ob⟩ := g
      cases ex : x.dat with
      | none => rw [eg, ea, ex] at p; cases s' <;> exact p.elim
      | some k =>
        cases ey : oy with
        | none => rw [eg, ea, ex, ey] at p; cases s' <;> exact p.elim
        | some d =>
          rw [eg, ea, ex, ey] at p
          cases s' with
          | o sh' =>
            dsimp only at p
            split at p
            case isFalse => exact p.elim
            rename_i hs
            subst hs
            cases ep : putD ob k d with
            | none => rw [ep] at p; exact p.elim
            | some ob' =>
              rw [ep] at p
              have od := ot d ey
              have dk := dat_dn o vx ex
              have en : nav s0 z q = some (.o sh', ob) := by
                unfold Ste.at at ea
                rw [eg] at ea
                exact ea
              obtain ⟨v0, u0, F2, w1, w2, w3, w4, w5, w6⟩ := Ok.wr o hf eg en
              obtain ⟨v0', q0, z1, z2, _⟩ := vd
              rw [rootV_plus] at z1
              rw [w1] at z1
              cases z1
              rw [w2] at z2
              cases z2
              have ndE := o.mine.1
              cases ob with
              | list zs =>
                cases k with
                | int j =>
                  have ep : ((ixN zs.length j).map fun n => PyData.list (zs.set n d)) = some ob' := ep
                  cases ej : ixN zs.length j with
                  | none => rw [ej] at ep; cases ep
                  | some n =>
                    rw [ej] at ep
                    cases ep
                    cases dk
                    cases w3 with
                    | «at» q => cases q
                    | @lst _ _ vs b F e1 r =>
                      have hn := (ixN_seq ej).2.1
                      have l1 := (OTs.lens r).2
                      have mb := (w5 b (by simp)).2
                      have nb : ∀ c ∈ F, c ≠ b := fun c m z => by
                        subst z
                        exact (List.nodup_cons.mp w4).1 m
                      have neE : ∀ c ∈ E, c ≠ b := fun c m z => by
                        subst z
                        exact (w5 c (by simp)).1 m
                      have kp := Keeps.at (H := H) (u := .lst (vs.set n u)) mb
                      have r2 := OTs.mono (io' := G.io) (H' := upd H b (.lst (vs.set n u))) kp ⟨[], by simp⟩ _ _ _ _ r fun c m => upd_ne (nb c m)
                      have od2 := OT.mono (io' := G.io) (H' := upd H b (.lst (vs.set n u))) kp ⟨[], by simp⟩ _ _ _ _ od fun c m => upd_ne (neE c m)
                      obtain ⟨F', r3, sub, nd⟩ := OTs.upd1 od2 r2 (i := n) (by rw [List.getElem?_replicate, if_pos hn])
                      have ndF : (F ++ E).Nodup := List.nodup_append.mpr ⟨(List.nodup_cons.mp w4).2, ndE, fun c m c' m2 z => by subst z; exact (w5 c (by simp [m])).1 m2⟩
                      have r4 : OT (kt X Z) G.io (MM (G.plus E)) (upd H b (.lst (vs.set n u))) (.o sh') (.list (zs.set n d)) (.ref b) (b :: F') := .lst upd_same (by rw [List.length_set]; exact r3)
                      obtain ⟨G', o', stp, kk, io', less⟩ := w6 (upd H b (.lst (vs.set n u))) (.list (zs.set n d)) (b :: F') [] (fun c hc => upd_ne fun z => hc (by simp [z]))
                        (fun c hc => by
                          by_cases z : c = b
                          · subst z; exact ⟨_, upd_same⟩
                          · rw [upd_ne z]
                            rcases List.mem_cons.mp hc with hc | hc
                            · exact (z hc).elim
                            · obtain ⟨w, e, _⟩ := OTs.tracked _ _ _ _ r c hc
                              exact ⟨w, e⟩)
                        (fun c hc => by
                          rw [List.append_nil] at hc
                          rcases List.mem_cons.mp hc with hc | hc
                          · simp [hc]
                          · have := sub c hc
                            simp at this ⊢
                            rcases this with m | m <;> simp [m])
                        (by
                          rw [List.append_nil]
                          refine List.nodup_cons.mpr ⟨fun m => ?_, nd ndF⟩
                          rcases List.mem_append.mp (sub b m) with m | m
                          · exact nb b m rfl
                          · exact neE b m rfl) (fun c hc => nomatch hc) r4
                      exact .inl ⟨b, vs, j, n, rfl, rfl, e1, by rw [← l1]; exact ej, p G' σ _ o' stp⟩
                | _ => cases ep
              | dict kvs =>
                have ep : (if !isX kvs && keyOk kvs k && decide (kvs.length < lim) then some (PyData.dict (dPut kvs k d)) else none) = some ob' := ep
                split at ep
                case isFalse => cases ep
                rename_i hc
                cases ep
                simp only [Bool.and_eq_true, Bool.not_eq_true', decide_eq_true_eq] at hc
                obtain ⟨⟨hx, hk⟩, hl⟩ := hc
                cases w3 with
                | «at» q => cases q
                | hole => cases hx
                | @dct _ _ vs b F e1 r =>
                  have mb := (w5 b (by simp)).2
                  have nb : ∀ c ∈ F, c ≠ b := fun c m z => by
                    subst z
                    exact (List.nodup_cons.mp w4).1 m
                  have neE : ∀ c ∈ E, c ≠ b := fun c m z => by
                    subst z
                    exact (w5 c (by simp)).1 m
                  refine .inr ⟨b, kvs, vs, k, d, _, rfl, e1, hk, dk, lt_size hl, fun oo nt dd => ?_⟩
                  have kp := Keeps.at (H := H) (u := oo) mb
                  have r2 := OTs.mono (io' := G.io) (H' := upd H b oo) kp ⟨[], by simp⟩ _ _ _ _ r fun c m => upd_ne (nb c m)
                  have od2 := OT.mono (io' := G.io) (H' := upd H b oo) kp ⟨[], by simp⟩ _ _ _ _ od fun c m => upd_ne (neE c m)
                  obtain ⟨F', r3, sub, nd⟩ := OTs.dput (k := k) od2 r2
                  have ndF : (F ++ E).Nodup := List.nodup_append.mpr ⟨(List.nodup_cons.mp w4).2, ndE, fun c m c' m2 z => by subst z; exact (w5 c (by simp [m])).1 m2⟩
                  have r4 : OT (kt X Z) G.io (MM (G.plus E)) (upd H b oo) (.o sh') (.dict (dPut kvs k d)) (.ref b) (b :: F') := .dct dd r3
                  obtain ⟨G', o', stp, kk, io', less⟩ := w6 (upd H b oo) (.dict (dPut kvs k d)) (b :: F') [] (fun c hc => upd_ne fun z => hc (by simp [z]))
                    (fun c hc => by
                      by_cases z : c = b
                      · subst z; exact ⟨_, upd_same⟩
                      · rw [upd_ne z]
                        rcases List.mem_cons.mp hc with hc | hc
                        · exact (z hc).elim
                        · obtain ⟨w, e, _⟩ := OTs.tracked _ _ _ _ r c hc
                          exact ⟨w, e⟩)
                    (fun c hc => by
                      rw [List.append_nil] at hc
                      rcases List.mem_cons.mp hc with hc | hc
                      · simp [hc]
                      · have := sub c hc
                        simp at this ⊢
                        rcases this with m | m <;> simp [m])
                    (by
                      rw [List.append_nil]
                      refine List.nodup_cons.mpr ⟨fun m => ?_, nd ndF⟩
                      rcases List.mem_append.mp (sub b m) with m | m
                      · exact nb b m rfl
                      · exact neE b m rfl) (fun c hc => nomatch hc) r4
                  exact p G' σ _ o' stp
              | _ => cases ep
          | _ => exact p.elim
/-- a value as a part -/
theorem part_ot {T : Kt} {G : Gh} {S : Ste} {σ : St} {H : Hp} {sh : Sh} {y : Vl} {d : EV.D} {u : V} (hsh : sh = .z ∨ sh = .r) (o : Ok T G S σ H) (r : VD T G S σ H y u) (e : part sh y = some d) : OT T G.io (MM G) H sh d u [] := by
  rcases hsh with rfl | rfl
  · have e : y.dat = some d := by cases y <;> exact e
    exact .z (dat_dn o r e)
  · have other : y.dat = some d → OT T G.io (MM G) H .r d u [] := fun e => by
      have := dat_dn o r e
      exact .rz (Dn.noRf this) this
    cases y with
    | r n =>
      cases e
      obtain ⟨a, h1, rfl⟩ := r
      exact .r h1
    | d x => exact other e
    | w x => exact other e
    | k x => exact other e
    | pk t p => exact other e
theorem r_put {p : Plc} {sh : Sh} {k v : C} {D : Ends} {σ : St} {H : Hp} (hsh : sh = .z ∨ sh = .r) (h : tS (kt X Z) W nw (exS P (.put p sh k v)) D σ H) : tAsg (tE (kt X Z) W (ev P v)) (gSub (tP (kt X Z) W (evP P p)) (tE (kt X Z) W (ev P k)) (rPut X.K)) D σ H := by
  obtain ⟨G, S, o, p⟩ := h
  rw [put_ev] at p
  refine ⟨G, S, o, p.seq fun G1 S1 y u H1 o1 st1 r1 p1 => ?_⟩
  refine put_at (E := []) (G := G1) o1 (PostE.of p1 (Stp.refl _ _ _ _) (Keeps.refl _ _)) fun G2 S2 H2 t q x a i o2 st2 va vi p2 => put_fin o2 va vi (fun d ed => ?_) p2
  exact OT.mono st2.mono st2.io _ _ _ _ (part_ot hsh o1 r1 ed) fun c m => nomatch m
theorem r_putN {p : Plc} {sh : Sh} {k v : C} {D : Ends} {σ : St} {H : Hp} (h : tS (kt X Z) W nw (exS P (.put p (.o sh) k v)) D σ H) (nr : ∀ S x S', ev P v S = .ok x S' → ∃ d, x = .d d) : tAsg (tN (kt X Z) W (.o sh) (ev P v)) (gSub (tP (kt X Z) W (evP P p)) (tE (kt X Z) W (ev P k)) (rPut X.K)) D σ H := by
  obtain ⟨G, S, o, p⟩ := h
  rw [put_ev] at p
  refine ⟨G, S, o, ?_⟩
  cases ee : ev P v S with
  | ok x S1 =>
    rw [ee] at p
    obtain ⟨d, rfl⟩ := nr _ _ _ ee
    intro G1 E u H1 o1 st1 k1 ot
    refine put_at (E := E) (G := G1) o1 (PostE.of p st1 k1) fun G2 S2 H2 t q x a i o2 st2 va vi p2 => put_fin o2 va vi (fun d' ed => ?_) p2
    cases ed
    exact OT.mono st2.mono st2.io _ _ _ _ ot fun c m => st2.tm.2 c (List.mem_append_left _ m)
  | er c S1 => rw [ee] at p; exact fun G' H' o' s => p G' σ H' o' s
  | stuck => rw [ee] at p; exact p
end
end EV
end
section
set_option Elab.async false
set_option linter.all false
set_option maxRecDepth 100000
set_option maxHeartbeats 4000000
set_option autoImplicit false
/-! GF4: attributes that are stored -/
namespace EV
open PySem L2
theorem dPut_cons (p : D × D) (r : List (D × D)) (k d : D) : dPut (p :: r) k d = if PyData.eqv p.1 k then (p.1, d) :: r else p :: dPut r k d := by
  unfold dPut
  rw [show dIx (p :: r) k = if PyData.eqv p.1 k then some 0 else (dIx r k).map (· + 1) from rfl]
  cases PyData.eqv p.1 k with
  | true => rfl
  | false =>
    simp only [Bool.false_eq_true, if_false]
    cases dIx r k <;> rfl
theorem vPut_cons (p : D × D) (r : List (D × D)) (v : V) (vs : List V) (k : D) (y : V) : vPut (p :: r) (v :: vs) k y = if PyData.eqv p.1 k then y :: vs else v :: vPut r vs k y := by
  unfold vPut
  rw [show dIx (p :: r) k = if PyData.eqv p.1 k then some 0 else (dIx r k).map (· + 1) from rfl]
  cases PyData.eqv p.1 k with
  | true => rfl
  | false =>
    simp only [Bool.false_eq_true, if_false]
    cases dIx r k <;> rfl
def FRel (tb : List (Str × Nat)) (kvs : List (D × D)) (fs : List (Str × V)) : Prop := ∀ (i : Nat) (p : D × D) (q : Str × V), kvs[i]? = some p → fs[i]? = some q → ∃ j : Nat, p.1 = PyData.int j ∧ (q.1, j) ∈ tb
theorem putF_rel {tb : List (Str × Nat)} (n1 : (tb.map (·.1)).Nodup) (n2 : (tb.map (·.2)).Nodup) {f : Str} {j : Nat} (m : (f, j) ∈ tb) (d : D) (y : V) : ∀ {kvs : List (D × D)} {fs : List (Str × V)}, kvs.length = fs.length → FRel tb kvs fs →
    (putF f y fs).map (·.2) = vPut kvs (fs.map (·.2)) (.int j) y ∧ (dPut kvs (.int j) d).length = (putF f y fs).length ∧ FRel tb (dPut kvs (.int j) d) (putF f y fs)
  | [], [], _, _ => by
    refine ⟨rfl, rfl, fun i p q h1 h2 => ?_⟩
    cases i with
    | zero =>
      have h1 : some (PyData.int j, d) = some p := h1
      have h2 : some (f, y) = some q := h2
      cases h1; cases h2
      exact ⟨j, rfl, m⟩
    | succ i => cases (show (none : Option (D × D)) = some p from by simpa [dPut, dIx] using h1)
  | [], _ :: _, h, _ => by simp at h
  | _ :: _, [], h, _ => by simp at h
  | p :: r, (g, v) :: t, hl, rel => by
    obtain ⟨j0, e0, m0⟩ := rel 0 p (g, v) rfl rfl
    have rel' : FRel tb r t := fun i p q h1 h2 => rel (i + 1) p q (by simpa using h1) (by simpa using h2)
    rw [dPut_cons, List.map_cons, vPut_cons, putF]
    have ee : PyData.eqv p.1 (.int j) = decide (j0 = j) := by
      rw [e0]
      show ((j0 : Int) == (j : Int)) = _
      rw [Bool.eq_iff_iff, beq_iff_eq, decide_eq_true_iff]
      omega
    rw [ee]
    by_cases hj : j0 = j
    · subst hj
      have : g = f := nd_get2 n2 m0 m
      subst this
      simp only [decide_true, if_true]
      refine ⟨rfl, by simpa using hl, fun i p' q h1 h2 => ?_⟩
      cases i with
      | zero =>
        simp only [List.getElem?_cons_zero, Option.some.injEq] at h1 h2
        subst h1 h2
        exact ⟨j0, e0, m0⟩
      | succ i => exact rel' i p' q (by simpa using h1) (by simpa using h2)
    · have ng : g ≠ f := by
        rintro rfl
        exact hj (nd_get n1 m0 m)
      have hd : decide (j0 = j) = false := decide_eq_false hj
      simp only [hd, if_neg ng]
      obtain ⟨a1, a2, a3⟩ := putF_rel n1 n2 m d y (kvs := r) (fs := t) (by simpa using hl) rel'
      refine ⟨?_, by simpa using a2, fun i p' q h1 h2 => ?_⟩
      · show v :: (putF f y t).map (·.2) = v :: _
        rw [a1]
      · cases i with
        | zero =>
          have h1 : some p = some p' := h1
          have h2 : some (g, v) = some q := h2
          cases h1; cases h2
          exact ⟨j0, e0, m0⟩
        | succ i => exact a3 i p' q (by simpa using h1) (by simpa using h2)
theorem in_put {T : Kt} {H : Hp} {a : Addr} {c : Nat} {kvs : List (D × D)} {vs : List V} (q : IN T H a c kvs vs) {f : Str} {j : Nat} (m : (f, j) ∈ T.C.tb) (d : D) (y : V) :
    ∃ dx fs, H a = some (.ins (T.C.cls c) dx fs) ∧ Cls T.K (T.C.cls c) ∧ NoAttr T.K (T.C.cls c) f ∧ fs.length = kvs.length ∧ IN T (upd H a (.ins (T.C.cls c) dx (putF f y fs))) a c (dPut kvs (.int j) d) (vPut kvs vs (.int j) y) := by
  obtain ⟨cl, na, n1, n2, dx, fs, g1, rfl, g3, g4⟩ := q
  obtain ⟨a1, a2, a3⟩ := putF_rel n1 n2 m d y g3 g4
  exact ⟨dx, fs, g1, cl, na _ m, g3.symm, cl, na, n1, n2, dx, putF f y fs, upd_same, a1.symm, a2, a3⟩
theorem dPut_keys (k d : D) (kvs : List (D × D)) : (dPut kvs k d).map (fun p => keySh p.1) = match dIx kvs k with
    | some _ => kvs.map (fun p => keySh p.1)
    | none => kvs.map (fun p => keySh p.1) ++ [keySh k] := by
  unfold dPut
  cases dIx kvs k with
  | none => simp
  | some i =>
    dsimp only
    have := congrArg (List.map keySh) (modify_fst kvs i d)
    rw [List.map_map, List.map_map] at this
    exact this
theorem eqv_int {p : D} {j : Nat} (h : ∃ j0 : Nat, p = PyData.int j0) (e : PyData.eqv p (.int j) = true) : p = PyData.int j := by
  obtain ⟨j0, rfl⟩ := h
  have : ((j0 : Int) == (j : Int)) = true := e
  rw [eq_of_beq this]
theorem dIx_key {j : Nat} : ∀ {kvs : List (D × D)} {i : Nat}, (∀ p ∈ kvs, ∃ j0 : Nat, p.1 = PyData.int j0) → dIx kvs (.int j) = some i → ∃ d, kvs[i]? = some (PyData.int j, d)
  | [], _, _, h => by cases h
  | p :: r, i, hk, h => by
    unfold dIx at h
    split at h
    · rename_i e
      cases h
      refine ⟨p.2, ?_⟩
      have := eqv_int (hk p List.mem_cons_self) e
      rw [← this]
      rfl
    · cases e1 : dIx r (.int j) with
      | none => rw [e1] at h; cases h
      | some n =>
        rw [e1] at h
        cases h
        obtain ⟨d, e⟩ := dIx_key (fun p m => hk p (List.mem_cons_of_mem _ m)) e1
        exact ⟨d, by simpa using e⟩
/-- an attribute stored -/
theorem OTs.iput {T : Kt} {io : List Addr} {M : Addr → Prop} {H : Hp} {x : D} {v : V} {E : List Addr} {j : Nat} (ot : OT T io M H (fsh j) x v E) {kvs : List (D × D)} {vs : List V} {F : List Addr} (hk : ∀ p ∈ kvs, ∃ j0 : Nat, p.1 = PyData.int j0)
    (r : OTs T io M H (kvs.map fun p => keySh p.1) (kvs.map (·.2)) vs F) :
    ∃ F', OTs T io M H ((dPut kvs (.int j) x).map fun p => keySh p.1) ((dPut kvs (.int j) x).map (·.2)) (vPut kvs vs (.int j) v) F' ∧ (∀ a ∈ F', a ∈ F ++ E) ∧ ((F ++ E).Nodup → F'.Nodup) := by
  rw [dPut_keys]
  unfold dPut vPut
  cases e : dIx kvs (.int j) with
  | none =>
    refine ⟨F ++ E, ?_, fun a m => m, fun n => n⟩
    have := OTs.snoc (s := keySh (.int j)) ot r
    simpa using this
  | some i =>
    obtain ⟨d0, e0⟩ := dIx_key hk e
    obtain ⟨F', o', sub, nd⟩ := OTs.upd1 (s := keySh (.int j)) ot r (i := i) (by rw [List.getElem?_map, e0]; rfl)
    refine ⟨F', ?_, sub, nd⟩
    dsimp only
    rw [modify_snd]
    exact o'
section
variable {X : Cx} {Z : Ct} {W : WX} {P : Env} {pos : Pos} {nw : Option Sh}
def setFin (j : Nat) (oy : Option D) (t : Rt) (q : List Nat) (s : Ste) : Out := if s.free t then (match s.get t, s.at t q, oy with
          | some (_, z), some (.i, o), some y => (match setFD o j y with
            | some o' => .nx (s.putR t (setAt z q o'))
            | none => .stuck)
          | _, _, _ => .stuck) else .stuck
theorem setF_ev {p : Plc} {j : Nat} {e : C} {S : Ste} : exS P (.setF p j e) S = (ev P e S).out fun y s => (evP P p s).out fun l s => match l.in with
    | some (t, q) => setFin j (part (fsh j) y) t q s
    | none => .stuck := by
  rw [exS]
  cases ev P e S with
  | ok y s =>
    simp only [Res.out]
    cases evP P p s <;> rfl
  | er c s => rfl
  | stuck => rfl
theorem setF_fin {j : Nat} {f : Str} {oy : Option EV.D} {u : V} {G : Gh} {E : List Addr} {S : Ste} {σ : St} {H : Hp} {D : Ends} {t : Rt} {q : List Nat} {a : V} (m : (f, j) ∈ Z.tb) (o : Ok (kt X Z) (G.plus E) S σ H) (vd : S.at t q ≠ none → VD (kt X Z) (G.plus E) S σ H (.pk t q) a)
    (ot : ∀ d, oy = some d → OT (kt X Z) G.io (MM (G.plus E)) H (fsh j) d u E) (p : PostE (kt X Z) W G E S σ H D (setFin j oy t q S)) :
    ∃ b C dx fs, a = .ref b ∧ H b = some (.ins C dx fs) ∧ Cls X.K C ∧ NoAttr X.K C f ∧ fs.length < 1000 ∧ D.nx σ (upd H b (.ins C dx (putF f u fs))) := by
  unfold setFin at p
  split at p
  case isFalse => exact p.elim
  rename_i hf
  cases eg : S.get t with
  | none => rw [eg] at p; exact p.elim
  | some g =>
    obtain ⟨s0, z⟩ := g
    cases ea : S.at t q with
    | none => rw [eg, ea] at p; exact p.elim
    | some g =>
      obtain ⟨s', ob⟩ := g
      cases ey : oy with
      | none => rw [eg, ea, ey] at p; cases s' <;> exact p.elim
      | some d =>
        rw [eg, ea, ey] at p
        have vd := vd (by rw [ea]; exact fun z => nomatch z)
        cases s' with
        | i =>
          dsimp only at p
          cases ep : setFD ob j d with
          | none => rw [ep] at p; exact p.elim
          | some ob' =>
            rw [ep] at p
            have od := ot d ey
            have en : nav s0 z q = some (.i, ob) := by
              unfold Ste.at at ea
              rw [eg] at ea
              exact ea
            obtain ⟨v0, u0, F2, w1, w2, w3, w4, w5, w6⟩ := Ok.wr o hf eg en
            obtain ⟨v0', q0, z1, z2, _⟩ := vd
            rw [rootV_plus] at z1
            rw [w1] at z1
            cases z1
            rw [w2] at z2
            cases z2
            have ndE := o.mine.1
            cases w3 with
            | @ins c0 kvs vs b F e1 r =>
              have ep : (if kvs.length < 60 then some (insD c0 (dPut kvs (.int j) d)) else none) = some ob' := ep
              split at ep
              case isFalse => cases ep
              rename_i hl
              cases ep
              have hk : ∀ p ∈ kvs, ∃ j0 : Nat, p.1 = PyData.int j0 := fun p mp => by
                obtain ⟨_, _, _, _, dx, fs, _, _, g3, g4⟩ := e1
                obtain ⟨i, hi, ei⟩ := List.getElem_of_mem mp
                obtain ⟨j0, e0, _⟩ := g4 i p (fs[i]'(by rw [← g3]; exact hi)) (by rw [List.getElem?_eq_getElem hi, ei]) (List.getElem?_eq_getElem _)
                exact ⟨j0, e0⟩
              obtain ⟨dx, fs, h1, h2, h3, h4, h5⟩ := in_put e1 m d u
              have mb := (w5 b (by simp)).2
              have nb : ∀ c ∈ F, c ≠ b := fun c m z => by
                subst z
                exact (List.nodup_cons.mp w4).1 m
              have neE : ∀ c ∈ E, c ≠ b := fun c m z => by
                subst z
                exact (w5 c (by simp)).1 m
              refine ⟨b, _, dx, fs, rfl, h1, h2, h3, by omega, ?_⟩
              have kp := Keeps.at (H := H) (u := .ins ((kt X Z).C.cls c0) dx (putF f u fs)) mb
              have r2 := OTs.mono (io' := G.io) (H' := upd H b (.ins ((kt X Z).C.cls c0) dx (putF f u fs))) kp ⟨[], by simp⟩ _ _ _ _ r fun c m => upd_ne (nb c m)
              have od2 := OT.mono (io' := G.io) (H' := upd H b (.ins ((kt X Z).C.cls c0) dx (putF f u fs))) kp ⟨[], by simp⟩ _ _ _ _ od fun c m => upd_ne (neE c m)
              obtain ⟨F', r3, sub, nd⟩ := OTs.iput od2 hk r2
              have ndF : (F ++ E).Nodup := List.nodup_append.mpr ⟨(List.nodup_cons.mp w4).2, ndE, fun c m c' m2 z => by subst z; exact (w5 c (by simp [m])).1 m2⟩
              have r4 : OT (kt X Z) G.io (MM (G.plus E)) (upd H b (.ins ((kt X Z).C.cls c0) dx (putF f u fs))) .i (insD c0 (dPut kvs (.int j) d)) (.ref b) (b :: F') := .ins h5 r3
              obtain ⟨G', o', stp, kk, io', less⟩ := w6 _ (insD c0 (dPut kvs (.int j) d)) (b :: F') [] (fun c hc => upd_ne fun z => hc (by simp [z]))
                (fun c hc => by
                  by_cases z : c = b
                  · subst z; exact ⟨_, upd_same⟩
                  · rw [upd_ne z]
                    rcases List.mem_cons.mp hc with hc | hc
                    · exact (z hc).elim
                    · obtain ⟨w, e, _⟩ := OTs.tracked _ _ _ _ r c hc
                      exact ⟨w, e⟩)
                (fun c hc => by
                  rw [List.append_nil] at hc
                  rcases List.mem_cons.mp hc with hc | hc
                  · simp [hc]
                  · have := sub c hc
                    simp at this ⊢
                    rcases this with m | m <;> simp [m])
                (by
                  rw [List.append_nil]
                  refine List.nodup_cons.mpr ⟨fun m => ?_, nd ndF⟩
                  rcases List.mem_append.mp (sub b m) with m | m
                  · exact nb b m rfl
                  · exact neE b m rfl) (fun c hc => nomatch hc) r4
              exact p G' σ _ o' stp
        | _ => exact p.elim
theorem setF_at {G : Gh} {E : List Addr} {S : Ste} {σ : St} {H : Hp} {D : Ends} {p : Plc} {g : Rt → List Nat → Ste → Out} {R : V → Hp → Prop} (o : Ok (kt X Z) (G.plus E) S σ H) (h : PostE (kt X Z) W G E S σ H D ((evP P p S).out fun l s => match l.in with
    | some (t, q) => g t q s
    | none => .stuck))
    (f : ∀ G2 S2 H2 t q a, Ok (kt X Z) (Gh.plus G2 E) S2 σ H2 → Stp (G.plus E) S σ H (G2.plus E) S2 σ H2 → (S2.at t q ≠ none → VD (kt X Z) (G2.plus E) S2 σ H2 (.pk t q) a) → PostE (kt X Z) W G2 E S2 σ H2 D (g t q S2) → R a H2) :
    tP (kt X Z) W (evP P p) σ H R := by
  refine ⟨G.plus E, S, o, h.seq fun G1 S1 l v H1 o1 st1 r1 p1 => ?_⟩
  cases el : l.in with
  | none => rw [el] at p1; exact p1.elim
  | some tq =>
    obtain ⟨t, q⟩ := tq
    rw [el] at p1
    exact f G1 S1 H1 t q v o1 st1 (fun ne => let ⟨r, er⟩ := Option.ne_none_iff_exists'.mp ne; in_vd r1 el er) p1
theorem r_setF {p : Plc} {f : Str} {j : Nat} {e : C} {D : Ends} {σ : St} {H : Hp} (m : (f, j) ∈ Z.tb) (hsh : fsh j = .z ∨ fsh j = .r) (h : tS (kt X Z) W nw (exS P (.setF p j e)) D σ H) : sFld X.K (tP (kt X Z) W (evP P p)) (tE (kt X Z) W (ev P e)) f D σ H := by
  obtain ⟨G, S, o, p⟩ := h
  rw [setF_ev] at p
  refine ⟨G, S, o, p.seq fun G1 S1 y u H1 o1 st1 r1 p1 => ?_⟩
  refine setF_at (E := []) (G := G1) (g := setFin j (part (fsh j) y)) o1 (PostE.of p1 (Stp.refl _ _ _ _) (Keeps.refl _ _)) fun G2 S2 H2 t q a o2 st2 va p2 => setF_fin m o2 va (fun d ed => ?_) p2
  exact OT.mono st2.mono st2.io _ _ _ _ (part_ot hsh o1 r1 ed) fun c m => nomatch m
theorem r_setFN {p : Plc} {f : Str} {j : Nat} {e : C} {sh : Sh} {D : Ends} {σ : St} {H : Hp} (m : (f, j) ∈ Z.tb) (hsh : fsh j = .o sh) (h : tS (kt X Z) W nw (exS P (.setF p j e)) D σ H) (nr : ∀ S x S', ev P e S = .ok x S' → ∃ d, x = .d d) : sFld X.K (tP (kt X Z) W (evP P p)) (tN (kt X Z) W (.o sh) (ev P e)) f D σ H := by
  obtain ⟨G, S, o, p⟩ := h
  rw [setF_ev] at p
  refine ⟨G, S, o, ?_⟩
  cases ee : ev P e S with
  | ok x S1 =>
    rw [ee] at p
    obtain ⟨d, rfl⟩ := nr _ _ _ ee
    intro G1 E u H1 o1 st1 k1 ot
    refine setF_at (E := E) (G := G1) (g := setFin j (part (fsh j) (.d d))) o1 (PostE.of p st1 k1) fun G2 S2 H2 t q a o2 st2 va p2 => setF_fin m o2 va (fun d' ed => ?_) p2
    rw [hsh] at ed
    cases ed
    rw [hsh]
    exact OT.mono st2.mono st2.io _ _ _ _ ot fun c m => st2.tm.2 c (List.mem_append_left _ m)
  | er c S1 => rw [ee] at p; exact fun G' H' o' s => p G' σ H' o' s
  | stuck => rw [ee] at p; exact p
end
end EV
end
section
set_option Elab.async false
set_option linter.all false
set_option maxRecDepth 100000
set_option maxHeartbeats 4000000
set_option autoImplicit false
/-! GG: what is walked -/
namespace EV
open PySem L2
/-- what of a state the walk leans on: what is frozen stays, what is locked stays -/
structure Rch (G : Gh) (S : Ste) (σ : St) (H : Hp) (G' : Gh) (S' : Ste) (σ' : St) (H' : Hp) : Prop where
  mono : Keeps (MM G) H (MM G') H'
  monoW : Keeps (MW G) H (MW G') H'
  lck : ∀ (t : Rt) (q : Sh × D), S.lkd t = some q → S'.lkd t = some q ∧ rootV G' σ' t = rootV G σ t
theorem Stp.rch {G G' : Gh} {S S' : Ste} {σ σ' : St} {H H' : Hp} (s : Stp G S σ H G' S' σ' H') : Rch G S σ H G' S' σ' H' := ⟨s.mono, s.monoW, fun t q e => let ⟨a, b, _, _⟩ := s.lck t q e; ⟨a, b⟩⟩
theorem Rch.trans {G G1 G2 : Gh} {S S1 S2 : Ste} {σ σ1 σ2 : St} {H H1 H2 : Hp} (a : Rch G S σ H G1 S1 σ1 H1) (b : Rch G1 S1 σ1 H1 G2 S2 σ2 H2) : Rch G S σ H G2 S2 σ2 H2 :=
  ⟨a.mono.trans b.mono, a.monoW.trans b.monoW, fun t q e => let ⟨e1, e2⟩ := a.lck t q e; let ⟨e3, e4⟩ := b.lck t q e1; ⟨e3, e4.trans e2⟩⟩
def Src (T : Kt) (J : L2.It) (w : Bool) (items : List D) (G : Gh) (S : Ste) (σ : St) (H : Hp) : Prop :=
  ∀ G' S' σ' H', Ok T G' S' σ' H' → Rch G S σ H G' S' σ' H' → ∀ i, (items.length = i → J.stop i H') ∧ ∀ x, items[i]? = some x → J.go i H' ∧ ∀ v H'', J.yld i H' v H'' → Same H' H'' ∧ WD T G' H'' w x v
def RI (T : Kt) : RL (List D × Bool × Option Rt) L2.It := fun σ G S H p J => Src T J p.2.1 p.1 G S σ H
def tI (T : Kt) (W : WX) (r : Ste → Res (List D × Bool × Option Rt)) : TI := fun σ H R => At T W (RI T) r σ H R
theorem WD.mono {T : Kt} {G G' : Gh} {S S' : Ste} {σ σ' : St} {H H' : Hp} {w : Bool} {x : D} {v : V} (r : Rch G S σ H G' S' σ' H') (d : WD T G H w x v) : WD T G' H' w x v := by
  cases w with
  | false => exact Dn.mono r.mono _ _ d
  | true => exact Dn.mono r.monoW _ _ d
section
variable {X : Cx} {Z : Ct} {W : WX} {P : Env}
theorem pi_any {tg l : Expr} {tl : TE} (hl : PE X l tl) : PI X tg l (fun σ H R => tl σ H fun x H1 => (∃ a, x = .ref a ∧ (∃ xs, SqL X.K H1 a xs) ∧ R (Itl X.K a) H1) ∨ (∃ a, x = .ref a ∧ (∃ xs, SqT X.K H1 a xs) ∧ R (Itt X.K a) H1) ∨ ∃ z, x = .str z ∧ R (Its z) H1) := by
  refine ⟨fun pn s ss H R I h => thn (hl.run pn s ss H _ I h) fun v s2 ⟨x, H2, J, rv, q⟩ => ?_⟩
  have new : ∀ b ∈ [s2.heap.objs.size], FpOk X pn H2 b := fun b hb => by
    rw [List.mem_singleton.mp hb]
    exact J.fpOk (Nat.le_refl _) (J.hok.fresh (Nat.le_refl _))
  rcases q with ⟨a, rfl, ⟨xs, hq⟩, q⟩ | ⟨a, rfl, ⟨xs, hq⟩, q⟩ | ⟨z, rfl, q⟩
  · obtain rfl : v = Value.ref a := rv
    obtain ⟨its, _, pl, _⟩ := J.list hq
    exact wpAny_pyIter_list pl.isList ⟨_, _, _, _, H2, rfl, J.kept (t' := s2.toks) (fun b o e => Heap.get?_push_of_some _ e), turn_list a _, ⟨_, Heap.get?_push_size _ rfl, rfl, rfl⟩, new, q⟩
  · obtain rfl : v = Value.ref a := rv
    obtain ⟨its, _, pl, _⟩ := J.tuple hq
    exact wpAny_pyIter_tuple (show s2.heap.IsTuple a its.toArray from pl) ⟨_, _, _, _, H2, rfl, J.kept (t' := s2.toks) (fun b o e => Heap.get?_push_of_some _ e), turn_tuple a _, ⟨_, Heap.get?_push_size _ rfl, rfl, rfl⟩, new, q⟩
  · obtain ⟨t, rfl⟩ := rv
    cases wide : z.cps.all (· < 128)
    · exact wpAny_pyIter_wide wide (pi_one (tk := s2.toks) J _ (turn_str _ z t "str_iterator" (.inr rfl)) ⟨_, Heap.get?_push_size _ rfl, rfl, rfl⟩ q)
    · exact wpAny_pyIter_ascii wide (pi_one (tk := s2.toks) J _ (turn_str _ z t "str_ascii_iterator" (.inl rfl)) ⟨_, Heap.get?_push_size _ rfl, rfl, rfl⟩ q)
/-- a list's or a tuple's items, as they stand at each turn -/
theorem src_of {T : Kt} {J : L2.It} {w : Bool} {xs : List D} {G : Gh} {S : Ste} {σ : St} {H : Hp} {Sq : Hp → List V → Prop}
    (h : ∀ G' S' σ' H', Ok T G' S' σ' H' → Rch G S σ H G' S' σ' H' → ∃ vs, Sq H' vs ∧ WDs T G' H' w xs vs)
    (st : ∀ i H vs, Sq H vs → vs.length ≤ i → J.stop i H) (go : ∀ i H vs v, Sq H vs → vs[i]? = some v → J.go i H)
    (yl : ∀ i H v H', J.yld i H v H' → H' = H ∧ ∀ vs, Sq H vs → vs[i]? = some v) : Src T J w xs G S σ H := fun G' S' σ' H' o r i => by
  obtain ⟨vs, hs, l⟩ := h G' S' σ' H' o r
  unfold WDs at l
  refine ⟨fun hi => st i H' vs hs (by rw [← l.length]; exact Nat.le_of_eq hi), fun x hx => ?_⟩
  obtain ⟨v, hv, dv⟩ := l.get hx
  refine ⟨go i H' vs v hs hv, fun u H'' y => ?_⟩
  obtain ⟨rfl, q⟩ := yl _ _ _ _ y
  have := q vs hs
  rw [hv] at this
  cases this
  exact ⟨Same.refl _, dv⟩
theorem src_list {T : Kt} {w : Bool} {G : Gh} {S : Ste} {σ : St} {H : Hp} {a : Addr} {xs : List D} (dn : WD T G H w (.list xs) (.ref a)) : Src T (Itl T.K a) w xs G S σ H := by
  refine src_of (Sq := fun H vs => SqL T.K H a vs) (fun G' S' σ' H' o r => ?_) (fun i H vs hs hl => ⟨vs, hs, hl⟩) (fun i H vs v hs hv => ⟨vs, v, hs, hv⟩) (fun i H v H' y => y)
  obtain ⟨a', vs, e, hs, l⟩ := Dn.sql (WD.mono r dn)
  cases e
  exact ⟨vs, hs, l⟩
theorem src_tup {T : Kt} {w : Bool} {G : Gh} {S : Ste} {σ : St} {H : Hp} {a : Addr} {xs : List D} (dn : WD T G H w (.tuple xs) (.ref a)) : Src T (Itt T.K a) w xs G S σ H := by
  refine src_of (Sq := fun H vs => SqT T.K H a vs) (fun G' S' σ' H' o r => ?_) (fun i H vs hs hl => ⟨vs, hs, hl⟩) (fun i H vs v hs hv => ⟨vs, v, hs, hv⟩) (fun i H v H' y => y)
  obtain ⟨a', vs, e, hs, l⟩ := Dn.sqt (WD.mono r dn)
  cases e
  exact ⟨vs, hs, l⟩
theorem src_str {T : Kt} {w : Bool} {G : Gh} {S : Ste} {σ : St} {H : Hp} {z : Str} : Src T (Its z) w (z.cps.toList.map fun c => .str ⟨#[c]⟩) G S σ H := fun G' S' σ' H' o r i => by
  refine ⟨fun hi => by rw [List.length_map, Array.length_toList] at hi; exact Nat.le_of_eq hi, fun x hx => ?_⟩
  rw [List.getElem?_map] at hx
  cases hc : z.cps.toList[i]? with
  | none => rw [hc] at hx; cases hx
  | some c =>
    rw [hc] at hx
    cases hx
    have hlt : i < z.cps.size := by
      have := (List.getElem?_eq_some_iff.mp hc).1
      simpa using this
    refine ⟨hlt, fun u H'' ⟨eH, c', h1, hu⟩ => ?_⟩
    subst eH hu
    rw [← Array.getElem?_toList, hc] at h1
    cases h1
    exact ⟨Same.refl _, .str _⟩
theorem iran_len : ∀ (n : Nat) (lo : Int), (iran lo n).length = n
  | 0, _ => rfl
  | n + 1, lo => by simp [iran, iran_len n]
theorem iran_get : ∀ (n : Nat) (lo : Int) (i : Nat) (x : D), (iran lo n)[i]? = some x → i < n ∧ x = .int (lo + i)
  | 0, _, i, x, h => by simp [iran] at h
  | n + 1, lo, 0, x, h => by
    simp [iran] at h
    exact ⟨Nat.succ_pos _, by rw [← h]; simp⟩
  | n + 1, lo, i + 1, x, h => by
    simp only [iran, List.getElem?_cons_succ] at h
    obtain ⟨h1, h2⟩ := iran_get n (lo + 1) i x h
    refine ⟨Nat.succ_lt_succ h1, ?_⟩
    rw [h2]
    congr 1
    omega
theorem src_rng {T : Kt} {w : Bool} {G : Gh} {S : Ste} {σ : St} {H : Hp} {lo : Int} {n : Nat} : Src T (Itr lo n) w (iran lo n) G S σ H := fun G' S' σ' H' o r i => by
  refine ⟨fun hi => by rw [iran_len] at hi; exact Nat.le_of_eq hi, fun x hx => ?_⟩
  obtain ⟨h1, rfl⟩ := iran_get n lo i x hx
  refine ⟨h1, fun u H'' ⟨eH, hu⟩ => ?_⟩
  subst eH hu
  exact ⟨Same.refl _, .int _⟩
/-- data, or data that is but looked at -/
theorem seq_fin {w : Bool} {σ : St} {H : Hp} {G : Gh} {S : Ste} {x : D} {v : V} {R : L2.It → Hp → Prop} (o : Ok (kt X Z) G S σ H) (dn : WD (kt X Z) G H w x v) (p : Post (kt X Z) W (RI (kt X Z)) G S σ H R (Res.of ((seqItems x).map fun xs => (xs, w, none)) S)) :
    (∃ a, v = .ref a ∧ (∃ xs, SqL X.K H a xs) ∧ R (Itl X.K a) H) ∨ (∃ a, v = .ref a ∧ (∃ xs, SqT X.K H a xs) ∧ R (Itt X.K a) H) ∨ ∃ z, v = .str z ∧ R (Its z) H := by
  cases x with
  | list ys =>
    obtain ⟨a, vs, rfl, hs, l⟩ := Dn.sql dn
    exact .inl ⟨a, rfl, ⟨vs, hs⟩, p G _ H o (Stp.refl _ _ _ _) (src_list dn)⟩
  | tuple ys =>
    obtain ⟨a, vs, rfl, hs, l⟩ := Dn.sqt dn
    exact .inr (.inl ⟨a, rfl, ⟨vs, hs⟩, p G _ H o (Stp.refl _ _ _ _) (src_tup dn)⟩)
  | str z =>
    unfold WD at dn
    cases dn
    exact .inr (.inr ⟨z, rfl, p G _ H o (Stp.refl _ _ _ _) src_str⟩)
  | _ => exact p.elim
/-- a tree of one's own, that is locked -/
theorem own_fin {t : Rt} {σ : St} {H : Hp} {G : Gh} {S S0 : Ste} {x : D} {v : V} {lk : Option Rt} {R : L2.It → Hp → Prop} {F : List Addr} (eS : S.lkd t = some (.o .z, x)) (rv : rootV G σ t = some v) (ot : OT (kt X Z) G.io (MM G) H (.o .z) x v F)
    (o : Ok (kt X Z) G S σ H) (p : Post (kt X Z) W (RI (kt X Z)) G S σ H R (Res.of ((seqItems x).map fun xs => (xs, false, lk)) S)) :
    (∃ a, v = .ref a ∧ (∃ xs, SqL X.K H a xs) ∧ R (Itl X.K a) H) ∨ (∃ a, v = .ref a ∧ (∃ xs, SqT X.K H a xs) ∧ R (Itt X.K a) H) ∨ ∃ z, v = .str z ∧ R (Its z) H := by
  have again : ∀ G' S' σ' H', Ok (kt X Z) G' S' σ' H' → Rch G S σ H G' S' σ' H' → OT (kt X Z) G'.io (MM G') H' (.o .z) x v (G'.fp t) := fun G' S' σ' H' o' r => by
    obtain ⟨e1, e2⟩ := r.lck t _ eS
    obtain ⟨u, h1, h2⟩ := o'.own t _ _ (lkd_get e1)
    rw [e2, rv] at h1
    cases h1
    exact h2
  cases x with
  | list ys =>
    obtain ⟨a, rfl, rfl, vs, e1, l⟩ := OT.cont ot rfl (fun z => nomatch z)
    refine .inl ⟨a, rfl, ⟨vs, SqL.of e1⟩, p G _ H o (Stp.refl _ _ _ _) ?_⟩
    refine src_of (Sq := fun H vs => SqL X.K H a vs) (fun G' S' σ' H' o' r => ?_) (fun i H vs hs hl => ⟨vs, hs, hl⟩) (fun i H vs v hs hv => ⟨vs, v, hs, hv⟩) (fun i H v H' y => y)
    obtain ⟨a', ea, _, vs', e1, l⟩ := OT.cont (again G' S' σ' H' o' r) rfl (fun z => nomatch z)
    cases ea
    exact ⟨vs', SqL.of e1, l⟩
  | tuple ys =>
    cases ot with
    | «at» q => cases q
    | @tup _ _ vs a _ e1 nm r =>
      refine .inr (.inl ⟨a, rfl, ⟨vs, SqT.of e1⟩, p G _ H o (Stp.refl _ _ _ _) ?_⟩)
      refine src_of (Sq := fun H vs => SqT X.K H a vs) (fun G' S' σ' H' o' r => ?_) (fun i H vs hs hl => ⟨vs, hs, hl⟩) (fun i H vs v hs hv => ⟨vs, v, hs, hv⟩) (fun i H v H' y => y)
      have ag := again G' S' σ' H' o' r
      generalize G'.fp t = F' at ag
      cases ag with
      | «at» q => cases q
      | tup e1 nm r => exact ⟨_, SqT.of e1, (OTs.z r).1⟩
  | str z =>
    cases ot with
    | «at» q =>
      cases q
      exact .inr (.inr ⟨z, rfl, p G _ H o (Stp.refl _ _ _ _) src_str⟩)
  | _ => exact p.elim
def lockIt (t : Rt) (s : Ste) : Res (List D × Bool × Option Rt) := match s.get t with
  | some (.o .z, x) => Res.of ((seqItems x).map fun xs => (xs, false, some t)) (s.lock t)
  | _ => .stuck
def seqIt : Vl → Ste → Res (List D × Bool × Option Rt)
  | .d x, s => Res.of ((seqItems x).map fun xs => (xs, false, none)) s
  | .w x, s => Res.of ((seqItems x).map fun xs => (xs, true, none)) s
  | .pk t [], s => lockIt t s
  | .r n, s => lockIt (.c n) s
  | _, _ => .stuck
theorem it_seq {a : C} {S : Ste} : evIt P (.seq a) S = (ev P a S).bind seqIt := by
  rw [evIt]
  cases ev P a S with
  | ok x s =>
    cases x with
    | pk t p => cases p <;> rfl
    | _ => rfl
  | er c s => rfl
  | stuck => rfl
theorem lock_fin {t : Rt} {σ : St} {H : Hp} {G : Gh} {S : Ste} {v : V} {R : L2.It → Hp → Prop} (rv : rootV G σ t = some v) (o : Ok (kt X Z) G S σ H) (p : Post (kt X Z) W (RI (kt X Z)) G S σ H R (lockIt t S)) :
    (∃ a, v = .ref a ∧ (∃ xs, SqL X.K H a xs) ∧ R (Itl X.K a) H) ∨ (∃ a, v = .ref a ∧ (∃ xs, SqT X.K H a xs) ∧ R (Itt X.K a) H) ∨ ∃ z, v = .str z ∧ R (Its z) H := by
  unfold lockIt at p
  split at p
  · rename_i x e
    obtain ⟨u, h1, ot⟩ := o.own t _ _ e
    rw [rv] at h1
    cases h1
    exact own_fin (S0 := S) (lock_is e) rv ot (o.lock t) (Post.shift p (Stp.lock t))
  · exact p.elim
theorem si_seq {tg e : Expr} {a : C} (ha : PE X e (tE (kt X Z) W (ev P a))) : PI X tg e (tI (kt X Z) W (evIt P (.seq a))) := (pi_any ha).imp fun σ H R h => by
  obtain ⟨G, S, o, p⟩ := h
  rw [it_seq] at p
  refine ⟨G, S, o, p.seq fun G1 S1 x v H1 o1 st1 r1 p1 => ?_⟩
  cases x with
  | d x => exact seq_fin (w := false) o1 r1 p1
  | w x => exact seq_fin (w := true) o1 r1 p1
  | r n =>
    obtain ⟨b, h1, rfl⟩ := r1
    exact lock_fin (t := .c n) (by show Option.map V.ref (G1.io[n]?) = _; rw [h1]; rfl) o1 p1
  | k x => exact p1.elim
  | pk t q =>
    cases q with
    | cons i q => exact p1.elim
    | nil =>
      obtain ⟨v0, q0, h1, h2, h3⟩ := r1
      cases h2
      exact lock_fin h1 o1 p1
theorem it_rng {as : Cs} {S : Ste} : evIt P (.rng as) S = (evs P as S).bind fun xs s => Res.of (((s.ress xs).bind rngItems).map fun xs => (xs, false, none)) s := by rw [evIt]
theorem rng_fin {σ : St} {H : Hp} {G : Gh} {S : Ste} {xs : List Vl} {vs : List V} {R : L2.It → Hp → Prop} (o : Ok (kt X Z) G S σ H) (r : VDs (kt X Z) G S σ H xs vs) (p : Post (kt X Z) W (RI (kt X Z)) G S σ H R (Res.of (((S.ress xs).bind rngItems).map fun xs => (xs, false, none)) S)) :
    (∃ j : Int, vs = [.int j] ∧ -(2 ^ 62) ≤ j ∧ j < 2 ^ 62 ∧ R (Itr 0 j.toNat) H) ∨ ∃ i j : Int, vs = [.int i, .int j] ∧ (-(2 ^ 62) ≤ i ∧ i < 2 ^ 62 ∧ -(2 ^ 62) ≤ j ∧ j < 2 ^ 62) ∧ R (Itr i (j - i).toNat) H := by
  cases e1 : S.ress xs with
  | none => rw [e1] at p; exact p.elim
  | some ds =>
    have dn := o.ressL r e1 (Nat.le_refl _)
    rw [e1] at p
    simp only [Option.bind] at p
    unfold rngItems at p
    split at p
    · rename_i n
      cases dn with
      | cons di rr =>
        cases rr
        cases di
        split at p
        · rename_i hb
          exact .inl ⟨n, rfl, by omega, by omega, p G _ H o (Stp.refl _ _ _ _) src_rng⟩
        · exact p.elim
    · rename_i i j
      cases dn with
      | cons di rr =>
        cases rr with
        | cons dj rr =>
          cases rr
          cases di; cases dj
          split at p
          · rename_i hb
            exact .inr ⟨i, j, rfl, ⟨by omega, by omega, by omega, by omega⟩, p G _ H o (Stp.refl _ _ _ _) src_rng⟩
          · exact p.elim
    · exact p.elim
theorem si_rng1 {tg a : Expr} {c : C} {p pos : Pos} (hg : Gl X "range") (hm : X.mg "range" = none) (ha : PA X [a] (tA (kt X Z) W (evs P (.cons c .nil)))) (hs : starEach [a] X.env = [(false, eval a X.env)]) : PI X tg (.Call (.Name "range" p) [a] [] pos) (tI (kt X Z) W (evIt P (.rng (.cons c .nil)))) := (pi_range1 hg hm ha hs).imp fun σ H R h => by
  obtain ⟨G, S, o, q⟩ := h
  rw [it_rng] at q
  have q : Post (kt X Z) W (RI (kt X Z)) G S σ H R ((ev P c S).bind fun x s => Res.of (((s.ress [x]).bind rngItems).map fun xs => (xs, false, none)) s) := by
    rw [evs_one'] at q
    exact q
  refine ⟨G, S, o, ?_⟩
  rw [evs_one]
  cases e : ev P c S with
  | ok x S1 =>
    rw [e] at q
    intro G1 vs H1 o1 st1 r1
    have r1 : VDs (kt X Z) G1 S1 σ H1 [x] vs := r1
    rcases rng_fin o1 r1 (Post.shift q st1) with ⟨j, rfl, h⟩ | ⟨i, j, rfl, h⟩
    · exact ⟨j, rfl, h⟩
    · cases r1 with
      | cons a r => cases r
  | er c S1 => rw [e] at q; exact q
  | stuck => rw [e] at q; exact q
theorem si_rng2 {tg a b : Expr} {c d : C} {p pos : Pos} (hg : Gl X "range") (hm : X.mg "range" = none) (ha : PA X [a, b] (tA (kt X Z) W (evs P (.cons c (.cons d .nil))))) (hs : starEach [a, b] X.env = [(false, eval a X.env), (false, eval b X.env)]) (hs2 : starEach [b] X.env = [(false, eval b X.env)]) : PI X tg (.Call (.Name "range" p) [a, b] [] pos) (tI (kt X Z) W (evIt P (.rng (.cons c (.cons d .nil))))) :=
  (pi_range2 hg hm ha hs hs2).imp fun σ H R h => by
  obtain ⟨G, S, o, q⟩ := h
  rw [it_rng] at q
  refine ⟨G, S, o, ?_⟩
  cases e : evs P (.cons c (.cons d .nil)) S with
  | ok xs S1 =>
    have ln : xs.length = 2 := by
      rw [evs] at e
      cases e1 : ev P c S with
      | ok x s =>
        rw [e1] at e
        have e : (x.held s fun s => evs P (.cons d .nil) s).bind (fun xs s => Res.ok (x :: xs) s) = .ok xs S1 := e
        have : (fun s => evs P (.cons d .nil) s) = fun s => (ev P d s).bind fun y s => .ok [y] s := by funext s; exact evs_one
        rw [this, held_map] at e
        cases e2 : x.held s (ev P d) with
        | ok y s2 => rw [e2] at e; cases e; rfl
        | er c s2 => rw [e2] at e; cases e
        | stuck => rw [e2] at e; cases e
      | er c s => rw [e1] at e; cases e
      | stuck => rw [e1] at e; cases e
    rw [e] at q
    intro G1 vs H1 o1 st1 r1
    have r1 : VDs (kt X Z) G1 S1 σ H1 xs vs := r1
    rcases rng_fin o1 r1 (Post.shift q st1) with ⟨j, rfl, h⟩ | h
    · cases r1 with
      | cons a r =>
        cases r
        cases ln
    · exact h
  | er c S1 => rw [e] at q; exact q
  | stuck => rw [e] at q; exact q
theorem enumD_len : ∀ (xs : List D) (i : Nat), (enumD i xs).length = xs.length
  | [], _ => rfl
  | x :: xs, i => by simp [enumD, enumD_len xs]
theorem enumD_get : ∀ (xs : List D) (k i : Nat) (y : D), (enumD k xs)[i]? = some y → ∃ x, xs[i]? = some x ∧ y = .tuple [.int ((k + i : Nat) : Int), x]
  | [], _, _, _, h => by simp [enumD] at h
  | x :: xs, k, 0, y, h => by
    simp only [enumD, List.getElem?_cons_zero, Option.some.injEq] at h
    exact ⟨x, rfl, h.symm⟩
  | x :: xs, k, i + 1, y, h => by
    simp only [enumD, List.getElem?_cons_succ] at h
    obtain ⟨z, h1, h2⟩ := enumD_get xs (k + 1) i y h
    exact ⟨z, by simpa using h1, by rw [h2]; congr 3; omega⟩
theorem wd_tr {T : Kt} {G : Gh} {S : Ste} {σ : St} {H : Hp} (o : Ok T G S σ H) (w : Bool) : ∀ a, (if w then MW G else MM G) a → ∃ u, H a = some u := fun a m => by
  cases w with
  | false => exact o.tr1 m
  | true => exact o.tr1 (.inl m)
theorem src_enum {T : Kt} {w : Bool} {G : Gh} {S : Ste} {σ : St} {H : Hp} {a : Addr} {xs : List D} (dn : WD T G H w (.list xs) (.ref a)) : Src T (Ite T.K a) w (enumD 0 xs) G S σ H := fun G' S' σ' H' o r i => by
  obtain ⟨a', vs, e, hs, l⟩ := Dn.sql (WD.mono r dn)
  cases e
  refine ⟨fun hi => ⟨vs, hs, by rw [enumD_len] at hi; rw [← l.length]; exact Nat.le_of_eq hi⟩, fun y hy => ?_⟩
  obtain ⟨x, hx, rfl⟩ := enumD_get xs 0 i y hy
  obtain ⟨v, hv, dv⟩ := l.get hx
  refine ⟨⟨vs, v, hs, hv⟩, fun u H'' ⟨T, w, eu, nT, eH, hw⟩ => ?_⟩
  subst eu eH
  have := hw vs hs
  rw [hv] at this
  cases this
  refine ⟨Same.upd nT, ?_⟩
  have e0 : ((0 + i : Nat) : Int) = (i : Int) := by simp
  rw [e0]
  exact newT (wd_tr o _) nT (.cons (.int _) (.cons dv .nil))
def enumIt : Vl → Ste → Res (List D × Bool × Option Rt)
  | .d (.list xs), s => .ok (enumD 0 xs, false, none) s
  | .w (.list xs), s => .ok (enumD 0 xs, true, none) s
  | _, _ => .stuck
theorem it_enum {a : C} {S : Ste} : evIt P (.enum a) S = (ev P a S).bind enumIt := by
  rw [evIt]
  cases ev P a S with
  | ok x s =>
    cases x with
    | d x => cases x <;> rfl
    | w x => cases x <;> rfl
    | _ => rfl
  | er c s => rfl
  | stuck => rfl
theorem si_enum {elts : List Expr} {kk : Nat} {tpos : Pos} {e : Expr} {a : C} {p pos : Pos} (hg : Gl X "enumerate") (hm : X.mg "enumerate" = none) (ha : PE X e (tE (kt X Z) W (ev P a))) (hs : starEach [e] X.env = [(false, eval e X.env)]) :
    PI X (.Tuple elts kk tpos) (.Call (.Name "enumerate" p) [e] [] pos) (tI (kt X Z) W (evIt P (.enum a))) := (pi_enum hg hm (pa_cons ha pa_nil hs) hs).imp fun σ H R h => by
  obtain ⟨G, S, o, q⟩ := h
  rw [it_enum] at q
  refine ⟨G, S, o, q.seq fun G1 S1 x v H1 o1 st1 r1 p1 => ?_⟩
  have fin : ∀ (w : Bool) (xs : List D), WD (kt X Z) G1 H1 w (.list xs) v → Post (kt X Z) W (RI (kt X Z)) G1 S1 σ H1 R (.ok (enumD 0 xs, w, none) S1) → ∃ a xs, [v] = [V.ref a] ∧ SqL X.K H1 a xs ∧ R (Ite X.K a) H1 := fun w xs wd p1 => by
    obtain ⟨b, vs, rfl, hq, l⟩ := Dn.sql wd
    exact ⟨b, vs, rfl, hq, p1 G1 _ H1 o1 (Stp.refl _ _ _ _) (src_enum wd)⟩
  cases x with
  | d d =>
    cases d with
    | list xs => exact fin false xs r1 p1
    | _ => exact p1.elim
  | w d =>
    cases d with
    | list xs => exact fin true xs r1 p1
    | _ => exact p1.elim
  | _ => exact p1.elim
end
end EV
end
section
set_option Elab.async false
set_option linter.all false
set_option maxRecDepth 100000
set_option maxHeartbeats 4000000
set_option autoImplicit false
/-! GG2: zip of any two of lists, tuples, texts (the kit's own zip judgement has two lists or two tuples; its Draws have all) -/
namespace EV
open PySem PySem.Spec PyProof.Rows L2
/-- what is gone through -/
inductive SK where
  | lst (a : Addr) | tup (a : Addr) | str (z : Str)
def SK.v : SK → V
  | .lst a => .ref a
  | .tup a => .ref a
  | .str z => .str z
def SK.addr : SK → Option Addr
  | .lst a => some a
  | .tup a => some a
  | .str _ => none
def signs (z : Str) : List V := z.cps.toList.map fun c => .str ⟨#[c]⟩
def SrcAt (K : PySem.W.Frag) (H : Hp) : SK → List V → Prop
  | .lst a, xs => SqL K H a xs
  | .tup a, xs => SqT K H a xs
  | .str z, xs => xs = signs z
def IterAt (h : Heap) (it : Addr) : SK → Nat → Prop
  | .lst a, i => h.IsListIter it a i
  | .tup a, i => h.IsTupleIter it a i
  | .str z, i => ∃ t, h.IsStrIter it (strIterType z) z t i
theorem IterAt.at {h h' : Heap} {it : Addr} {k : SK} {i : Nat} (x : IterAt h it k i) (e : ∀ o, h.get? it = some o → h'.get? it = some o) : IterAt h' it k i := by
  cases k with
  | lst a => exact Heap.IsListIter.at x e
  | tup a => exact Heap.IsTupleIter.at x e
  | str z => obtain ⟨t, o, ho, r⟩ := x; exact ⟨t, o, e o ho, r⟩
theorem IterAt.obj {h : Heap} {it : Addr} {k : SK} {i : Nat} (x : IterAt h it k i) : ∃ o, h.get? it = some o ∧ ∀ v, o.data ≠ .cell v := by
  cases k with
  | lst a => obtain ⟨o, e, _, d⟩ := x; exact ⟨o, e, fun v q => by rw [d] at q; cases q⟩
  | tup a => obtain ⟨o, e, _, d⟩ := x; exact ⟨o, e, fun v q => by rw [d] at q; cases q⟩
  | str z => obtain ⟨t, o, e, _, d⟩ := x; exact ⟨o, e, fun v q => by rw [d] at q; cases q⟩
theorem one_src {X : Cx} {pins : List (Addr × Obj)} {σ : L2.St} {H : Hp} {s : Shared} (I : Inv X pins σ H s) {k : SK} {xs ys : List V} (a : SrcAt X.K H k xs) (b : SrcAt X.K H k ys) : xs = ys := by
  cases k with
  | lst c => exact I.list_inj a b
  | tup c => exact I.tuple_inj a b
  | str z => exact (show xs = signs z from a).trans (show ys = signs z from b).symm
/-- what the two have, pair by pair, in new tuples -/
def ItZ (K : PySem.W.Frag) (k1 k2 : SK) : L2.It :=
  ⟨fun i H => ∃ (xs ys : List V) (x y : V), SrcAt K H k1 xs ∧ SrcAt K H k2 ys ∧ xs[i]? = some x ∧ ys[i]? = some y,
    fun i H v H' => ∃ T x y, v = .ref T ∧ H T = none ∧ H' = upd H T (.tup [x, y]) ∧ (∀ xs, SrcAt K H k1 xs → xs[i]? = some x) ∧ ∀ ys, SrcAt K H k2 ys → ys[i]? = some y,
    fun i H => ∃ xs ys : List V, SrcAt K H k1 xs ∧ SrcAt K H k2 ys ∧ i = min xs.length ys.length⟩
structure Far (z TI TO i1 i2 : Addr) (k1 k2 : SK) : Prop where
  TIz : TI ≠ z
  TOz : TO ≠ z
  TITO : TI ≠ TO
  TIi1 : TI ≠ i1
  TIi2 : TI ≠ i2
  i1z : i1 ≠ z
  i2z : i2 ≠ z
  TO1 : TO ≠ i1
  TO2 : TO ≠ i2
  i12 : i1 ≠ i2
  s1 : ∀ a, k1.addr = some a → a ≠ z ∧ a ≠ TO ∧ a ≠ i1 ∧ a ≠ i2
  s2 : ∀ a, k2.addr = some a → a ≠ z ∧ a ≠ TO ∧ a ≠ i1 ∧ a ≠ i2
theorem vals_back : ∀ {xs : List V} {us : List Value} {i : Nat} {v : Value}, Vals xs us → us[i]? = some v → ∃ u, xs[i]? = some u ∧ RelV u v
  | _, _, i, _, .nil, e => by simp at e
  | _, _, 0, _, .cons a _, e => by
    simp only [List.getElem?_cons_zero, Option.some.injEq] at e
    subst e
    exact ⟨_, rfl, a⟩
  | _, _, i + 1, _, .cons _ r, e => by
    rw [List.getElem?_cons_succ] at e
    obtain ⟨u, h, q⟩ := vals_back r e
    exact ⟨u, by rw [List.getElem?_cons_succ]; exact h, q⟩
theorem draws_at {X : Cx} {pins : List (Addr × Obj)} {σ : L2.St} {H : Hp} {s : Shared} (hc : X.calm = true) (I : Inv X pins σ H s) {k : SK} {xs : List V} (src : SrcAt X.K H k xs) {it : Addr} {i : Nat} (ia : IterAt s.heap it k i) (ne : ∀ a, k.addr = some a → a ≠ it) :
    ∃ (fp : List Addr) (P : Nat → Value → Prop) (St : Nat → Heap → Prop), Draws X.prog X.w X.A.in1 it fp xs.length P St ∧ St i s.heap ∧ it ∈ fp ∧ (∀ c ∈ fp, c = it ∨ k.addr = some c) ∧ (∀ j h, St j h → IterAt h it k j) ∧ ∀ v, P i v → ∃ u, xs[i]? = some u ∧ RelV u v := by
  have hh : X.A.in1.handled = none := I.ok.hd hc
  cases k with
  | lst a =>
    obtain ⟨its, rv, pl, _⟩ := I.list src
    have e : its.toArray.size = xs.length := by rw [List.size_toArray, rv.length]
    have D := Draws.list (prog := X.prog) (w := X.w) hh it a (ne a rfl) its.toArray
    rw [e] at D
    refine ⟨_, _, _, D, ⟨ia, pl.isList⟩, by simp, fun c hcm => ?_, fun j h q => q.1, fun v hv => ?_⟩
    · simp only [List.mem_cons, List.not_mem_nil, or_false] at hcm
      exact hcm.elim .inl fun q => .inr (by rw [q]; rfl)
    · exact vals_back rv (by simpa using hv)
  | tup a =>
    obtain ⟨its, rv, pl, _⟩ := I.tuple src
    have e : its.toArray.size = xs.length := by rw [List.size_toArray, rv.length]
    have D := Draws.tuple (prog := X.prog) (w := X.w) hh it a (ne a rfl) its.toArray
    rw [e] at D
    refine ⟨_, _, _, D, ⟨ia, pl⟩, by simp, fun c hcm => ?_, fun j h q => q.1, fun v hv => ?_⟩
    · simp only [List.mem_cons, List.not_mem_nil, or_false] at hcm
      exact hcm.elim .inl fun q => .inr (by rw [q]; rfl)
    · exact vals_back rv (by simpa using hv)
  | str z =>
    obtain ⟨t, ia⟩ := ia
    have e : z.cps.size = xs.length := by rw [show xs = signs z from src]; simp [signs]
    have D := Draws.text (prog := X.prog) (w := X.w) hh it z t
    rw [e] at D
    refine ⟨_, _, _, D, ia, by simp, fun c hcm => .inl (by simpa using hcm), fun j h q => ⟨t, q⟩, fun v hv => ?_⟩
    obtain ⟨c, u, ec, rfl⟩ := hv
    refine ⟨.str ⟨#[c]⟩, ?_, u, rfl⟩
    rw [show xs = signs z from src]
    unfold signs
    rw [List.getElem?_map, Array.getElem?_toList, ec]
    rfl
theorem sep_of {z TI TO i1 i2 : Addr} {k1 k2 : SK} (F : Far z TI TO i1 i2 k1 k2) {fp1 fp2 : List Addr} (m1 : i1 ∈ fp1) (m2 : i2 ∈ fp2) (q1 : ∀ c ∈ fp1, c = i1 ∨ k1.addr = some c) (q2 : ∀ c ∈ fp2, c = i2 ∨ k2.addr = some c) : ZipSep2 z TI TO i1 i2 fp1 fp2 where
  TIz := F.TIz
  TOz := F.TOz
  TITO := F.TITO
  TIi1 := F.TIi1
  mem1 := m1
  zf1 := fun m => (q1 _ m).elim (fun e => F.i1z e.symm) fun e => (F.s1 _ e).1 rfl
  Tf1 := fun m => (q1 _ m).elim (fun e => F.TO1 e) fun e => (F.s1 _ e).2.1 rfl
  TIi2 := F.TIi2
  mem2 := m2
  zf2 := fun m => (q2 _ m).elim (fun e => F.i2z e.symm) fun e => (F.s2 _ e).1 rfl
  Tf2 := fun m => (q2 _ m).elim (fun e => F.TO2 e) fun e => (F.s2 _ e).2.1 rfl
  sep1_2 := fun m => (q2 _ m).elim (fun e => F.i12 e) fun e => (F.s2 _ e).2.2.1 rfl
  sep2_1 := fun m => (q1 _ m).elim (fun e => F.i12 e.symm) fun e => (F.s1 _ e).2.2.2 rfl
theorem turn_two {P : Program} {w : World} {K : PySem.W.Frag} {elts : List Expr} {kk : Nat} {tpos : Pos} {k1 k2 : SK} {z TI TO i1 i2 : Addr} (F : Far z TI TO i1 i2 k1 k2) :
    Turn P w K (.Tuple elts kk tpos) (ItZ K k1 k2) [z, TI, TO, i1, i2] z (fun i h => IsZip h z TI TO .none ∧ IsTupOf2 h TI (.ref i1) (.ref i2) ∧ (∃ x y, IsTupOf2 h TO x y) ∧ IterAt h i1 k1 i ∧ IterAt h i2 k2 i) where
  mem := List.mem_cons_self
  obj := fun i h st c m => by
    obtain ⟨hz, hTI, ⟨x, y, hTO⟩, h1, h2⟩ := st
    simp only [List.mem_cons, List.not_mem_nil, or_false] at m
    rcases m with rfl | rfl | rfl | rfl | rfl
    · exact ⟨_, hz, fun v q => nomatch q⟩
    · exact ⟨_, hTI, fun v q => nomatch q⟩
    · exact ⟨_, hTO, fun v q => nomatch q⟩
    · exact h1.obj
    · exact h2.obj
  keep := fun i h h' st k => by
    obtain ⟨hz, hTI, ⟨x, y, hTO⟩, h1, h2⟩ := st
    exact ⟨k z (by simp) _ hz, k TI (by simp) _ hTI, ⟨x, y, k TO (by simp) _ hTO⟩, h1.at (k i1 (by simp)), h2.at (k i2 (by simp))⟩
  item := by
    intro X hP hw hK hc i pins s σ H E I hf st hg
    subst hP hw hK
    obtain ⟨hz, hTI, ⟨x0, y0, hTO⟩, h1, h2⟩ := st
    obtain ⟨xs, ys, x, y, q1, q2, hx, hy⟩ := hg
    obtain ⟨fp1, P1, S1, D1, st1, m1, f1, b1, v1⟩ := draws_at hc I q1 h1 fun a e => (F.s1 a e).2.2.1
    obtain ⟨fp2, P2, S2, D2, st2, m2, f2, b2, v2⟩ := draws_at hc I q2 h2 fun a e => (F.s2 a e).2.2.2
    have lt1 : i < xs.length := (List.getElem?_eq_some_iff.mp hx).1
    have lt2 : i < ys.length := (List.getElem?_eq_some_iff.mp hy).1
    have zl : z < s.heap.objs.size := Heap.lt_size hz
    refine wpAny_pyNext_zipD2_item (sep_of F m1 m2 f1 f2) D1 D2 hz hTI hTO st1 st2 lt1 lt2 fun u1 u2 h' tk p1 p2 z' TO' s1' s2' hT hsz hk => ?_
    obtain ⟨x', ex, r1⟩ := v1 u1 p1
    obtain ⟨y', ey, r2⟩ := v2 u2 p2
    rw [hx] at ex
    rw [hy] at ey
    cases ex
    cases ey
    refine ⟨_, rfl, wpAny_letOwnedTupleGo_zip (s := { s with heap := h', toks := tk }) z' fun h2' z2 sb => ?_⟩
    have hT2 : h2'.get? s.heap.objs.size = some { cls := .type "tuple", data := .seq #[u1, u2] } := (sb.2 _ (Nat.ne_of_gt zl)).trans hT
    have new : ObjOk X.prog X.w (upd H s.heap.objs.size (.tup [x, y])) h2' s.heap.objs.size (.tup [x, y]) := ⟨by show 2 ≤ sizeLine; decide, [u1, u2], .cons r1 (.cons r2 .nil), ⟨_, hT2, rfl, _, rfl⟩⟩
    have kept : ∀ c o, c ∉ [z, TI, TO, i1, i2] → s.heap.get? c = some o → h2'.get? c = some o := fun c o m q => by
      simp only [List.mem_cons, List.not_mem_nil, or_false, not_or] at m
      exact (sb.2 c m.1).trans (hk c o m.1 m.2.2.1 m.2.2.2.1 m.2.2.2.2 q)
    have I1 : Inv X pins σ (upd H s.heap.objs.size (.tup [x, y])) { s with heap := h2', toks := tk } := I.turnedNew (t' := tk) (ch := [z, TI, TO, i1, i2]) kept hf (Nat.le_refl _) new
    refine ⟨.ref s.heap.objs.size, _, I1, rfl, ⟨_, x, y, rfl, I.hok.fresh (Nat.le_refl _), rfl, fun l hl => by rw [one_src I hl q1]; exact hx, fun l hl => by rw [one_src I hl q2]; exact hy⟩, ⟨z2, ?_, ⟨u1, u2, ?_⟩, ?_, ?_⟩, fun c m => ?_⟩
    · exact (sb.2 _ F.TIz).trans (hk _ _ F.TIz F.TITO F.TIi1 F.TIi2 hTI)
    · exact (sb.2 _ F.TOz).trans TO'
    · exact (b1 _ _ s1').at fun o q => (sb.2 _ F.i1z).trans q
    · exact (b2 _ _ s2').at fun o q => (sb.2 _ F.i2z).trans q
    · have lt : c < s.heap.objs.size := by
        simp only [List.mem_cons, List.not_mem_nil, or_false] at m
        rcases m with rfl | rfl | rfl | rfl | rfl
        · exact zl
        · exact Heap.lt_size hTI
        · exact Heap.lt_size hTO
        · obtain ⟨_, e, _⟩ := h1.obj; exact Heap.lt_size e
        · obtain ⟨_, e, _⟩ := h2.obj; exact Heap.lt_size e
      rw [upd_ne (Nat.ne_of_lt lt)]
      exact (hf c m).1
  done := by
    intro X hP hw hK hc i pins s σ H E I hf st hg
    subst hP hw hK
    obtain ⟨hz, hTI, ⟨x0, y0, hTO⟩, h1, h2⟩ := st
    obtain ⟨xs, ys, q1, q2, he⟩ := hg
    obtain ⟨fp1, P1, S1, D1, st1, m1, f1, b1, v1⟩ := draws_at hc I q1 h1 fun a e => (F.s1 a e).2.2.1
    obtain ⟨fp2, P2, S2, D2, st2, m2, f2, b2, v2⟩ := draws_at hc I q2 h2 fun a e => (F.s2 a e).2.2.2
    refine wpAny_pyNext_zipD2_end (sep_of F m1 m2 f1 f2) D1 D2 hz hTI hTO st1 st2 (by omega) (by omega) (by omega) fun h' tk hk => ⟨rfl, I.turnedL (t' := tk) (ch := [z, TI, TO, i1, i2]) (fun c o m q => ?_) hf⟩
    simp only [List.mem_cons, List.not_mem_nil, or_false, not_or] at m
    exact hk c o m.1 m.2.2.1 m.2.2.2.1 m.2.2.2.2 q
  self := fun A i s Q E st h => wpAny_pyIter_zip st.1 h
def beginObj : Value → SK → Obj
  | v, .lst _ => { cls := .type "list_iterator", data := .fields #[v, .int 0 0] }
  | v, .tup _ => { cls := .type "tuple_iterator", data := .fields #[v, .int 0 0] }
  | v, .str z => { cls := .type (strIterType z), data := .fields #[v, .int 0 0] }
theorem begin_at {X : Cx} {pins : List (Addr × Obj)} {σ : L2.St} {H : Hp} {s : Shared} (I : Inv X pins σ H s) {k : SK} {xs : List V} (src : SrcAt X.K H k xs) {v : Value} (r : RelV k.v v) :
    ∃ B : Heap → Prop, Begins v (beginObj v k) B ∧ B s.heap ∧ (∀ a, k.addr = some a → a < s.heap.objs.size) ∧ ∀ h' it, h'.get? it = some (beginObj v k) → IterAt h' it k 0 := by
  cases k with
  | lst a =>
    cases r
    obtain ⟨its, rv, pl, _⟩ := I.list src
    exact ⟨_, begins_list a its.toArray, pl.isList, fun b e => by cases e; exact pl.lt, fun h' it e => ⟨_, e, rfl, rfl⟩⟩
  | tup a =>
    cases r
    obtain ⟨its, rv, pl, _⟩ := I.tuple src
    exact ⟨_, begins_tuple a its.toArray, pl, fun b e => by cases e; obtain ⟨o, q, _⟩ := pl; exact Heap.lt_size q, fun h' it e => ⟨_, e, rfl, rfl⟩⟩
  | str z =>
    obtain ⟨t, rfl⟩ := r
    exact ⟨_, begins_text z t, trivial, fun b e => (nomatch e), fun h' it e => ⟨t, _, e, rfl, rfl⟩⟩
def iTwo (K : PySem.W.Frag) (ta : TA) : L2.TI := fun σ H R => ta σ H fun vs H1 => ∃ k1 k2, vs = [SK.v k1, SK.v k2] ∧ (∃ xs, SrcAt K H1 k1 xs) ∧ (∃ ys, SrcAt K H1 k2 ys) ∧ R (ItZ K k1 k2) H1
theorem pi_two {X : Cx} {e e2 : Expr} {ta : TA} {p pos tpos : Pos} {elts : List Expr} {kk : Nat} (hg : Gl X "zip") (hm : X.mg "zip" = none) (ha : PA X [e, e2] ta)
    (hs : starEach [e, e2] X.env = (false, eval e X.env) :: starEach [e2] X.env) (hpl : (backTo pos (starEach [e2] X.env)).any (·.1) = false) : PI X (.Tuple elts kk tpos) (.Call (.Name "zip" p) [e, e2] [] pos) (iTwo X.K ta) := by
  refine ⟨fun pins s σ H R I h => ?_⟩
  refine Call_ (ld_blt I hg hm PyProof.Rows.boot_zip (PyProof.Rows.callWith_type1 (thn (ha.run pos pins s σ H _ I h) fun us s1 ⟨vs, H1, I1, r1, k1, k2, ev, ⟨xs, q1⟩, ⟨ys, q2⟩, q⟩ => ?_) hs hpl))
  subst ev
  obtain ⟨u1, u2, rfl, v1, v2⟩ := vals2 r1
  obtain ⟨B1, b1, c1, l1, t1⟩ := begin_at I1 q1 v1
  obtain ⟨B2, b2, c2, l2, t2⟩ := begin_at I1 q2 v2
  refine zip_begins2 b1 b2 c1 c2 fun h' hz hTI hTO h1 h2 hsz hk => wpAny_pyIter_zip hz ?_
  have I2 : Inv X pins σ H1 { s1 with heap := h' } := I1.kept (t' := s1.toks) hk
  have far : ∀ (k : SK), (∀ a, k.addr = some a → a < s1.heap.objs.size) → ∀ a, k.addr = some a → a ≠ s1.heap.objs.size + 4 ∧ a ≠ s1.heap.objs.size + 3 ∧ a ≠ s1.heap.objs.size ∧ a ≠ s1.heap.objs.size + 1 := fun k l a e => by
    have q : a < s1.heap.objs.size := l a e
    exact ⟨Nat.ne_of_lt (Nat.lt_of_lt_of_le q (Nat.le_add_right _ _)), Nat.ne_of_lt (Nat.lt_of_lt_of_le q (Nat.le_add_right _ _)), Nat.ne_of_lt q, Nat.ne_of_lt (Nat.lt_of_lt_of_le q (Nat.le_add_right _ _))⟩
  have ne : ∀ {i j : Nat}, i ≠ j → s1.heap.objs.size + i ≠ s1.heap.objs.size + j := fun h e => h (by omega)
  refine ⟨s1.heap.objs.size + 4, [s1.heap.objs.size + 4, s1.heap.objs.size + 2, s1.heap.objs.size + 3, s1.heap.objs.size, s1.heap.objs.size + 1], _, _, H1, rfl, I2, turn_two ⟨ne (by decide), ne (by decide), ne (by decide), ne (i := 2) (j := 0) (by decide), ne (by decide), ne (i := 0) (by decide), ne (by decide), ne (i := 3) (j := 0) (by decide), ne (by decide), ne (i := 0) (by decide), far k1 l1, far k2 l2⟩,
    ⟨hz, hTI, ⟨_, _, hTO⟩, t1 _ _ h1, t2 _ _ h2⟩, fun c m => ?_, q⟩
  have hle : s1.heap.objs.size ≤ c := by
    simp only [List.mem_cons, List.not_mem_nil, or_false] at m
    rcases m with rfl | rfl | rfl | rfl | rfl <;> omega
  exact I1.fpOk hle (I1.hok.fresh hle)
section
variable {X : Cx} {Z : Ct} {W : WX} {P : Env}
/-- how a thing of data is gone through -/
def kindOf : D → V → SK
  | .list _, .ref a => .lst a
  | .tuple _, .ref a => .tup a
  | .str z, _ => .str z
  | _, _ => .str Str.empty
theorem src_kind {K : PySem.W.Frag} {M : Addr → Prop} {H : Hp} {x : D} {v : V} {xs : List D} (dn : Dn K M H true x v) (e : seqItems x = some xs) : v = (kindOf x v).v ∧ ∃ vs, SrcAt K H (kindOf x v) vs ∧ DnL K M H xs vs := by
  cases x with
  | list ys =>
    cases e
    obtain ⟨a, vs, rfl, hs, l⟩ := dn.sql
    exact ⟨rfl, vs, hs, l⟩
  | tuple ys =>
    cases e
    obtain ⟨a, vs, rfl, hs, l⟩ := dn.sqt
    exact ⟨rfl, vs, hs, l⟩
  | str z =>
    cases e
    cases dn
    refine ⟨rfl, signs z, rfl, ?_⟩
    unfold signs
    generalize z.cps.toList = l
    induction l with
    | nil => exact .nil
    | cons c l ih => exact .cons (.str _) ih
  | _ => cases e
theorem zipW_get {xs ys : List D} {i : Nat} {z : D} (h : (List.zipWith (fun a b => PyData.tuple [a, b]) xs ys)[i]? = some z) : ∃ x y, xs[i]? = some x ∧ ys[i]? = some y ∧ z = .tuple [x, y] := by
  rw [List.getElem?_zipWith] at h
  cases e1 : xs[i]? with
  | none => rw [e1] at h; cases h
  | some x =>
    cases e2 : ys[i]? with
    | none => rw [e1, e2] at h; cases h
    | some y =>
      rw [e1, e2] at h
      cases h
      exact ⟨x, y, rfl, rfl, rfl⟩
theorem src_two {T : Kt} {G : Gh} {S : Ste} {σ : L2.St} {H : Hp} {x y : D} {v u : V} {xs ys : List D} (dx : Dn T.K (MM G) H true x v) (dy : Dn T.K (MM G) H true y u) (ex : seqItems x = some xs) (ey : seqItems y = some ys) :
    Src T (ItZ T.K (kindOf x v) (kindOf y u)) false (List.zipWith (fun a b => .tuple [a, b]) xs ys) G S σ H := fun G' S' σ' H' o r i => by
  obtain ⟨_, vs, s1, l1⟩ := src_kind (Dn.mono r.mono _ _ dx) ex
  obtain ⟨_, us, s2, l2⟩ := src_kind (Dn.mono r.mono _ _ dy) ey
  refine ⟨fun hi => ⟨vs, us, s1, s2, by rw [List.length_zipWith, l1.length, l2.length] at hi; exact hi.symm⟩, fun z hz => ?_⟩
  obtain ⟨a, b, ha, hb, rfl⟩ := zipW_get hz
  obtain ⟨v1, e1, d1⟩ := l1.get ha
  obtain ⟨v2, e2, d2⟩ := l2.get hb
  refine ⟨⟨vs, us, v1, v2, s1, s2, e1, e2⟩, fun w H'' ⟨T, w1, w2, eu, nT, eH, h1, h2⟩ => ?_⟩
  subst eu eH
  have q1 := h1 vs s1
  have q2 := h2 us s2
  rw [e1] at q1
  rw [e2] at q2
  cases q1
  cases q2
  exact ⟨Same.upd nT, newT (wd_tr o false) nT (.cons d1 (.cons d2 .nil))⟩
theorem it_zip {as : Cs} {S : Ste} : evIt P (.zip as) S = (evs P as S).bind fun xs s => Res.of (((dats xs).bind zipD).map fun xs => (xs, false, none)) s := by rw [evIt]
theorem si_zip {elts : List Expr} {kk : Nat} {tpos : Pos} {a b : Expr} {as : Cs} {p pos : Pos} (hg : Gl X "zip") (hm : X.mg "zip" = none) (ha : PA X [a, b] (tA (kt X Z) W (evs P as))) (hs : starEach [a, b] X.env = [(false, eval a X.env), (false, eval b X.env)]) (hs2 : starEach [b] X.env = [(false, eval b X.env)]) :
    PI X (.Tuple elts kk tpos) (.Call (.Name "zip" p) [a, b] [] pos) (tI (kt X Z) W (evIt P (.zip as))) :=
  (pi_two hg hm ha (by rw [hs, hs2]) (by rw [hs2]; rfl)).imp fun σ H R h => by
  obtain ⟨G, S, o, q⟩ := h
  rw [it_zip] at q
  refine ⟨G, S, o, q.seq fun G1 S1 xs vs H1 o1 st1 r1 p1 => ?_⟩
  have r1 : VDs (kt X Z) G1 S1 σ H1 xs vs := r1
  cases ed : dats xs with
  | none => rw [ed] at p1; exact p1.elim
  | some ds =>
    rw [ed] at p1
    have l := VDs.dats o1 r1 ed
    have p1 : Post (kt X Z) W (RI (kt X Z)) G1 S1 σ H1 R (Res.of ((zipD ds).map fun xs => (xs, false, none)) S1) := p1
    unfold zipD at p1
    split at p1
    · rename_i x y q0
      cases l with
      | cons dx l =>
        cases l with
        | cons dy l =>
          cases l
          cases ex : seqItems x with
          | none => rw [ex] at p1; exact False.elim p1
          | some xs' =>
            cases ey : seqItems y with
            | none => rw [ex, ey] at p1; exact False.elim p1
            | some ys =>
              rw [ex, ey] at p1
              obtain ⟨e1, vs, s1, _⟩ := src_kind dx ex
              obtain ⟨e2, us, s2, _⟩ := src_kind dy ey
              exact ⟨_, _, by rw [← e1, ← e2], ⟨vs, s1⟩, ⟨us, s2⟩, p1 G1 _ H1 o1 (Stp.refl _ _ _ _) (src_two dx dy ex ey)⟩
    · exact p1.elim
end
end EV
end
section
set_option Elab.async false
set_option linter.all false
set_option maxRecDepth 100000
set_option maxHeartbeats 4000000
set_option autoImplicit false
/-! GH: comprehensions -/
namespace EV
open PySem L2
/-! ### slots put aside and back -/
theorem wipe_ge {σ : St} {i : Nat} : ∀ {vs : List Nat}, (wipe σ vs)[i]? = if i ∈ vs then (σ[i]?).map fun _ => none else σ[i]?
  | [] => by simp [wipe]
  | v :: vs => by
    unfold wipe
    rw [List.getElem?_set, wipe_length]
    by_cases h : v = i
    · subst h
      rw [if_pos rfl]
      by_cases hv : v < σ.length
      · rw [if_pos hv]; simp [List.getElem?_eq_getElem hv]
      · rw [if_neg hv]; simp [List.getElem?_eq_none (Nat.le_of_not_lt hv)]
    · rw [if_neg h, wipe_ge]
      have : (i ∈ v :: vs) ↔ i ∈ vs := by simp [Ne.symm h]
      simp only [this]
theorem wipeR_len (rho : List Slot) : ∀ vs : List Nat, (wipeR rho vs).length = rho.length
  | [] => rfl
  | v :: vs => by unfold wipeR; rw [List.length_set, wipeR_len rho vs]
theorem wipeR_ge {rho : List Slot} {i : Nat} : ∀ {vs : List Nat}, (wipeR rho vs)[i]? = if i ∈ vs then (rho[i]?).map fun _ => .non else rho[i]?
  | [] => by simp [wipeR]
  | v :: vs => by
    unfold wipeR
    rw [List.getElem?_set, wipeR_len]
    by_cases h : v = i
    · subst h
      rw [if_pos rfl]
      by_cases hv : v < rho.length
      · rw [if_pos hv]; simp [List.getElem?_eq_getElem hv]
      · rw [if_neg hv]; simp [List.getElem?_eq_none (Nat.le_of_not_lt hv)]
    · rw [if_neg h, wipeR_ge]
      have : (i ∈ v :: vs) ↔ i ∈ vs := by simp [Ne.symm h]
      simp only [this]
theorem backR_len (rho0 rho : List Slot) : ∀ vs : List Nat, (backR rho0 rho vs).length = rho.length
  | [] => rfl
  | v :: vs => by
    unfold backR
    cases rho0[v]? with
    | none => exact backR_len rho0 rho vs
    | some x =>
      show ((backR rho0 rho vs).set v x).length = _
      rw [List.length_set, backR_len rho0 rho vs]
theorem backR_ge {rho0 rho : List Slot} (hl : rho0.length = rho.length) {i : Nat} : ∀ {vs : List Nat}, (backR rho0 rho vs)[i]? = if i ∈ vs then rho0[i]? else rho[i]?
  | [] => by simp [backR]
  | v :: vs => by
    unfold backR
    cases e : rho0[v]? with
    | none =>
      show (backR rho0 rho vs)[i]? = _
      rw [backR_ge hl]
      by_cases h : v = i
      · subst h
        have : rho[v]? = none := by
          rw [List.getElem?_eq_none_iff] at e ⊢
          omega
        simp [e, this]
      · have : (i ∈ v :: vs) ↔ i ∈ vs := by simp [Ne.symm h]
        simp only [this]
    | some x =>
      show ((backR rho0 rho vs).set v x)[i]? = _
      rw [List.getElem?_set, backR_len]
      by_cases h : v = i
      · subst h
        have hv := (List.getElem?_eq_some_iff.mp e).1
        rw [if_pos rfl, if_pos (by omega)]
        simp [e]
      · rw [if_neg h, backR_ge hl]
        have : (i ∈ v :: vs) ↔ i ∈ vs := by simp [Ne.symm h]
        simp only [this]
theorem wipe_eq {a b : St} {vs : List Nat} (hl : a.length = b.length) (h : ∀ j, j ∉ vs → a[j]? = b[j]?) : wipe a vs = wipe b vs := by
  apply List.ext_getElem?
  intro i
  rw [wipe_ge, wipe_ge]
  split
  · by_cases hi : i < a.length
    · rw [List.getElem?_eq_getElem hi, List.getElem?_eq_getElem (by omega)]; rfl
    · rw [List.getElem?_eq_none (by omega), List.getElem?_eq_none (by omega)]
  · rename_i hi
    exact h i hi
theorem wipe_wipe {a : St} {vs : List Nat} : wipe (wipe a vs) vs = wipe a vs := wipe_eq (wipe_length _ _) fun j hj => by rw [wipe_ge, if_neg hj]
theorem frees_at : ∀ {vs : List Nat} {rho : List Slot}, frees vs rho = true → ∀ v ∈ vs, ∀ sh x, rho[v]? ≠ some (.own sh x) ∧ rho[v]? ≠ some (.lck sh x)
  | [], _, _, _, h, _, _ => by simp at h
  | i :: r, rho, f, v, h, sh, x => by
    unfold frees at f
    rw [Bool.and_eq_true] at f
    rcases List.mem_cons.mp h with rfl | h
    · refine ⟨fun e => ?_, fun e => ?_⟩ <;> (rw [e] at f; exact nomatch f.1)
    · exact frees_at f.2 v h sh x
theorem lcLoop_len {turn : D → Ste → Res (Option D)} : ∀ {xs acc ys : List D} {s s' : Ste}, lcLoop turn xs acc s = .ok ys s' → acc.length ≤ ys.length
  | [], acc, ys, s, s', h => by
    unfold lcLoop at h
    cases h
    exact Nat.le_refl _
  | x :: xs, acc, ys, s, s', h => by
    unfold lcLoop at h
    split at h
    · exact lcLoop_len h
    · have := lcLoop_len h
      rw [List.length_append] at this
      simp only [List.length_cons, List.length_nil] at this
      omega
    · cases h
section
variable {T : Kt} {G G' G1 G2 : Gh} {S S' S1 S2 : Ste} {σ σ' σ1 σ2 : St} {H H' H1 H2 : Hp} {D0 : Addr} {vs : List Nat}
/-- slots forgotten -/
theorem Ok.wipedK (o : Ok T G S σ H) : ∀ vs : List Nat, ∃ G' : Gh, Ok T G' { S with rho := wipeR S.rho vs } (wipe σ vs) H ∧ G'.io = G.io ∧ G'.tm = G.tm ∧ G'.A = G.A ∧ (∀ a, MM G' a → MM G a) ∧ (∀ a, MW G' a → MW G a) ∧ ∀ t, (∀ v ∈ vs, t ≠ Rt.s v) → G'.fp t = G.fp t
  | [] => ⟨G, o, rfl, rfl, rfl, fun _ h => h, fun _ h => h, fun _ _ => rfl⟩
  | v :: vs => by
    obtain ⟨G1, o1, e1, e2, e3, m, w, f⟩ := Ok.wipedK o vs
    by_cases hv : v < (wipeR S.rho vs).length
    · obtain ⟨o2, _, m2, w2⟩ := Ok.sset0 (E := []) (i := v) (y := .non) (σ' := (wipe σ vs).set v none) o1 hv (by simp) set_same_ne (.inl ⟨rfl, rfl⟩)
      obtain ⟨i1, i2, i3⟩ := setFp_io G1 (.s v) []
      refine ⟨G1.setFp (.s v) [], o2, i1.trans e1, i2.trans e2, i3.trans e3, fun a h => m a (m2 a h), fun a h => w a (w2 a h), fun t ht => ?_⟩
      rw [fp_ne G1 [] (ht v List.mem_cons_self), f t fun u hu => ht u (List.mem_cons_of_mem _ hu)]
    · have h1 : wipeR S.rho (v :: vs) = wipeR S.rho vs := by
        show (wipeR S.rho vs).set v .non = _
        rw [List.set_eq_of_length_le (by omega)]
      have h2 : wipe σ (v :: vs) = wipe σ vs := by
        show (wipe σ vs).set v none = _
        rw [List.set_eq_of_length_le (by
          have := o1.len
          have : (wipeR S.rho vs).length = (wipe σ vs).length := this
          omega)]
      rw [h1, h2]
      exact ⟨G1, o1, e1, e2, e3, m, w, fun t ht => f t fun u hu => ht u (List.mem_cons_of_mem _ hu)⟩
theorem SD.monoK {x : Vl} {v : V} (k : Keeps (MM G) H (MM G') H') (kw : Keeps (MW G) H (MW G') H') (io : ∃ l, G'.io = G.io ++ l) (h : SD T G H x v) : SD T G' H' x v := by
  cases x with
  | d x => exact Dn.mono k _ _ h
  | r n =>
    obtain ⟨a, e, rfl⟩ := h
    obtain ⟨l, e2⟩ := io
    refine ⟨a, ?_, rfl⟩
    rw [e2, List.getElem?_append_left (List.getElem?_eq_some_iff.mp e).1]
    exact e
  | w x => exact Dn.mono kw _ _ h
  | k x => exact h
  | pk t p => exact h.elim
theorem rootV_wipe {t : Rt} (ht : ∀ v ∈ vs, t ≠ Rt.s v) : rootV G (wipe σ vs) t = rootV G σ t := by
  cases t with
  | s i =>
    have hi : i ∉ vs := fun z => ht i z rfl
    unfold rootV
    dsimp only
    rw [wipe_ge, if_neg hi]
  | c n => rfl
theorem lkd_wipe {t : Rt} (ht : ∀ v ∈ vs, t ≠ Rt.s v) : ({ S with rho := wipeR S.rho vs } : Ste).lkd t = S.lkd t := by
  cases t with
  | s i =>
    have hi : i ∉ vs := fun z => ht i z rfl
    unfold Ste.lkd
    dsimp only
    rw [wipeR_ge, if_neg hi]
  | c n => rfl
theorem lkd_back {t : Rt} (hl : S.rho.length = S'.rho.length) (ht : ∀ v ∈ vs, t ≠ Rt.s v) : ({ S' with rho := backR S.rho S'.rho vs } : Ste).lkd t = S'.lkd t := by
  cases t with
  | s i =>
    have hi : i ∉ vs := fun z => ht i z rfl
    unfold Ste.lkd
    dsimp only
    rw [backR_ge hl, if_neg hi]
  | c n => rfl
theorem get_back (hl : S.rho.length = S'.rho.length) (fr : ∀ v ∈ vs, ∀ sh x, S.rho[v]? ≠ some (.own sh x) ∧ S.rho[v]? ≠ some (.lck sh x)) (wn : ∀ v ∈ vs, ∀ x, S'.rho[v]? = some x → x = .non) (t : Rt) :
    ({ S' with rho := backR S.rho S'.rho vs } : Ste).get t = S'.get t ∧ ∀ q, S'.get t = some q → ∀ v ∈ vs, t ≠ Rt.s v := by
  cases t with
  | c n => exact ⟨rfl, fun _ _ _ _ z => nomatch z⟩
  | s i =>
    unfold Ste.get
    dsimp only
    rw [backR_ge hl]
    by_cases hi : i ∈ vs
    · rw [if_pos hi]
      have hs : S'.rho[i]? = none ∨ S'.rho[i]? = some .non := by
        cases e : S'.rho[i]? with
        | none => exact .inl rfl
        | some x => rw [wn i hi x e]; exact .inr rfl
      have e2 : ∀ r : Option Slot, (r = none ∨ r = some .non ∨ ∃ y, r = some (.v y)) → (match r with | some (.own sh x) => some (sh, x) | some (.lck sh x) => some (sh, x) | _ => none) = (none : Option (Sh × D)) := fun r hr => by
        rcases hr with rfl | rfl | ⟨y, rfl⟩ <;> rfl
      have h1 := e2 (S'.rho[i]?) (hs.imp id .inl)
      have h2 := e2 (S.rho[i]?) (by
        cases e : S.rho[i]? with
        | none => exact .inl rfl
        | some x =>
          cases x with
          | own sh y => exact ((fr i hi sh y).1 e).elim
          | lck sh y => exact ((fr i hi sh y).2 e).elim
          | non => exact .inr (.inl rfl)
          | v y => exact .inr (.inr ⟨y, rfl⟩))
      exact ⟨h2.trans h1.symm, fun q h => nomatch h1.symm.trans h⟩
    · rw [if_neg hi]
      exact ⟨rfl, fun q _ v hv z => by cases z; exact hi hv⟩
theorem Ok.back (o : Ok T G S σ H) (o' : Ok T G' S' (wipe σ vs) H') (fr : ∀ v ∈ vs, ∀ sh x, S.rho[v]? ≠ some (.own sh x) ∧ S.rho[v]? ≠ some (.lck sh x)) (wn : ∀ v ∈ vs, ∀ x, S'.rho[v]? = some x → x = .non)
    (k : Keeps (MM G) H (MM G') H') (kw : Keeps (MW G) H (MW G') H') (io : ∃ l, G'.io = G.io ++ l) : Ok T G' { S' with rho := backR S.rho S'.rho vs } σ H' := by
  have hl : S.rho.length = S'.rho.length := by rw [o.len, o'.len, wipe_length]
  have gb := get_back (vs := vs) hl fr wn
  refine ⟨by show (backR _ _ _).length = _; rw [backR_len, o'.len, wipe_length], o'.hlen, fun i x e => ?_, fun t sh x e => ?_, fun t e => o'.no t (by rw [← (gb t).1]; exact e), o'.nd, o'.dj, o'.dA, o'.tr⟩
  · have e : (backR S.rho S'.rho vs)[i]? = _ := e
    rw [backR_ge hl] at e
    split at e
    · obtain ⟨v, h1, h2⟩ := o.val i x e
      exact ⟨v, h1, SD.monoK k kw io h2⟩
    · rename_i hi
      obtain ⟨v, h1, h2⟩ := o'.val i x e
      rw [wipe_ge, if_neg hi] at h1
      exact ⟨v, h1, h2⟩
  · rw [(gb t).1] at e
    obtain ⟨v, h1, h2⟩ := o'.own t sh x e
    rw [rootV_wipe ((gb t).2 _ e)] at h1
    exact ⟨v, h1, h2⟩
/-- what was just made is written -/
theorem Ok.wrT (o : Ok T G S σ H) {a : Addr} (m : a ∈ G.tm) {u : HO} (nt : notTup u) : Ok T G S σ (upd H a u) := by
  have mw : MW G a := ⟨none, m⟩
  have k : Keeps (MM G) H (MM G) (upd H a u) := Keeps.at (.inl mw)
  have kw : Keeps (MW G) H (MW G) (upd H a u) := Keeps.at mw
  refine ⟨o.len, o.hlen, fun i x e => ?_, fun t sh x e => ?_, o.no, o.nd, o.dj, o.dA, fun b h => ?_⟩
  · obtain ⟨v, h1, h2⟩ := o.val i x e
    exact ⟨v, h1, SD.monoK k kw ⟨[], by simp⟩ h2⟩
  · obtain ⟨v, h1, h2⟩ := o.own t sh x e
    exact ⟨v, h1, OT.mono k ⟨[], by simp⟩ _ _ _ _ h2 fun b hb => upd_ne fun z => nomatch o.dj none (some t) a m (by rw [← z]; exact hb)⟩
  · by_cases hb : b = a
    · subst hb; exact ⟨u, upd_same, nt⟩
    · rw [upd_ne hb]; exact o.tr b h
/-- what a loop keeps that fills a new thing -/
structure Lp (D0 : Addr) (G : Gh) (S : Ste) (σ : St) (H : Hp) (G' : Gh) (S' : Ste) (σ' : St) (H' : Hp) : Prop where
  io : ∃ l, G'.io = G.io ++ l
  A : G'.A = G.A
  mono : Keeps (MM G) H (MM G') H'
  monoW : Keeps (MW G) H (MW G') H'
  tm : G'.tm = D0 :: G.tm ∧ ∀ a ∈ G.tm, H' a = H a
  anon : ∀ a, G.A a → H' a = H a
  lck : ∀ (t : Rt) (q : Sh × D), S.lkd t = some q → S'.lkd t = some q ∧ rootV G' σ' t = rootV G σ t ∧ G'.fp t = G.fp t ∧ ∀ a ∈ G.fp t, H' a = H a
  hid : ∀ n : Nat, S.hp[n]? = some Cell.hid → S'.hp[n]? = some Cell.hid
  tr : ∀ a o, H a = some o → ∃ u, H' a = some u
theorem Lp.rch (l : Lp D0 G S σ H G' S' σ' H') : Rch G S σ H G' S' σ' H' := ⟨l.mono, l.monoW, fun t q e => let ⟨a, b, _, _⟩ := l.lck t q e; ⟨a, b⟩⟩
theorem Lp.step (l : Lp D0 G S σ H G1 S1 σ1 H1) (b : Stp G1 S1 σ1 H1 G2 S2 σ2 H2) : Lp D0 G S σ H G2 S2 σ2 H2 := by
  refine ⟨?_, b.A.trans l.A, l.mono.trans b.mono, l.monoW.trans b.monoW, ⟨b.tm.1.trans l.tm.1, fun a m => ?_⟩, fun a m => ?_, fun t q e => ?_, fun n e => b.hid n (l.hid n e), fun c o e => let ⟨o1, e1⟩ := l.tr c o e; b.tr c o1 e1⟩
  · obtain ⟨x, e⟩ := l.io
    obtain ⟨y, e2⟩ := b.io
    exact ⟨x ++ y, by rw [e2, e, List.append_assoc]⟩
  · rw [b.tm.2 a (by rw [l.tm.1]; exact List.mem_cons_of_mem _ m), l.tm.2 a m]
  · rw [b.anon a (by rw [l.A]; exact m), l.anon a m]
  · obtain ⟨e1, e2, e3, e4⟩ := l.lck t q e
    obtain ⟨f1, f2, f3, f4⟩ := b.lck t q e1
    exact ⟨f1, f2.trans e2, f3.trans e3, fun c m => by rw [f4 c (by rw [e3]; exact m), e4 c m]⟩
theorem lk_ne (o : Ok T G S σ H) (n0 : H D0 = none) {t : Rt} {q : Sh × D} (e : S.lkd t = some q) : ∀ a ∈ G.fp t, a ≠ D0 := fun a m z => by
  obtain ⟨v, _, ot⟩ := o.own t q.1 q.2 (lkd_get e)
  obtain ⟨u, h, _⟩ := OT.tracked _ _ _ _ ot a m
  rw [z, n0] at h
  cases h
theorem tm_ne (o : Ok T G S σ H) (n0 : H D0 = none) : ∀ a, (a ∈ G.tm ∨ G.A a) → a ≠ D0 := fun a m z => by
  obtain ⟨u, h, _⟩ := o.tr a m
  rw [z, n0] at h
  cases h
theorem Lp.write (o : Ok T G S σ H) (n0 : H D0 = none) (l : Lp D0 G S σ H G1 S1 σ1 H1) (u : HO) : Lp D0 G S σ H G1 S1 σ1 (upd H1 D0 u) := by
  have m : D0 ∈ G1.tm := by rw [l.tm.1]; exact List.mem_cons_self
  refine ⟨l.io, l.A, l.mono.trans (Keeps.at (.inl ⟨none, m⟩)), l.monoW.trans (Keeps.at ⟨none, m⟩), ⟨l.tm.1, fun a h => by rw [upd_ne (tm_ne o n0 a (.inl h))]; exact l.tm.2 a h⟩, fun a h => by rw [upd_ne (tm_ne o n0 a (.inr h))]; exact l.anon a h, fun t q e => ?_, l.hid, fun a w e => ?_⟩
  · obtain ⟨e1, e2, e3, e4⟩ := l.lck t q e
    exact ⟨e1, e2, e3, fun c hc => by rw [upd_ne (lk_ne o n0 e c hc)]; exact e4 c hc⟩
  · by_cases ha : a = D0
    · subst ha; exact ⟨u, upd_same⟩
    · rw [upd_ne ha]; exact l.tr a w e
theorem Lp.init (o : Ok T G S σ H) (n0 : H D0 = none) : Ok T (G.plus [D0]) S σ (upd H D0 (.lst [])) ∧ Lp D0 G S σ H (G.plus [D0]) S σ (upd H D0 (.lst [])) := by
  obtain ⟨o2, k2, s2⟩ := o.laid (u := .lst []) n0 trivial
  refine ⟨o2, ⟨⟨[], by simp [Gh.plus]⟩, rfl, k2, keepsW rfl o2.dA k2 s2.anon, ⟨rfl, fun a m => s2.tm.2 a m⟩, s2.anon, fun t q e => ?_, fun _ e => e, s2.tr⟩⟩
  obtain ⟨e1, e2, e3, e4⟩ := s2.lck t q e
  exact ⟨e1, rfl, plus_fp t, e4⟩
theorem Lp.wipe (l : Lp D0 G S σ H G1 S1 σ1 H1) (fr : ∀ v ∈ vs, ∀ sh x, S.rho[v]? ≠ some (.own sh x) ∧ S.rho[v]? ≠ some (.lck sh x)) (io : G2.io = G1.io) (tm : G2.tm = G1.tm) (A : G2.A = G1.A) (m : ∀ a, MM G2 a → MM G1 a) (w : ∀ a, MW G2 a → MW G1 a) (f : ∀ t, (∀ v ∈ vs, t ≠ Rt.s v) → G2.fp t = G1.fp t) :
    Lp D0 G S σ H G2 { S1 with rho := wipeR S1.rho vs } (L2.wipe σ1 vs) H1 := by
  refine ⟨by rw [io]; exact l.io, A.trans l.A, fun a u e n => let ⟨h1, h2⟩ := l.mono a u e n; ⟨h1, fun z => h2 (m a z)⟩, fun a u e n => let ⟨h1, h2⟩ := l.monoW a u e n; ⟨h1, fun z => h2 (w a z)⟩, ⟨tm.trans l.tm.1, l.tm.2⟩, l.anon, fun t q e => ?_, l.hid, l.tr⟩
  obtain ⟨e1, e2, e3, e4⟩ := l.lck t q e
  have ht : ∀ v ∈ vs, t ≠ Rt.s v := fun v hv z => by
    subst z
    unfold Ste.lkd at e
    dsimp only at e
    split at e
    · rename_i sh x h; exact (fr v hv sh x).2 h
    · cases e
  refine ⟨by rw [lkd_wipe ht]; exact e1, ?_, (f t ht).trans e3, e4⟩
  rw [rootV_wipe ht, ← e2]
  cases t with
  | s i => rfl
  | c n => show (G2.io[n]?).map _ = (G1.io[n]?).map _; rw [io]
theorem Lp.back (l : Lp D0 G S σ H G1 S1 (L2.wipe σ vs) H1) (hl : S.rho.length = S1.rho.length) (fr : ∀ v ∈ vs, ∀ sh x, S.rho[v]? ≠ some (.own sh x) ∧ S.rho[v]? ≠ some (.lck sh x)) : Lp D0 G S σ H G1 { S1 with rho := backR S.rho S1.rho vs } σ H1 := by
  refine ⟨l.io, l.A, l.mono, l.monoW, l.tm, l.anon, fun t q e => ?_, l.hid, l.tr⟩
  obtain ⟨e1, e2, e3, e4⟩ := l.lck t q e
  have ht : ∀ v ∈ vs, t ≠ Rt.s v := fun v hv z => by
    subst z
    unfold Ste.lkd at e
    dsimp only at e
    split at e
    · rename_i sh x h; exact (fr v hv sh x).2 h
    · cases e
  exact ⟨by rw [lkd_back hl ht]; exact e1, by rw [rootV_wipe ht] at e2; exact e2, e3, e4⟩
theorem Lp.stp (l : Lp D0 G S σ H G1 S1 σ1 H1) (o : Ok T G1 S1 σ1 H1) : ∃ G2 : Gh, G1 = G2.plus [D0] ∧ Stp G S σ H G2 S1 σ1 H1 ∧ Keeps (MM G) H (MM (G2.plus [D0])) H1 := by
  have e : G1 = ({ G1 with tm := G.tm } : Gh).plus [D0] := by
    have h := l.tm.1
    cases G1
    unfold Gh.plus
    dsimp only at h ⊢
    rw [h]
    rfl
  refine ⟨{ G1 with tm := G.tm }, e, ?_, by rw [← e]; exact l.mono⟩
  have le : ∀ a, MM ({ G1 with tm := G.tm } : Gh) a → MM G1 a := fun a m => by rw [e]; exact plus_mm m
  have mono : Keeps (MM G) H (MM ({ G1 with tm := G.tm } : Gh)) H1 := fun a u ha hn => let ⟨h1, h2⟩ := l.mono a u ha hn; ⟨h1, fun z => h2 (le a z)⟩
  refine ⟨l.io, l.A, mono, keepsW l.A (fun t a m => ?_) mono l.anon, ⟨rfl, l.tm.2⟩, l.anon, fun t q h => ?_, l.hid, l.tr⟩
  · have : a ∈ G1.fpx t := by rw [e]; exact plus_fpx m
    exact o.dA t a this
  · obtain ⟨e1, e2, e3, e4⟩ := l.lck t q h
    refine ⟨e1, ?_, ?_, e4⟩
    · rw [← e2]; cases t <;> rfl
    · rw [← e3]; cases t <;> rfl
/-- a walk's root is free again -/
theorem Ok.unl (o : Ok T G S σ H) (S0 : Ste) (lk : Option Rt) : Ok T G (Ste.unl S0 S lk) σ H := by
  cases lk with
  | none => exact o
  | some t => exact o.unlock t _
theorem Stp.unl (st : Stp G S σ H G' S' σ' H') (lk : Option Rt) : Stp G S σ H G' (Ste.unl S S' lk) σ' H' := by
  cases lk with
  | none => exact st
  | some t =>
    refine ⟨st.io, st.A, st.mono, st.monoW, st.tm, st.anon, fun t' q e => ?_, fun n e => ((unlock_rho S' t _).2.2.2 n).mpr (st.hid n e), st.tr⟩
    obtain ⟨e1, e2, e3, e4⟩ := st.lck t' q e
    refine ⟨unlock_lkd e1 fun hb z => ?_, e2, e3, e4⟩
    subst z
    rw [lkd_free e] at hb
    cases hb
end
end EV
end
section
set_option Elab.async false
set_option linter.all false
set_option maxRecDepth 100000
set_option maxHeartbeats 4000000
set_option autoImplicit false
/-! GI: comprehensions, the rule -/
namespace EV
open PySem L2
def W0 : WX := fun _ _ _ => False
def lcTurn (P : Env) (vs : List Nat) (tg : Tg) (cs : Cs) (e : C) (w : Bool) : D → Ste → Res (Option D) := fun x s => match bindT w tg x s.rho with
  | some rho => (evTs P cs { s with rho := rho }).bind fun b s =>
      if b then (ev P e s).bind fun y s => (match y.dat with
        | some y => .ok (some y) { s with rho := wipeR s.rho vs }
        | _ => .stuck) else .ok none { s with rho := wipeR s.rho vs }
  | none => .stuck
theorem lc_ev {P : Env} {vs : List Nat} {tg : Tg} {it : It} {cs : Cs} {e : C} {S : Ste} : ev P (.lc vs tg it cs e) S = (evIt P it S).bind fun xs s1 => if frees vs s1.rho then
      match lcLoop (lcTurn P vs tg cs e xs.2.1) xs.1 [] { s1 with rho := wipeR s1.rho vs } with
      | .ok ys s2 => if ys.length ≤ lim then .ok (.d (.list ys)) (Ste.unl S { s2 with rho := backR s1.rho s2.rho vs } xs.2.2) else .stuck
      | _ => .stuck
    else .stuck := by
  rw [ev] <;> rfl
section
variable {X : Cx} {Z : Ct} {W : WX} {P : Env}
/-- what stands before turn i -/
structure LcI (T : Kt) (P : Env) (vs : List Nat) (tg : Tg) (cs : Cs) (e : C) (w : Bool) (items ys : List D) (Sf : Ste) (G1 : Gh) (S1 : Ste) (σ : St) (H1 : Hp) (D0 : Addr) (i : Nat) (H : Hp) : Prop where
  le : i ≤ items.length
  ex : ∃ (G : Gh) (S : Ste) (acc : List D) (av : List V), lcLoop (lcTurn P vs tg cs e w) (items.drop i) acc S = .ok ys Sf ∧ Ok T G S (wipe σ vs) H ∧ H D0 = some (.lst av) ∧ DnL T.K (MM G) H acc av ∧
    (∀ v ∈ vs, ∀ x, S.rho[v]? = some x → x = .non) ∧ Lp D0 G1 S1 σ H1 G S (wipe σ vs) H
theorem evTs_nil {S : Ste} : evTs P .nil S = .ok true S := by rw [evTs]
theorem evTs_one {c : C} : evTs P (.cons c .nil) = evB P c := by
  funext S
  rw [evTs]
  unfold evB
  cases ev P c S with
  | ok x s =>
    simp only [Res.bind]
    cases (s.res x).bind truth with
    | none => rfl
    | some b => cases b <;> simp only [evTs] <;> rfl
  | er c s => rfl
  | stuck => rfl
theorem sts_nil : PTs X [] (tT (kt X Z) W (evTs P .nil)) := ⟨fun pn s σ H Q I h => pts_nil.run pn s σ H Q I (by
  obtain ⟨G, S, o, p⟩ := h
  rw [evTs_nil] at p
  exact p G _ H o (Stp.refl _ _ _ _) rfl)⟩
theorem sts_one {c : Expr} {a : C} (h : PT X c (tT (kt X Z) W (evB P a))) : PTs X [c] (tT (kt X Z) W (evTs P (.cons a .nil))) := by
  rw [evTs_one]
  exact pts_one h
theorem wn_wipe {rho : List Slot} {vs : List Nat} : ∀ v ∈ vs, ∀ x, (wipeR rho vs)[v]? = some x → x = .non := fun v hv x hx => by
  rw [wipeR_ge, if_pos hv] at hx
  cases hs : rho[v]? with
  | none => rw [hs] at hx; cases hx
  | some u => rw [hs] at hx; cases hx; rfl
theorem lc_read {vs : List Nat} {tg : Tg} {it : It} {cs : Cs} {e : C} (sub : ∀ j ∈ slotsT tg, j ∈ vs) {σ : St} {H : Hp} {Q : VK} (h : tN (kt X Z) W (.o .z) (ev P (.lc vs tg it cs e)) σ H Q) :
    tLc (tI (kt X Z) W (evIt P it)) (tGx (kt X Z) tg) (tT (kt X Z) W0 (evTs P cs)) (tE (kt X Z) W0 (ev P e)) vs σ H Q := by
  obtain ⟨G, S, o, p⟩ := h
  rw [lc_ev] at p
  refine ⟨G, S, o, ?_⟩
  cases eit : evIt P it S with
  | er c S' => rw [eit] at p; exact p
  | stuck => rw [eit] at p; exact p
  | ok xs S1 =>
    obtain ⟨items, w, lk⟩ := xs
    rw [eit] at p
    intro G1 J H1 o1 st1 src D0 n0
    have src : Src (kt X Z) J w items G1 S1 σ H1 := src
    simp only [Res.bind] at p
    split at p
    case isFalse => exact p.elim
    rename_i hfr
    have fr := frees_at hfr
    cases eL : lcLoop (lcTurn P vs tg cs e w) items [] { S1 with rho := wipeR S1.rho vs } with
    | er c s => rw [eL] at p; exact p.elim
    | stuck => rw [eL] at p; exact p.elim
    | ok ys Sf =>
      rw [eL] at p
      dsimp only at p
      split at p
      case isFalse => exact p.elim
      rename_i hys
      refine ⟨fun i m H => m = items.length - i ∧ LcI (kt X Z) P vs tg cs e w items ys Sf G1 S1 σ H1 D0 i H, ⟨items.length, by simp, Nat.zero_le _, ?_⟩, ?_⟩
      · obtain ⟨o2, l2⟩ := Lp.init o1 n0
        obtain ⟨G3, o3, f1, f2, f3, m3, w3, f4⟩ := Ok.wipedK o2 vs
        have l3 := Lp.wipe (vs := vs) l2 fr f1 f2 f3 m3 w3 f4
        exact ⟨G3, _, [], [], by rw [List.drop_zero]; exact eL, o3, upd_same, .nil, wn_wipe, l3⟩
      · rintro i m H2 ⟨rfl, hle, G2, S2, acc, av, eq, o2, hD, la, wn, lp⟩
        have hl : S1.rho.length = S2.rho.length := by rw [o1.len, o2.len, wipe_length]
        have lpB := Lp.back lp hl fr
        have oB := Ok.back o1 o2 fr wn lp.mono lp.monoW lp.io
        have mD : D0 ∈ G2.tm := by rw [lp.tm.1]; exact List.mem_cons_self
        obtain ⟨sstop, sgo⟩ := src G2 _ σ H2 oB lpB.rch i
        by_cases hlt : i < items.length
        · refine .inr ?_
          have eitm : items[i]? = some items[i] := List.getElem?_eq_getElem hlt
          obtain ⟨jgo, jy⟩ := sgo _ eitm
          refine ⟨jgo, fun H' => LcI (kt X Z) P vs tg cs e w items ys Sf G1 S1 σ H1 D0 (i + 1) H', fun H' hN => ⟨items.length - (i + 1), by omega, rfl, hN⟩, fun v H3 yld => ?_⟩
          obtain ⟨same, dv⟩ := jy v H3 yld
          rw [List.drop_eq_getElem_cons hlt] at eq
          unfold lcLoop at eq
          have o3 := o2.same same
          have hD3 : H3 D0 = some (.lst av) := same _ _ hD
          have st3 : Stp G2 S2 (wipe σ vs) H2 G2 S2 (wipe σ vs) H3 := Stp.same o2 same
          -- the turn
          cases eb : bindT w tg items[i] S2.rho with
          | none =>
            simp only [lcTurn, eb] at eq
            cases eq
          | some rho =>
            refine ⟨w, G2, S2, items[i], rho, o3, dv, eb, fun G4 σ2 o4 st4 ag ln less lessW => ⟨?_, ?_⟩⟩
            · rw [← wipe_wipe (a := σ)]
              exact wipe_eq ln fun j hj => ag j fun z => hj (sub j z)
            have hw : wipe σ2 vs = wipe σ vs := by
              rw [← wipe_wipe (a := σ)]
              exact wipe_eq ln fun j hj => ag j fun z => hj (sub j z)
            have lp4 := (lp.step st3).step st4
            -- behind it
            have fin : ∀ (G5 : Gh) (S5 : Ste) (H5 : Hp) (acc' : List D) (av' : List V), Lp D0 G1 S1 σ H1 G5 S5 σ2 H5 → Ok (kt X Z) G5 S5 σ2 H5 →
                lcLoop (lcTurn P vs tg cs e w) (items.drop (i + 1)) acc' { S5 with rho := wipeR S5.rho vs } = .ok ys Sf → H5 D0 = some (.lst av') → DnL X.K (MM G5) H5 acc' av' → LcI (kt X Z) P vs tg cs e w items ys Sf G1 S1 σ H1 D0 (i + 1) H5 := fun G5 S5 H5 acc' av' lp5 o5 eq5 hD5 la5 => by
              obtain ⟨G6, o6, f1, f2, f3, m6, w6, f4⟩ := Ok.wipedK o5 vs
              have l6 := Lp.wipe (vs := vs) lp5 fr f1 f2 f3 m6 w6 f4
              rw [hw] at o6 l6
              exact ⟨hlt, G6, _, acc', av', eq5, o6, hD5, DnL.anti m6 _ _ la5, wn_wipe, l6⟩
            refine ⟨G4, { S2 with rho := rho }, o4, ?_⟩
            simp only [lcTurn, eb] at eq
            have la4 : DnL X.K (MM G4) H3 acc av := DnL.anti less _ _ (DnL.mono st3.mono _ _ la)
            have mD4 : D0 ∈ G4.tm := by rw [st4.tm.1]; exact mD
            cases et : evTs P cs { S2 with rho := rho } with
            | er c s => rw [et] at eq; cases eq
            | stuck => rw [et] at eq; cases eq
            | ok b S4 =>
              rw [et] at eq
              intro G5 b' H4 o5 st5 hb
              have hb : b = b' := hb
              subst hb
              simp only [Res.bind] at eq
              have hD4 : H4 D0 = some (.lst av) := by rw [st5.tm.2 D0 mD4]; exact hD3
              have la5 : DnL X.K (MM G5) H4 acc av := DnL.mono st5.mono _ _ la4
              have mD5 : D0 ∈ G5.tm := by rw [st5.tm.1]; exact mD4
              cases b with
              | false =>
                simp only [Bool.false_eq_true, if_false] at eq ⊢
                exact fin G5 S4 H4 acc av (lp4.step st5) o5 eq hD4 la5
              | true =>
                simp only [if_true] at eq ⊢
                refine ⟨G5, S4, o5, ?_⟩
                cases ee : ev P e S4 with
                | er c s => rw [ee] at eq; cases eq
                | stuck => rw [ee] at eq; cases eq
                | ok y S5 =>
                  rw [ee] at eq
                  intro G6 v5 H5 o6 st6 r6
                  have r6 : VD (kt X Z) G6 S5 σ2 H5 y v5 := r6
                  cases ed : y.dat with
                  | none => simp only [ed] at eq; cases eq
                  | some yd =>
                    simp only [ed] at eq
                    have eq : lcLoop (lcTurn P vs tg cs e w) (items.drop (i + 1)) (acc ++ [yd]) { S5 with rho := wipeR S5.rho vs } = .ok ys Sf := eq
                    have hD5 : H5 D0 = some (.lst av) := by rw [st6.tm.2 D0 mD5]; exact hD4
                    have la6 : DnL X.K (MM G6) H5 acc av := DnL.mono st6.mono _ _ la5
                    have r7 : Dn X.K (MM G6) H5 true yd v5 := dat_dn o6 r6 ed
                    have mD6 : D0 ∈ G6.tm := by rw [st6.tm.1]; exact mD5
                    have kw : Keeps (MM G6) H5 (MM G6) (upd H5 D0 (.lst (av ++ [v5]))) := Keeps.at (.inl ⟨none, mD6⟩)
                    have few := lcLoop_len eq
                    rw [List.length_append] at few
                    simp only [List.length_cons, List.length_nil] at few
                    refine ⟨av, hD5, ?_, fin G6 S5 _ (acc ++ [yd]) (av ++ [v5]) (Lp.write o1 n0 ((lp4.step st5).step st6) _) (o6.wrT mD6 trivial) eq upd_same (DnL.mono kw _ _ (la6.append (.cons r7 .nil)))⟩
                    have := la6.length
                    have h2 : sizeLine ≥ lim := le_size (Nat.le_refl _)
                    omega
        · refine .inl ⟨sstop (by show items.length = i; omega), ?_⟩
          have hi : i = items.length := by omega
          subst hi
          rw [List.drop_length] at eq
          unfold lcLoop at eq
          injection eq with q1 q2
          subst q1 q2
          obtain ⟨G3, rfl, s3, k3⟩ := Lp.stp lpB oB
          have st := st1.trans s3
          have oU := oB.unl S lk
          refine p G3 [D0] (.ref D0) H2 oU (st.unl lk) (st1.mono.trans k3) ?_
          exact .lst hD (OTs.ofZ la)
theorem dat_lc {vs : List Nat} {tg : Tg} {it : It} {cs : Cs} {e : C} : ∀ S x S', ev P (.lc vs tg it cs e) S = .ok x S' → ∃ d, x = .d d ∧ isC d = true ∧ d ≠ hole := fun S x S' h => by
  rw [lc_ev] at h
  cases e1 : evIt P it S with
  | er c s => rw [e1] at h; cases h
  | stuck => rw [e1] at h; cases h
  | ok xs s1 =>
    rw [e1] at h
    simp only [Res.bind] at h
    split at h
    · split at h
      · split at h
        · cases h; exact ⟨_, rfl, rfl, fun z => nomatch z⟩
        · cases h
      · cases h
    · cases h
end
end EV
end
section
set_option Elab.async false
set_option linter.all false
set_option maxRecDepth 100000
set_option maxHeartbeats 4000000
set_option autoImplicit false
/-! GJ: for loops -/
namespace EV
open PySem L2
section
variable {X : Cx} {Z : Ct} {W : WX} {P : Env} {pos : Pos} {nw : Option Sh}
def forTurn (P : Env) (tg : Tg) (b : CSs) (w : Bool) : D → Ste → Out := fun x s => match bindT w tg x s.rho with
  | some rho => exs P b { s with rho := rho }
  | none => .stuck
def Out.after (S0 : Ste) (lk : Option Rt) : Out → Out
  | .nx s => .nx (Ste.unl S0 s lk)
  | o => o
theorem for_ev {tg : Tg} {it : It} {b : CSs} {S : Ste} : exS P (.for tg it b) S = (evIt P it S).out fun xs s => (forLoop (forTurn P tg b xs.2.1) xs.1 s).after S xs.2.2 := by
  rw [exS]
  cases evIt P it S with
  | ok xs s =>
    show (match forLoop (forTurn P tg b xs.2.1) xs.1 s with | .nx s => .nx (Ste.unl S s xs.2.2) | o => o) = (forLoop (forTurn P tg b xs.2.1) xs.1 s).after S xs.2.2
    cases forLoop (forTurn P tg b xs.2.1) xs.1 s <;> rfl
  | er c s => rfl
  | stuck => rfl
theorem r_for {tg : Tg} {it : It} {b : CSs} {D : Ends} {σ : St} {H : Hp} (h : tS (kt X Z) W nw (exS P (.for tg it b)) D σ H) : tFor (tI (kt X Z) W (evIt P it)) (tGx (kt X Z) tg) (tS (kt X Z) W nw (exs P b)) D σ H := by
  obtain ⟨G, S, o, p⟩ := h
  rw [for_ev] at p
  refine ⟨G, S, o, ?_⟩
  cases eit : evIt P it S with
  | er c S' => rw [eit] at p; exact fun G' H' o s => p G' σ H' o s
  | stuck => rw [eit] at p; exact p
  | ok xs S1 =>
    obtain ⟨items, w, lk⟩ := xs
    rw [eit] at p
    intro G1 J H1 o1 st1 src
    have p : PostS (kt X Z) W nw G S σ H D ((forLoop (forTurn P tg b w) items S1).after S lk) := p
    have src : Src (kt X Z) J w items G1 S1 σ H1 := src
    obtain ⟨O, hO⟩ : ∃ O, forLoop (forTurn P tg b w) items S1 = O := ⟨_, rfl⟩
    rw [hO] at p
    -- behind the last turn, or a break
    have done : ∀ (S2 : Ste) (G2 : Gh) (σ2 : St) (H2 : Hp), O = .nx S2 → Ok (kt X Z) G2 S2 σ2 H2 → Stp G1 S1 σ H1 G2 S2 σ2 H2 → D.nx σ2 H2 := fun S2 G2 σ2 H2 e o2 st2 => by
      rw [e] at p
      exact p G2 σ2 H2 (o2.unl S lk) ((st1.trans st2).unl lk)
    refine ⟨fun i m σ2 H2 => m = items.length - i ∧ i ≤ items.length ∧ ∃ G2 S2, forLoop (forTurn P tg b w) (items.drop i) S2 = O ∧ Ok (kt X Z) G2 S2 σ2 H2 ∧ Stp G1 S1 σ H1 G2 S2 σ2 H2,
      ⟨items.length, by simp, Nat.zero_le _, G1, S1, by rw [List.drop_zero]; exact hO, o1, Stp.refl _ _ _ _⟩, ?_⟩
    rintro i m σ2 H2 ⟨rfl, hle, G2, S2, eq, o2, st2⟩
    obtain ⟨sstop, sgo⟩ := src G2 S2 σ2 H2 o2 st2.rch i
    by_cases hlt : i < items.length
    · refine .inr ?_
      obtain ⟨jgo, jy⟩ := sgo _ (List.getElem?_eq_getElem hlt)
      refine ⟨jgo, fun σ' H' => i + 1 ≤ items.length ∧ ∃ G2 S2, forLoop (forTurn P tg b w) (items.drop (i + 1)) S2 = O ∧ Ok (kt X Z) G2 S2 σ' H' ∧ Stp G1 S1 σ H1 G2 S2 σ' H',
        fun σ' H' hN => ⟨items.length - (i + 1), by omega, rfl, hN⟩, fun v H3 yld => ?_⟩
      obtain ⟨same, dv⟩ := jy v H3 yld
      have o3 := o2.same same
      have st3 := st2.trans (Stp.same o2 same)
      rw [List.drop_eq_getElem_cons hlt] at eq
      unfold forLoop at eq
      cases eb : bindT w tg items[i] S2.rho with
      | none =>
        have e : forTurn P tg b w items[i] S2 = .stuck := by simp only [forTurn, eb]
        rw [e] at eq
        simp only at eq
        rw [← eq] at p
        exact p.elim
      | some rho =>
        have e : forTurn P tg b w items[i] S2 = exs P b { S2 with rho := rho } := by simp only [forTurn, eb]
        rw [e] at eq
        refine ⟨w, G2, S2, items[i], rho, o3, dv, eb, fun G4 σ3 o4 st4 ag ln less lessW => ⟨G4, { S2 with rho := rho }, o4, ?_⟩⟩
        have st5 := st3.trans st4
        cases ex : exs P b { S2 with rho := rho } with
        | nx S' =>
          rw [ex] at eq
          exact fun G' σ' H' o' s => ⟨hlt, G', S', eq, o', st5.trans s⟩
        | ct S' =>
          rw [ex] at eq
          exact fun G' σ' H' o' s => ⟨hlt, G', S', eq, o', st5.trans s⟩
        | bk S' =>
          rw [ex] at eq
          exact fun G' σ' H' o' s => done S' G' σ' H' eq.symm o' (st5.trans s)
        | rt x S' =>
          rw [ex] at eq
          simp only at eq
          rw [← eq] at p
          have p : PostS (kt X Z) W nw G S σ H D (.rt x S') := p
          exact PostS.shift p (st1.trans st5)
        | er c S' =>
          rw [ex] at eq
          simp only at eq
          rw [← eq] at p
          exact fun G' σ' H' o' s => p G' σ' H' o' (st1.trans (st5.trans s))
        | stuck =>
          rw [ex] at eq
          simp only at eq
          rw [← eq] at p
          exact p.elim
    · have hi : i = items.length := by omega
      subst hi
      rw [List.drop_length] at eq
      unfold forLoop at eq
      exact .inl ⟨sstop rfl, done S2 G2 σ2 H2 eq.symm o2 st2⟩
end
end EV
end
section
set_option Elab.async false
set_option linter.all false
set_option maxRecDepth 100000
set_option maxHeartbeats 4000000
set_option autoImplicit false
/-! GU: more operations: sorted, len(set(..)), tuple(..), xs[::-1], written dicts, extend -/
namespace EV
open PySem L2
section
variable {X : Cx}
/-! ### sorted -/
def RD (K : PySem.W.Frag) (M : Addr → Prop) (H : Hp) (u : Value) (d : D) : Prop := ∃ v, RelV v u ∧ Dn K M H true d v
theorem each_of {K : PySem.W.Frag} {M : Addr → Prop} {H : Hp} : ∀ {ds : List D} {vs : List V} {us : List Value}, DnL K M H ds vs → Vals vs us → PySem.W.EachIs (RD K M H) us ds
  | _, _, _, .nil, .nil => .nil
  | _, _, _, .cons a r, .cons b t => .cons ⟨_, b, a⟩ (each_of r t)
theorem each_to {K : PySem.W.Frag} {M : Addr → Prop} {H : Hp} : ∀ {us : List Value} {ds : List D}, PySem.W.EachIs (RD K M H) us ds → ∃ vs, DnL K M H ds vs ∧ Vals vs us
  | _, _, .nil => ⟨[], .nil, .nil⟩
  | _, _, .cons ⟨v, b, a⟩ t => by
    obtain ⟨vs, h1, h2⟩ := each_to t
    exact ⟨v :: vs, .cons a h1, .cons b h2⟩
theorem each_reads {pins : List (Addr × Obj)} {σ : St} {H : Hp} {s : Shared} {M : Addr → Prop} (I : Inv X pins σ H s) : ∀ {ds : List D} {vs : List V} {us : List Value}, DnL X.K M H ds vs → Vals vs us → ds.all plainD = true → PySem.W.EachIs (fun v d => ∃ as, Reads s.heap v (id d) as) us ds
  | _, _, _, .nil, .nil, _ => .nil
  | _, _, _, .cons a r, .cons b t, p => by
    rw [List.all_cons, Bool.and_eq_true] at p
    have p1 := p.1
    simp only [plainD, Bool.and_eq_true] at p1
    exact .cons (Dn.reads I _ _ _ _ a b p1.1) (each_reads I r t p.2)
theorem o_sorted (hc : X.calm = true) (hu : X.A.units + 200 < cLine) : CallP X (.builtin "sorted") true fSorted := by
  intro pins s σ H xs us Q I r h
  obtain ⟨M, ds, d, tr, hd, hg, q⟩ := h
  unfold fSorted at hg
  split at hg
  · rename_i ys
    split at hg
    · rename_i hok
      cases hg
      cases hd with
      | cons ha r2 =>
        cases r2
        obtain ⟨u1, rfl, r1⟩ := vals1 r
        obtain ⟨p, vs, rfl, hs, l⟩ := ha.sql
        cases r1
        simp only [sortOk, Bool.and_eq_true, Bool.or_eq_true, decide_eq_true_eq] at hok
        obtain ⟨⟨⟨hal, hk⟩, hp⟩, hl⟩ := hok
        obtain ⟨its, rv, pl, hz⟩ := I.list hs
        have alikes : PySem.W.AllAlike (ys.map id) := fun a ma b mb => by
          rw [List.map_id] at ma mb
          exact List.all_eq_true.mp (List.all_eq_true.mp hal a ma) b mb
        have sortable : PySem.W.Sortable (ys.map id) := by
          rw [List.map_id]
          rcases hk with hk | hk
          · refine .inl fun a ma => ?_
            have h := List.all_eq_true.mp hk a ma
            cases a with
            | tuple zs =>
              cases zs with
              | nil => cases h
              | cons z zs => exact ⟨z, zs, rfl⟩
            | _ => cases h
          · refine .inr fun a ma => ?_
            have h := List.all_eq_true.mp hk a ma
            refine ⟨fun z => ?_, fun zs z => ?_⟩
            · rw [z] at h; cases h
            · rw [z] at h; cases h
        refine PySem.W.sorted_data (R := RD X.K M H) (enc := id) pl.isList (each_of l rv) (each_reads I l rv hp) alikes sortable (Nat.le_trans hl (by decide)) (fun b hb => ?_) fun out ho eo => ?_
        · have h := List.all_eq_true.mp hp b hb
          simp only [plainD, Bool.and_eq_true, decide_eq_true_eq] at h
          show X.A.units + 2 + b.depth < cLine
          omega
        · obtain ⟨ws, dl, rw'⟩ := each_to eo
          obtain ⟨ep, he⟩ := PyProof.Rows.sortedAll_at s.heap its out.toArray
          have free : H (s.heap.objs.size + 1) = none := I.hok.fresh (Nat.le_succ _)
          have len : ws.length ≤ sizeLine := by
            rw [rw'.length, ho]
            exact Nat.le_trans hl (by decide)
          exact ⟨.ref _, upd H (s.heap.objs.size + 1) (.lst ws), I.laid (t' := s.toks) (fun _ _ => PyProof.Rows.sortedAll_old) (Nat.le_succ _) ⟨len, out, ep, rw', he⟩, rfl,
            q _ _ (Same.upd free) (newL tr free dl) fun _ a e => by cases e; exact ⟨fun _ => free, fun zs e => by cases e; exact ⟨_, rfl, dl⟩⟩⟩
    · cases hg
  · cases hg
/-! ### tuple(list) -/
theorem o_ofTuple : CallP X (.type "tuple") false fOfTuple := by
  intro pins s σ H xs us Q I r h
  obtain ⟨M, ds, d, tr, hd, hg, q⟩ := h
  unfold fOfTuple at hg
  split at hg
  · cases hg
    cases hd with
    | cons ha r2 =>
      cases r2
      obtain ⟨p, vs, rfl, h1, l1⟩ := ha.sql
      exact call_tuple_of pins s σ H _ us Q I r ⟨_, _, rfl, .inl ⟨h1, fun l hl => q _ _ (Same.upd hl) (newT tr hl l1) fun z => nomatch z⟩⟩
  · cases hg
/-! ### len(set(xs)) -/
theorem strs_val {K : PySem.W.Frag} {M : Addr → Prop} {H : Hp} : ∀ {ds : List D} {xs : List Str} {vs : List V} {us : List Value}, strs? ds = some xs → DnL K M H ds vs → Vals vs us → PyProof.Rows.StrsAre us xs
  | [], _, _, _, e, .nil, .nil => by cases e; exact .nil
  | d :: ds, xs, _, _, e, .cons a r, .cons b t => by
    cases d with
    | str x =>
      unfold strs? at e
      cases e2 : strs? ds with
      | none => rw [e2] at e; cases e
      | some ys =>
        rw [e2] at e
        cases e
        cases a
        obtain ⟨k, rfl⟩ := b
        exact .cons x k (strs_val e2 r t)
    | _ => cases e
end
section
open PySem.Spec PyProof.Rows
variable {X : Cx} {Z : Ct} {W : WX} {P : Env} {pos : Pos}
theorem bt_set : bootBuiltins "set" = some (.type "set") := by decide +kernel
theorem se_setlen {p p2 q : Pos} {e : Expr} {a : C} (hc : X.calm = true) (hg : Gl X "len") (hm : X.mg "len" = none) (hg2 : Gl X "set") (hm2 : X.mg "set" = none) (ha : PE X e (tE (kt X Z) W (ev P a))) (na : starEach [e] X.env = (false, eval e X.env) :: starEach [] X.env) :
    PE X (.Call (.Name "len" p) [.Call (.Name "set" p2) [e] [] q] [] pos) (tE (kt X Z) W (ev P (.op Op.setlen (.cons a .nil)))) := by
  refine ⟨fun pins s σ H Q I h => ?_⟩
  rw [op_ev] at h
  have h2 := one_read (k := fun v H1 => rP X.K true fSetlen [v] H1 Q) h fun G S x v H1 o1 vs p => rP_of (fr := true) (g := fSetlen) o1 vs p
  refine Call_ (ld_blt I hg hm PySem.boot_len (PyProof.Rows.callWith_builtin1 (PyProof.Rows.args_cons ?_ rfl) rfl rfl))
  refine Call_ (ld_blt I hg2 hm2 bt_set (PyProof.Rows.callWith_type1 (PyProof.Rows.args_cons (thn (ha.run pins s σ H _ I h2) fun u s1 ⟨v, H1, I1, r1, q1⟩ => PyProof.Rows.args_nil ?_) na) na rfl))
  obtain ⟨M, ds, d, tr, hd, hf, q1⟩ := q1
  unfold fSetlen at hf
  split at hf
  · rename_i ys
    cases es : strs? ys with
    | none => rw [es] at hf; cases hf
    | some xs =>
      rw [es] at hf
      dsimp only at hf
      split at hf
      · rename_i few
        cases hf
        cases hd with
        | cons hy r2 =>
          cases r2
          obtain ⟨b, vs, rfl, hs, l⟩ := hy.sql
          cases r1
          obtain ⟨its, rv, pl, hz⟩ := I1.list hs
          refine EvSet.of_list (I1.ok.hd hc) pl.isList (by simpa using strs_val es l rv) (by unfold scanBound; omega) fun h' tk hS keep => PyProof.Rows.args_nil ?_
          have I2 : Inv X pins σ H1 { s1 with heap := h', toks := tk } := I1.kept fun b o e => keep b o (Heap.lt_size e) e
          obtain ⟨o, es', ep, t, ho, hex, hd', _, _, _, hf', hn⟩ := hS
          have c1 := EvSet.cnt_le xs xs.length
          refine call_len_set ho hex hd' hf' (by rw [hn]; omega) ⟨.int (cntS xs xs.length), H1, I2.tok _, ⟨_, by rw [hn]⟩, q1 _ _ (Same.refl _) (.int _) fun _ a e => nomatch e⟩
      · cases hf
  · cases hf
end
section
variable {X : Cx} {Z : Ct} {W : WX} {P : Env} {pos : Pos}
theorem lk_sorted : ∀ ds d, fSorted ds = some d → isC d = true → ∃ ys, d = .list ys := fun ds d h c => by
  unfold fSorted at h
  split at h
  · split at h
    · cases h; exact ⟨_, rfl⟩
    · cases h
  · cases h
/-! ### xs[::-1] -/
theorem lk_rev : ∀ ds d, fRev ds = some d → isC d = true → ∃ ys, d = .list ys := fun ds d h c => by
  unfold fRev at h
  split at h
  · split at h
    · cases h; exact ⟨_, rfl⟩
    · cases h
  · cases h
theorem rev_fin {Q : VK} {v : V} {H : Hp} (h : rP X.K true fRev [v] H Q) : ∃ l xs, v = .ref l ∧ SqL X.K H l xs ∧ ∀ q, H q = none → Q (.ref q) (upd H q (.lst xs.reverse)) := by
  obtain ⟨M, ds, d, tr, hd, hg, q⟩ := h
  unfold fRev at hg
  split at hg
  · rename_i ys
    split at hg
    · rename_i hl
      cases hg
      cases hd with
      | cons ha r2 =>
        cases r2
        obtain ⟨a, vs, rfl, hs, l⟩ := ha.sql
        exact ⟨a, vs, rfl, hs, fun p hp => q _ _ (Same.upd hp) (newL tr hp l.reverse) fun _ b e => by cases e; exact ⟨fun _ => hp, fun zs e => by cases e; exact ⟨_, rfl, l.reverse⟩⟩⟩
    · cases hg
  · cases hg
theorem se_rev {e : Expr} {a : C} {k : Nat} {p1 p2 p3 : Pos} (ha : PE X e (tE (kt X Z) W (ev P a))) : PE X (.Subscript e (.Slice none none (some (.UnaryOp .USub (.Constant (.int 1) k p1) p2)) p3) pos) (tE (kt X Z) W (ev P (.op Op.rev (.cons a .nil)))) := (pe_revL ha).imp fun σ H Q h => by
  rw [op_ev] at h
  exact one_read h fun G S x v H1 o1 vs p => rev_fin (rP_of (fr := true) (g := fRev) o1 vs p)
/-- the key's and the value's text -/
inductive AtE : Expr → D → Prop
  | non {j pos} : AtE (.Constant .none j pos) .none
  | bl {b j pos} : AtE (.Constant (.bool b) j pos) (.bool b)
  | int {i j pos} : AtE (.Constant (.int i) j pos) (.int i)
  | str {x j pos} : AtE (.Constant (.str x) j pos) (.str x)
theorem AtE.pe {e : Expr} {d : D} (h : AtE e d) : ∃ v, atomV d = some v ∧ PE X e (tC v) := by
  cases h with
  | non => exact ⟨_, rfl, pe_non⟩
  | bl => exact ⟨_, rfl, pe_bl⟩
  | int => exact ⟨_, rfl, pe_int⟩
  | str => exact ⟨_, rfl, pe_str⟩
inductive AtKV : List (Option Expr) → List Expr → List (Key × D) → Prop
  | nil : AtKV [] [] []
  | cons {k : Expr} {v : Expr} {ks : List (Option Expr)} {vs : List Expr} {key : Key} {d : D} {r : List (Key × D)} : AtE k (keyD key) → AtE v d → AtKV ks vs r → AtKV (some k :: ks) (v :: vs) ((key, d) :: r)
theorem AtKV.pps {ks : List (Option Expr)} {vs : List Expr} {r : List (Key × D)} (h : AtKV ks vs r) : ∃ (es : List (Key × V)) (trs : List (TE × TE)), es.map (·.1) = r.map (·.1) ∧ (∀ (K : PySem.W.Frag) M H, DnL K M H (r.map (·.2)) (es.map (·.2))) ∧ PPs X pos ks vs trs ∧
    (∀ (σ : St) (H : Hp) (Q : List (V × V) → Hp → Prop), Q (es.map fun p => (kV p.1, p.2)) H → tPairs trs σ H Q) ∧ ks.all (·.isSome) = true ∧ ks.length = vs.length ∧ ks.length = r.length := by
  induction h with
  | nil => exact ⟨[], [], rfl, fun _ _ _ => .nil, pps_nil, fun _ _ _ q => q, rfl, rfl, rfl⟩
  | @cons k v ks vs key d r hk hv _ ih =>
    obtain ⟨es, trs, e1, e2, e3, e4, e5, e6, e7⟩ := ih
    obtain ⟨vk, a1, p1⟩ := hk.pe (X := X)
    obtain ⟨vv, a2, p2⟩ := hv.pe (X := X)
    have ek : vk = kV key := by
      cases key <;> (simp only [keyD, atomV] at a1; cases a1; rfl)
    subst ek
    exact ⟨(key, vv) :: es, (tC (kV key), tC vv) :: trs, by simp [e1], fun K M H => .cons (atom_dn a2 M H true) (e2 K M H), pps_cons p1 p2 e3, fun σ H Q q => e4 σ H _ q, by simp [e5], by simp [e6], by simp [e7]⟩
theorem mergeK_nodup : ∀ (more kvs : List (Key × V)), ((kvs ++ more).map (·.1)).Nodup → mergeK kvs more = kvs ++ more
  | [], kvs, _ => by simp [mergeK]
  | p :: r, kvs, h => by
    have hn : valV kvs p.1 = none := by
      cases q : valV kvs p.1 with
      | none => rfl
      | some w =>
        have m := valV_in q
        rw [List.map_append, List.nodup_append] at h
        exact absurd rfl (h.2.2 _ m p.1 (by simp))
    show mergeK (putK kvs p.1 p.2) r = _
    rw [putK_new p.2 hn, mergeK_nodup r (kvs ++ [(p.1, p.2)]) (by simpa using h)]
    simp
theorem ot_atom {T : Kt} {io : List Addr} {M : Addr → Prop} {H : Hp} {s : Sh} (hs : s ≠ .i) {x : D} {v : V} (e : atomV x = some v) : OT T io M H s x v [] := by
  cases s with
  | z => exact .z (atom_dn e M H true)
  | r => exact .rz (Dn.noRf (atom_dn (K := T.K) e M H true)) (atom_dn e M H true)
  | o s => exact .at e
  | i => exact (hs rfl).elim
theorem AtKV.ats {ks : List (Option Expr)} {vs : List Expr} {r : List (Key × D)} (h : AtKV ks vs r) : ∀ {es : List V}, (∀ (K : PySem.W.Frag) M H, DnL K M H (r.map (·.2)) es) → ∀ {T : Kt} {io : List Addr} {M : Addr → Prop} {H : Hp} {s : Sh}, s ≠ .i → OTs T io M H (List.replicate r.length s) (r.map (·.2)) es [] := by
  induction h with
  | nil =>
    intro es hd T io M H s hs
    cases hd T.K M H with
    | nil => exact .nil
  | @cons k v ks vs key d r hk hv _ ih =>
    intro es hd T io M H s hs
    cases es with
    | nil => cases hd T.K M H
    | cons u es =>
      have h1 : ∀ (K : PySem.W.Frag) M H, Dn K M H true d u ∧ DnL K M H (r.map (·.2)) es := fun K M H => by
        cases hd K M H with
        | cons a r => exact ⟨a, r⟩
      have ea : atomV d = some u := by
        cases hv with
        | non => have := (h1 T.K M H).1; cases this; rfl
        | bl => have := (h1 T.K M H).1; cases this; rfl
        | int => have := (h1 T.K M H).1; cases this; rfl
        | str => have := (h1 T.K M H).1; cases this; rfl
      exact OTs.cons (F := []) (F' := []) (ot_atom hs ea) (ih (fun K M H => (h1 K M H).2) hs)
theorem sn_dct {s : Sh} (hs : s ≠ .i) {ks : List (Option Expr)} {vs : List Expr} {r : List (Key × D)} (h : AtKV ks vs r) (nd : (r.map (·.1)).Nodup) (few : r.length ≤ 15) : PE X (.Dict ks vs pos) (tN (kt X Z) W (.o s) (ev P (.dct r))) := by
  obtain ⟨es, trs, e1, e2, e3, e4, e5, e6, e7⟩ := h.pps (X := X) (pos := pos)
  have fin : ∀ (σ : L2.St) (H : Hp) (Q : VK), tN (kt X Z) W (.o s) (ev P (.dct r)) σ H Q → ∀ p, H p = none → Q (.ref p) (upd H p (.dK es)) := fun σ H Q hh p hp => by
    obtain ⟨G, S, o, q⟩ := hh
    rw [ev] at q
    refine PostN.laid o q trivial hp (.dct (vs := es.map (·.2)) (.inl ⟨es, upd_same, ?_, rfl⟩) ?_)
    · rw [List.map_map]
      show r.map (fun p => keyD p.1) = _
      have : r.map (fun p => keyD p.1) = (r.map (·.1)).map keyD := by rw [List.map_map]; rfl
      rw [this, ← e1, List.map_map]
      rfl
    · rw [List.map_map, List.length_map]
      exact h.ats e2 hs
  by_cases h0 : ks = []
  · subst h0
    have : r = [] := by
      cases r with
      | nil => rfl
      | cons a r => simp at e7
    subst this
    have : vs = [] := by
      cases vs with
      | nil => rfl
      | cons a r => simp at e6
    subst this
    have : es = [] := by
      cases es with
      | nil => rfl
      | cons a r => simp at e1
    subst this
    exact pe_dnewK.imp fun σ H Q h p hp => fin σ H Q h p hp
  · refine (pe_disp e3 e5 e6 h0 (by rw [e7]; exact few)).imp fun σ H Q h p hp => ?_
    refine e4 σ _ _ ⟨upd_same, es, rfl, by rw [← List.length_map (f := (·.1)), e1, List.length_map]; exact few, ?_⟩
    rw [upd_upd, mergeK_nodup es [] (by simpa [e1] using nd)]
    exact fin σ H Q h p hp
theorem keyD_x (kvs : List (Key × D)) : isX (kvs.map fun p => (keyD p.1, p.2)) = false := by
  cases kvs with
  | nil => rfl
  | cons p r => obtain ⟨k, d⟩ := p; cases k <;> rfl
theorem dat_dct {r : List (Key × D)} : ∀ S x S', ev P (.dct r) S = .ok x S' → ∃ d, x = .d d ∧ d ≠ hole := fun S x S' h => by
  rw [ev] at h
  cases h
  refine ⟨_, rfl, fun z => ?_⟩
  have := keyD_x r
  unfold hole at z
  injection z with z
  rw [z] at this
  cases this
theorem se_dct {ks : List (Option Expr)} {vs : List Expr} {r : List (Key × D)} (h : AtKV ks vs r) (nd : (r.map (·.1)).Nodup) (few : r.length ≤ 15) : PE X (.Dict ks vs pos) (tE (kt X Z) W (ev P (.dct r))) := (sn_dct (s := .z) (fun z => nomatch z) h nd few).imp fun σ H Q h => tN_frz dat_dct h
/-- an empty list, held so -/
theorem sn_nil {s : Sh} : PE X (.List [] pos) (tN (kt X Z) W (.o s) (ev P (.lst .nil))) := (pe_lst pa_nil).imp fun σ H Q h => by
  obtain ⟨G, S, o, p⟩ := h
  rw [lst_ev, evs_nil] at p
  exact ⟨Nat.zero_le _, fun q hq => PostN.laid o p trivial hq (.lst upd_same .nil)⟩
/-- what is looked at as data -/
theorem sn_atm {s : Sh} {e : Expr} {a : C} (ha : PE X e (tE (kt X Z) W (ev P a))) : PE X e (tN (kt X Z) W (.o s) (ev P (.atm a))) := ha.imp fun σ H Q h => by
  obtain ⟨G, S, o, p⟩ := h
  have e : ev P (.atm a) S = (ev P a S).bind fun x s => match x with
    | .d x => if atom x then .ok (.d x) s else .stuck
    | _ => .stuck := by rw [ev] <;> rfl
  rw [e] at p
  refine ⟨G, S, o, ?_⟩
  cases ea : ev P a S with
  | ok x S1 =>
    rw [ea] at p
    cases x with
    | d d =>
      have p : PostN (kt X Z) W (.o s) G S σ H Q (if atom d then .ok (.d d) S1 else .stuck) := p
      intro G' v H' o' st r
      split at p
      · rename_i hp
        have r : Dn X.K (MM G') H' true d v := r
        refine p G' [] v H' o' st st.mono (.at ?_)
        cases d with
        | none => cases r; rfl
        | bool b => cases r; rfl
        | int i => cases r; rfl
        | str z => cases r; rfl
        | _ => cases hp
      · exact p.elim
    | _ => exact p.elim
  | er c S1 => rw [ea] at p; exact p
  | stuck => rw [ea] at p; exact p
/-! ### a list made longer by a new one -/
theorem extF_ev {p : Plc} {a : C} {S : Ste} : ev P (.extF p a) S = (evP P p S).bind fun l s => match l.in with
    | some (t, q) => (match s.at t q with
      | some (.o .z, .list _) => (s.held t fun s => ev P a s).bind fun y s => (if s.free t then (match s.get t, s.at t q, y with
        | some (_, x), some (.o .z, .list xs), .d (.list ys) => if xs.length + ys.length < lim then .ok (.d .none) (s.putR t (setAt x q (.list (xs ++ ys)))) else .stuck
        | _, _, _ => .stuck) else .stuck)
      | _ => .stuck)
    | none => .stuck := by rw [ev] <;> rfl
theorem se_extF {e e2 : Expr} {apos : Pos} {p : Plc} {a : C} (he : PE X e (tP (kt X Z) W (evP P p))) (ha : PE X e2 (tN (kt X Z) W (.o .z) (ev P a))) (hbase : attributeBase e "extend" X.env (eval e X.env) = eval e X.env)
    (hfew : ((backTo pos (starEach [e2] X.env)).all (fun x => !x.1) && (backToKw pos (keywordEach [] X.env)).all (fun x => x.1.isSome) && decide ([e2].length + ([] : List Keyword).length + (if ([] : List Keyword).isEmpty then 0 else 1) < 30)) = true)
    (hline : (apos.endLine == pos.line) = true) (hs : starEach [e2] X.env = (false, eval e2 X.env) :: starEach [] X.env) :
    PE X (.Call (.Attribute e "extend" apos) [e2] [] pos) (tE (kt X Z) W (ev P (.extF p a))) := (pe_bm PySem.F.plainAttrs_list PySem.F.slot_list_extend PySem.F.type_list_extend mt_extend he (pa_cons ha pa_nil hs) hbase hfew hline hs rfl).imp fun σ H Q h => by
  obtain ⟨G, S, o, q⟩ := h
  rw [extF_ev] at q
  refine ⟨G, S, o, q.seq fun G1 S1 l v H1 o1 st1 r1 p1 => ?_⟩
  cases el : l.in with
  | none => rw [el] at p1; exact p1.elim
  | some tq =>
    obtain ⟨t, q⟩ := tq
    rw [el] at p1
    dsimp only at p1
    cases ea : S1.at t q with
    | none => rw [ea] at p1; exact p1.elim
    | some r0 =>
      rw [ea] at p1
      split at p1
      case h_2 => exact p1.elim
      rename_i xs0 e0
      cases e0
      have vd : VD (kt X Z) G1 S1 σ H1 (.pk t q) v := in_vd r1 el ea
      obtain ⟨F, _, ot1⟩ := o1.pk vd ea
      refine ⟨ty_lst (.list xs0) .z rfl _ _ _ _ _ ot1, G1, S1.lock t, o1.lock t, ?_⟩
      have p1 : Post (kt X Z) W (RV (kt X Z)) G1 S1 σ H1 Q (((ev P a (S1.lock t)).map (fun s => s.unlock t (S1.free t)) id).bind fun y s => (if s.free t then (match s.get t, s.at t q, y with
        | some (_, x), some (.o .z, .list xs), .d (.list ys) => if xs.length + ys.length < lim then .ok (.d .none) (s.putR t (setAt x q (.list (xs ++ ys)))) else .stuck
        | _, _, _ => .stuck) else .stuck)) := p1
      cases ee : ev P a (S1.lock t) with
      | er c S2 =>
        rw [ee] at p1
        intro G2 H2 o2 st2
        exact p1 G2 H2 (o2.unlock _ _) (Stp.unlock st2)
      | stuck => rw [ee] at p1; exact p1
      | ok y S2 =>
        rw [ee] at p1
        simp only [Res.map, Res.bind, id] at p1
        split at p1
        case isFalse => exact p1.elim
        rename_i hf
        cases eg : (S2.unlock t (S1.free t)).get t with
        | none => rw [eg] at p1; exact p1.elim
        | some g =>
          obtain ⟨s0, x⟩ := g
          rw [eg] at p1
          split at p1
          case h_2 => exact p1.elim
          rename_i x' xs ys e1 e2'
          cases e1
          split at p1
          case isFalse => exact p1.elim
          rename_i hl
          intro G2 E u H2 o2 st2 k2 ot
          have o3 := o2.unlock t (S1.free t)
          have en : nav s0 x q = some (.o .z, .list xs) := by
            unfold Ste.at at e2'
            rw [eg] at e2'
            exact e2'
          obtain ⟨v0, u0, F2, w1, w2, w3, w4, w5, w6⟩ := Ok.wr o3 hf eg en
          have vd2 := (VD.held o1 vd st2)
          obtain ⟨v0', q0, z1, z2, _⟩ := vd2
          rw [w1] at z1
          cases z1
          rw [w2] at z2
          cases z2
          obtain ⟨b, rfl, rfl, us, h1, l1⟩ := OT.cont w3 rfl (fun z => nomatch z)
          obtain ⟨b2, rfl, rfl, ws, h2, l2⟩ := OT.cont ot rfl (fun z => nomatch z)
          have mb := (w5 b (by simp)).2
          refine ⟨b, b2, us, ws, rfl, rfl, h1, h2, by rw [← l1.length, ← l2.length]; exact Nat.le_trans (Nat.le_of_lt hl) (le_size (Nat.le_refl _)), ?_⟩
          have kp := Keeps.at (H := H2) (u := .lst (us ++ ws)) mb
          obtain ⟨G3, o4, stp, kk, io', less⟩ := w6 (upd H2 b (.lst (us ++ ws))) (.list (xs ++ ys)) [b] [] (fun c hc => upd_ne fun z => hc (by simp [z])) (fun c hc => by
              rw [List.mem_singleton.mp hc]; exact ⟨_, upd_same⟩) (fun c hc => by simp at hc; simp [hc]) (by simp) (fun c hc => nomatch hc)
              (.lst upd_same (OTs.ofZ (DnL.mono kp _ _ (l1.append l2))))
          exact p1 G3 .non _ o4 (Stp.close (Stp.unlock st2) k2 stp) .non
end
end EV
end
section
set_option Elab.async false
set_option linter.all false
set_option maxRecDepth 100000
set_option maxHeartbeats 4000000
set_option autoImplicit false
/-! GU2: tuples of things just made -/
namespace EV
open PySem L2
section
variable {T : Kt} {W : WX} {G G1 : Gh} {S S1 : Ste} {σ : St} {H H1 : Hp} {E E' : List Addr} {sh : Sh}
theorem perm_fpx (p : E.Perm E') {t : Option Rt} {a : Addr} : a ∈ (G.plus E').fpx t ↔ a ∈ (G.plus E).fpx t := by
  cases t with
  | some t => exact Iff.rfl
  | none =>
    show a ∈ E' ++ G.tm ↔ a ∈ E ++ G.tm
    simp [p.mem_iff]
theorem perm_mw (p : E.Perm E') : ∀ a, MW (G.plus E') a ↔ MW (G.plus E) a := fun a => ⟨fun ⟨t, h⟩ => ⟨t, (perm_fpx p).mp h⟩, fun ⟨t, h⟩ => ⟨t, (perm_fpx p).mpr h⟩⟩
theorem perm_mm (p : E.Perm E') : ∀ a, MM (G.plus E') a ↔ MM (G.plus E) a := fun a => ⟨fun h => h.imp (perm_mw p a).mp id, fun h => h.imp (perm_mw p a).mpr id⟩
theorem Ok.perm (o : Ok T (G.plus E) S σ H) (p : E.Perm E') : Ok T (G.plus E') S σ H := by
  refine o.re rfl o.len rfl (fun a h => (perm_mw p a).mp h) (fun a h => (perm_mm p a).mp h) (fun i x e => ?_) (fun t sh x e => o.own t sh x e) o.no (fun t => ?_) (fun t t' a h h' => o.dj t t' a ((perm_fpx p).mp h) ((perm_fpx p).mp h')) (fun t a h => o.dA t a ((perm_fpx p).mp h))
  · obtain ⟨v, h1, h2⟩ := o.val i x e
    exact ⟨v, h1, .inl h2⟩
  · cases t with
    | some t => exact o.nd (some t)
    | none =>
      have h : (E ++ G.tm).Nodup := o.nd none
      show (E' ++ G.tm).Nodup
      exact (p.append_right G.tm).nodup_iff.mp h
/-- things just made, in a row -/
def PostNs (T : Kt) (W : WX) (sh : Sh) (G : Gh) (S : Ste) (σ : St) (H : Hp) (Q : List V → Hp → Prop) : Res (List Vl) → Prop
  | .ok xs S' => ∃ ds, parts (.o .z) xs = some ds ∧ ∀ G' E vs H', Ok T (G'.plus E) S' σ H' → Stp G S σ H G' S' σ H' → Keeps (MM G) H (MM (G'.plus E)) H' → OTs T G'.io (MM (G'.plus E)) H' (List.replicate ds.length sh) ds vs E → Q vs H'
  | .er c S' => ∀ G' H', Ok T G' S' σ H' → Stp G S σ H G' S' σ H' → W c σ H'
  | .stuck => False
def tNs (T : Kt) (W : WX) (sh : Sh) (r : Ste → Res (List Vl)) : TA := fun σ H Q => ∃ G S, Ok T G S σ H ∧ PostNs T W sh G S σ H Q (r S)
end
section
variable {X : Cx} {Z : Ct} {W : WX} {P : Env} {pos : Pos} {sh : Sh}
theorem na_nil : PA X [] (tNs (kt X Z) W sh (evs P .nil)) := pa_nil.imp fun σ H Q h => by
  obtain ⟨G, S, o, p⟩ := h
  rw [evs_nil] at p
  obtain ⟨ds, e, p⟩ := p
  cases e
  exact p G [] [] H o (Stp.refl _ _ _ _) (Keeps.refl _ _) .nil
theorem na_cons {e : Expr} {es : List Expr} {a : C} {as : Cs} (ha : PE X e (tN (kt X Z) W sh (ev P a))) (nr : ∀ S x S', ev P a S = .ok x S' → ∃ d, x = .d d) (hr : PA X es (tNs (kt X Z) W sh (evs P as))) (hs : starEach (e :: es) X.env = (false, eval e X.env) :: starEach es X.env) : PA X (e :: es) (tNs (kt X Z) W sh (evs P (.cons a as))) := (pa_cons ha hr hs).imp fun σ H Q h => by
  obtain ⟨G, S, o, p⟩ := h
  rw [evs] at p
  refine ⟨G, S, o, ?_⟩
  cases ea : ev P a S with
  | er c S1 => rw [ea] at p; exact p
  | stuck => rw [ea] at p; exact p
  | ok x S1 =>
    rw [ea] at p
    obtain ⟨d, rfl⟩ := nr _ _ _ ea
    have p : PostNs (kt X Z) W sh G S σ H Q ((evs P as S1).bind fun xs s => .ok (.d d :: xs) s) := p
    intro G1 E1 v H1 o1 st1 k1 ot
    refine ⟨G1.plus E1, S1, o1, ?_⟩
    cases eb : evs P as S1 with
    | er c S2 =>
      rw [eb] at p
      intro G' H2 o2 st2
      obtain ⟨G2, rfl, tm⟩ := st2.unplus
      exact p G2 H2 o2.drop (Stp.close st1 k1 (StpE.pre st2 tm (StpE.dropped o2)))
    | stuck => rw [eb] at p; exact p
    | ok xs S2 =>
      rw [eb] at p
      obtain ⟨ds', e', p⟩ := (show PostNs (kt X Z) W sh G S σ H Q (.ok (.d d :: xs) S2) from p)
      have e' : (match some d, parts (.o .z) xs with | some d, some ds => some (d :: ds) | _, _ => none) = some ds' := e'
      cases ep : parts (.o .z) xs with
      | none => rw [ep] at e'; cases e'
      | some ds =>
        rw [ep] at e'
        cases e'
        refine ⟨ds, ep, fun G' E2 vs H2 o2 st2 k2 ots => ?_⟩
        obtain ⟨G2, rfl, tm⟩ := st2.unplus
        have pp : (E2 ++ E1).Perm (E1 ++ E2) := List.perm_append_comm
        have o3 : Ok (kt X Z) (G2.plus (E2 ++ E1)) S2 σ H2 := by rw [← plus_plus]; exact o2
        have mmE : ∀ b, MM (G2.plus (E1 ++ E2)) b → MM ((G2.plus E1).plus E2) b := fun b h => by rw [plus_plus]; exact (perm_mm pp b).mp h
        have st3 := Stp.close st1 k1 (StpE.pre st2 tm (StpE.dropped o2.drop))
        have k3 : Keeps (MM (G1.plus E1)) H1 (MM (G2.plus (E1 ++ E2))) H2 := fun b u hb n => let ⟨h1, h2⟩ := k2 b u hb n; ⟨h1, fun z => h2 (mmE b z)⟩
        have ot2 := OT.mono (io' := G2.io) k3 st2.io _ _ _ _ ot fun b hb => st2.tm.2 b (List.mem_append_left _ hb)
        refine p G2 (E1 ++ E2) (v :: vs) H2 (o3.perm pp) st3 (k1.trans k3) ?_
        rw [List.length_cons, List.replicate_succ]
        exact .cons ot2 (OTs.anti mmE _ _ _ _ ots)
theorem tupN_ev {as : Cs} {S : Ste} : ev P (.tupN as) S = (evs P as S).bind fun xs s => if xs.length ≤ lim then (match parts (.o .z) xs with
    | some ds => .ok (.d (.tuple ds)) s
    | none => .stuck) else .stuck := by rw [ev] <;> rfl
theorem parts_len : ∀ {s : Sh} {xs : List Vl} {ds : List D}, parts s xs = some ds → ds.length = xs.length
  | _, [], _, e => by cases e; rfl
  | s, x :: xs, ds, e => by
    unfold parts at e
    split at e
    · rename_i d ds' h1 h2
      cases e
      simp [parts_len h2]
    · cases e
theorem sn_tup {es : List Expr} {k : Nat} {as : Cs} (ha : PA X es (tNs (kt X Z) W sh (evs P as))) : PE X (.Tuple es k pos) (tN (kt X Z) W (.o sh) (ev P (.tupN as))) := (pe_tup ha).imp fun σ H Q h => by
  obtain ⟨G, S, o, p⟩ := h
  rw [tupN_ev] at p
  refine ⟨G, S, o, ?_⟩
  cases ea : evs P as S with
  | er c S1 => rw [ea] at p; exact p
  | stuck => rw [ea] at p; exact p
  | ok xs S1 =>
    rw [ea] at p
    have p : PostN (kt X Z) W (.o sh) G S σ H Q (if xs.length ≤ lim then (match parts (.o .z) xs with
      | some ds => .ok (.d (.tuple ds)) S1
      | none => .stuck) else .stuck) := p
    split at p
    case isFalse => exact p.elim
    rename_i hl
    cases ep : parts (.o .z) xs with
    | none => rw [ep] at p; exact p.elim
    | some ds =>
      rw [ep] at p
      refine ⟨ds, ep, fun G1 E vs H1 o1 st1 k1 ots => ?_⟩
      refine ⟨by rw [← (OTs.lens ots).2, parts_len ep]; exact le_size hl, fun q hq => ?_⟩
      have sm := Same.upd (o := HO.tup vs) hq
      have nq : ∀ b, MM (G1.plus E) b → b ≠ q := fun b hb z => by
        obtain ⟨u, hu⟩ := o1.tr1 hb
        rw [z, hq] at hu
        cases hu
      have o2 := o1.same sm
      have st2 := Stp.same o1.drop sm
      have kp : Keeps (MM (G1.plus E)) H1 (MM (G1.plus E)) (upd H1 q (.tup vs)) := Keeps.upd hq
      refine p G1 E (.ref q) _ o2 (st1.trans st2) (k1.trans kp) (.tup upd_same (fun hb => nq q hb rfl) (OTs.mono kp ⟨[], by simp⟩ _ _ _ _ ots fun b hb => ?_))
      obtain ⟨u, hu, _⟩ := OTs.tracked _ _ _ _ ots b hb
      refine upd_ne fun z => ?_
      rw [z, hq] at hu
      cases hu
/-- a new thing, told as it is -/
theorem sn_own {e : Expr} {a : C} (ha : PE X e (tN (kt X Z) W sh (ev P a))) : PE X e (tN (kt X Z) W sh (ev P (.own a))) := ha.imp fun σ H Q h => by
  obtain ⟨G, S, o, p⟩ := h
  have e : ev P (.own a) S = (ev P a S).bind fun x s => match x with
    | .d x => if isC x || atom x then .ok (.d x) s else .stuck
    | _ => .stuck := by rw [ev] <;> rfl
  rw [e] at p
  refine ⟨G, S, o, ?_⟩
  cases ea : ev P a S with
  | er c S1 => rw [ea] at p; exact p
  | stuck => rw [ea] at p; exact p
  | ok x S1 =>
    rw [ea] at p
    cases x with
    | d d =>
      have p : PostN (kt X Z) W sh G S σ H Q (if isC d || atom d then .ok (.d d) S1 else .stuck) := p
      split at p
      · exact p
      · exact p.elim
    | _ => exact p.elim
theorem sn_dd {e : Expr} {a : C} (ha : PE X e (tN (kt X Z) W sh (ev P a))) : PE X e (tN (kt X Z) W sh (ev P (.dd a))) := ha.imp fun σ H Q h => by
  obtain ⟨G, S, o, p⟩ := h
  have e : ev P (.dd a) S = (ev P a S).bind fun x s => match x with
    | .d x => .ok (.d x) s
    | _ => .stuck := by rw [ev] <;> rfl
  rw [e] at p
  refine ⟨G, S, o, ?_⟩
  cases ea : ev P a S with
  | er c S1 => rw [ea] at p; exact p
  | stuck => rw [ea] at p; exact p
  | ok x S1 =>
    rw [ea] at p
    cases x with
    | d d => exact p
    | _ => exact p.elim
end
end EV
end
section
set_option Elab.async false
set_option linter.all false
set_option maxRecDepth 100000
set_option maxHeartbeats 4000000
set_option autoImplicit false
/-! GV: written dicts of the modules, texts by texts: in, not in, what stands at a text -/
namespace EV
open PySem PySem.Spec L2
def DEs : List DictEntry → List (Str × Str) → Prop
  | [], [] => True
  | e :: es, q :: r => (∃ t u, e.key = .str q.1 t ∧ e.val = .str q.2 u) ∧ DEs es r
  | _, _ => False
/-- the dict at a has just these -/
def KDs (K : PySem.W.Frag) (w : World) (a : Addr) (kvs : List (Str × Str)) : Prop :=
  ∃ es n, K.lookup a = some ⟨.type "dict", none, .dict es n, #[]⟩ ∧ PySem.W.KeysLit w.params es.toList ∧ (a == sysModules) = false ∧ DEs es.toList kvs
theorem des_find {z : Str} : ∀ {es : List DictEntry} {kvs : List (Str × Str)}, DEs es kvs → (match es.find? (·.key.isStr z) with
    | some e => some (some e.val)
    | none => if es.any (·.refKey) then none else some none) = some ((es.find? (·.key.isStr z)).map (·.val)) ∧ (match kvs.lookup z with
    | some y => ∃ t, (es.find? (·.key.isStr z)).map (·.val) = some (.str y t)
    | none => (es.find? (·.key.isStr z)).map (·.val) = none)
  | [], [], _ => ⟨rfl, rfl⟩
  | [], _ :: _, h => h.elim
  | _ :: _, [], h => h.elim
  | e :: es, (k, v) :: r, ⟨⟨t, u, hk, hv⟩, h⟩ => by
    obtain ⟨i1, i2⟩ := des_find (z := z) h
    have e1 : e.key.isStr z = (k == z) := by rw [hk]; rfl
    have e2 : e.refKey = false := by
      unfold DictEntry.refKey
      rw [hk] <;> rfl
    rw [List.find?_cons, List.lookup_cons]
    by_cases q : k = z
    · subst q
      rw [e1, beq_self_eq_true]
      exact ⟨rfl, u, by rw [Option.map_some, hv]⟩
    · have q1 : (k == z) = false := beq_eq_false_iff_ne.mpr q
      have q2 : (z == k) = false := beq_eq_false_iff_ne.mpr fun e => q e.symm
      rw [e1, q1, q2, List.any_cons, e2, Bool.false_or]
      exact ⟨i1, i2⟩
theorem kds_ns {K : PySem.W.Frag} {w : World} {a : Addr} {kvs : List (Str × Str)} (h : KDs K w a kvs) (z : Str) : ∃ es n, K.lookup a = some ⟨.type "dict", none, .dict es n, #[]⟩ ∧ PySem.W.KeysLit w.params es.toList ∧ (a == sysModules) = false ∧
    ∃ r, PySem.W.nsIn K a z = some r ∧ (match kvs.lookup z with
      | some y => ∃ t, r = some (.str y t)
      | none => r = none) := by
  obtain ⟨es, n, h1, h2, h3, h4⟩ := h
  obtain ⟨i1, i2⟩ := des_find (z := z) h4
  refine ⟨es, n, h1, h2, h3, _, ?_, i2⟩
  unfold PySem.W.nsIn
  rw [h1]
  exact i1
section
variable {X : Cx}
theorem isSome_of {kvs : List (Str × Str)} {z : Str} {r : Option Value} (h : match kvs.lookup z with
      | some y => ∃ t, r = some (.str y t)
      | none => r = none) : r.isSome = (kvs.lookup z).isSome := by
  cases e : kvs.lookup z with
  | none => rw [e] at h; rw [show r = none from h]; rfl
  | some y => rw [e] at h; obtain ⟨t, h⟩ := h; rw [h]; rfl
theorem op_din {kvs : List (Str × Str)} : OpR X (compareOp .In) fun x y H Q => ∃ a, y = .ref a ∧ KDs X.K X.w a kvs ∧ rP X.K true (fDin kvs false) [x] H Q := by
  intro pins s σ H x y v u Q I rx ry h
  obtain ⟨a, rfl, kd, M, ds, d, tr, hd, hg, q⟩ := h
  obtain ⟨b, rfl, ha⟩ := hd.one
  unfold fDin at hg
  split at hg
  · rename_i z e
    cases e
    cases hg
    cases ha
    obtain ⟨t, rfl⟩ := rx
    obtain rfl : u = Value.ref a := ry
    obtain ⟨es, n, h1, h2, h3, r, h4, h5⟩ := kds_ns kd z
    refine wpAny_in_of (strKind_is X.prog X.w z t) h3 (PySem.W.mapOf_K (prog := X.prog) I.kIn h1 h2) ?_
    rw [PySem.W.find_K h1 h4, isSome_of h5]
    refine ⟨.bl _, H, I.tok _, rfl, q _ H (Same.refl H) ?_ (fin0 (by intro a e; cases e) H)⟩
    have : ((kvs.lookup z).isSome != false) = (kvs.lookup z).isSome := by cases (kvs.lookup z).isSome <;> rfl
    rw [this]
    exact .bl _
  · cases hg
theorem op_dnin {kvs : List (Str × Str)} : OpR X (compareOp .NotIn) fun x y H Q => ∃ a, y = .ref a ∧ KDs X.K X.w a kvs ∧ rP X.K true (fDin kvs true) [x] H Q := by
  intro pins s σ H x y v u Q I rx ry h
  obtain ⟨a, rfl, kd, M, ds, d, tr, hd, hg, q⟩ := h
  obtain ⟨b, rfl, ha⟩ := hd.one
  unfold fDin at hg
  split at hg
  · rename_i z e
    cases e
    cases hg
    cases ha
    obtain ⟨t, rfl⟩ := rx
    obtain rfl : u = Value.ref a := ry
    obtain ⟨es, n, h1, h2, h3, r, h4, h5⟩ := kds_ns kd z
    refine wpAny_notIn_of (strKind_is X.prog X.w z t) h3 (PySem.W.mapOf_K (prog := X.prog) I.kIn h1 h2) ?_
    rw [PySem.W.find_K h1 h4, isSome_of h5]
    refine ⟨.bl _, H, I.tok _, rfl, q _ H (Same.refl H) ?_ (fin0 (by intro a e; cases e) H)⟩
    have : ((kvs.lookup z).isSome != true) = !(kvs.lookup z).isSome := by cases (kvs.lookup z).isSome <;> rfl
    rw [this]
    exact .bl _
  · cases hg
theorem ix_dat {kvs : List (Str × Str)} : IxR X fun x y H Q => ∃ a, x = .ref a ∧ KDs X.K X.w a kvs ∧ rP X.K true (fDat kvs) [y] H Q := by
  intro value slice pins s σ H x y v u Q I rx ry h hs
  obtain ⟨a, rfl, kd, M, ds, d, tr, hd, hg, q⟩ := h
  obtain ⟨b, rfl, ha⟩ := hd.one
  unfold fDat at hg
  split at hg
  · rename_i z e
    cases e
    cases ha
    obtain ⟨es, n, h1, h2, h3, r, h4, h5⟩ := kds_ns kd z
    cases el : kvs.lookup z with
    | none => rw [el] at hg; cases hg
    | some y =>
      rw [el] at hg h5
      cases hg
      obtain ⟨t, rfl⟩ := h5
      exact ix_kdict value slice pins s σ H _ _ v u Q I rx ry ⟨a, z, .str y, rfl, rfl, ⟨es, n, _, h1, h2, h4, ⟨t, rfl⟩⟩, q _ H (Same.refl H) (.str _) (fin0 (by intro a e; cases e) H)⟩ hs
  · cases hg
end
section
variable {X : Cx} {Z : Ct} {W : WX} {P : Env} {pos : Pos}
theorem se_din {l r : Expr} {a : C} {kvs : List (Str × Str)} {p : Addr} (kd : KDs X.K X.w p kvs) (ha : PE X l (tE (kt X Z) W (ev P a))) (hr : PE X r (tC (.ref p))) (hm : behindInMarks .In r = false) : PE X (.Compare l [.In] [r] pos) (tE (kt X Z) W (ev P (.op (.dIn kvs false) (.cons a .nil)))) :=
  (pe_cmpR (op_din (kvs := kvs)) ha hr hm).imp fun σ H Q h => by
    rw [op_ev] at h
    exact one_read h fun G S x v H1 o1 vs q => ⟨p, rfl, kd, rP_of (g := fDin kvs false) o1 vs q⟩
theorem se_dnin {l r : Expr} {a : C} {kvs : List (Str × Str)} {p : Addr} (kd : KDs X.K X.w p kvs) (ha : PE X l (tE (kt X Z) W (ev P a))) (hr : PE X r (tC (.ref p))) (hm : behindInMarks .NotIn r = false) : PE X (.Compare l [.NotIn] [r] pos) (tE (kt X Z) W (ev P (.op (.dIn kvs true) (.cons a .nil)))) :=
  (pe_cmpR (op_dnin (kvs := kvs)) ha hr hm).imp fun σ H Q h => by
    rw [op_ev] at h
    exact one_read h fun G S x v H1 o1 vs q => ⟨p, rfl, kd, rP_of (g := fDin kvs true) o1 vs q⟩
theorem se_dat {l r : Expr} {a : C} {kvs : List (Str × Str)} {p : Addr} (kd : KDs X.K X.w p kvs) (hl : PE X l (tC (.ref p))) (ha : PE X r (tE (kt X Z) W (ev P a))) (hs : PlainIx r) : PE X (.Subscript l r pos) (tE (kt X Z) W (ev P (.op (.dAt kvs) (.cons a .nil)))) :=
  (pe_ix (ix_dat (kvs := kvs)) hl ha hs).imp fun σ H Q h => by
    rw [op_ev] at h
    exact one_read h fun G S x v H1 o1 vs q => ⟨p, rfl, kd, rP_of (g := fDat kvs) o1 vs q⟩
theorem one_readT {a : C} {f : List Vl → Ste → Res Bool} {σ : St} {H : Hp} {Q : Bool → Hp → Prop} {k : V → Hp → Prop} (h : tT (kt X Z) W (fun S => (evs P (.cons a .nil) S).bind f) σ H Q)
    (fin : ∀ G S x v H1, Ok (kt X Z) G S σ H1 → VDs (kt X Z) G S σ H1 [x] [v] → Post (kt X Z) W RB G S σ H1 Q (f [x] S) → k v H1) : tE (kt X Z) W (ev P a) σ H k := by
  obtain ⟨G, S, o, p⟩ := h
  replace p := (show Post (kt X Z) W RB G S σ H Q ((evs P _ S).bind f) from p)
  rw [evs_one'] at p
  exact ⟨G, S, o, p.seq fun G1 S1 x v H1 o1 st1 r1 p1 => fin G1 S1 x v H1 o1 (.cons r1 .nil) p1⟩
theorem bl_din {kvs : List (Str × Str)} {no : Bool} : ∀ ds d, fDin kvs no ds = some d → ∃ b, d = .bool b := fun ds d h => by
  unfold fDin at h
  split at h <;> cases h
  exact ⟨_, rfl⟩
theorem st_din {l r : Expr} {a : C} {kvs : List (Str × Str)} {p : Addr} (kd : KDs X.K X.w p kvs) (ha : PE X l (tE (kt X Z) W (ev P a))) (hr : PE X r (tC (.ref p))) (hm : behindInMarks .In r = false) : PT X (.Compare l [.In] [r] pos) (tT (kt X Z) W (evB P (.op (.dIn kvs false) (.cons a .nil)))) :=
  (pt_cmpR (op_din (kvs := kvs)) ha hr hm).imp fun σ H Q h => by
    rw [evB_op] at h
    exact one_readT h fun G S x v H1 o1 vs q => ⟨p, rfl, kd, rP_test bl_din o1 vs q⟩
theorem st_dnin {l r : Expr} {a : C} {kvs : List (Str × Str)} {p : Addr} (kd : KDs X.K X.w p kvs) (ha : PE X l (tE (kt X Z) W (ev P a))) (hr : PE X r (tC (.ref p))) (hm : behindInMarks .NotIn r = false) : PT X (.Compare l [.NotIn] [r] pos) (tT (kt X Z) W (evB P (.op (.dIn kvs true) (.cons a .nil)))) :=
  (pt_cmpR (op_dnin (kvs := kvs)) ha hr hm).imp fun σ H Q h => by
    rw [evB_op] at h
    exact one_readT h fun G S x v H1 o1 vs q => ⟨p, rfl, kd, rP_test bl_din o1 vs q⟩
end
end EV
end
section
set_option Elab.async false
set_option linter.all false
set_option maxRecDepth 100000
set_option maxHeartbeats 4000000
set_option autoImplicit false
/-! HA: try whose suite keeps the exception -/
namespace EV
open PySem PySem.Spec L2
/-- a handler's class beside the numbered exceptions -/
structure HdOk (K : PySem.W.Frag) (mg : Str → Option Value) (exv : Nat → Value) (x : Str) (tb : List (Nat × Str × Bool)) (c : Value) : Prop where
  at_ : mg x = some c ∨ (mg x = none ∧ bootBuiltins x = some c ∧ x ≠ "__name__")
  ex : ∀ p ∈ tb, ∃ C, exv p.1 = .ref C ∧ PySem.W.nsIn K mainGlobals p.2.1 = some (some (.ref C)) ∧ XOk K C ∧ PySem.W.exmOne K (.ref C) c = some p.2.2
theorem lookup_in {β : Type} {c : Nat} {b : β} : ∀ {l : List (Nat × β)}, l.lookup c = some b → (c, b) ∈ l
  | [], h => by cases h
  | (x, y) :: l, h => by
    rw [List.lookup_cons] at h
    cases e : (c == x) with
    | true =>
      rw [e] at h
      cases h
      rw [eq_of_beq e]
      exact List.mem_cons_self
    | false =>
      rw [e] at h
      exact List.mem_cons_of_mem _ (lookup_in h)
section
variable {X : Cx} {Z : Ct} {W : WX} {P : Env} {nw : Option Sh} {exv : Nat → Value}
theorem ps_tryK {x n y : Str} {c : Value} {tb : List (Nat × Str × Bool)} {i j : Nat} {body : List Stmt} {cb : CSs} {np pn py pa pos pos' : Pos} (hx : X.ex = []) (hs : X.stack = X.env :: X.outer) (hf : X.env.frame = some X.env.locals) (hN : X.N.Nodup)
    (hi : X.N[i]? = some n) (hj : X.N[j]? = some y) (hln : X.env.scope.names.lookup n = some .local) (hly : X.env.scope.names.lookup y = some .local) (dn : (n == ("__debug__" : Str)) = false) (dn2 : (n == ("__classdict__" : Str)) = false) (h0 : HdOk X.K X.mg exv x tb c) (hg : Gl X x) (hdb : (x == ("__debug__" : Str)) = false) (tk : Takes X fun cls d σ H => EW exv W σ cls d H)
    (hb : ∀ (W' : WX) (pn : List (Addr × Obj)) (xe : Value → Shared → Prop), Takes (X.tr pn xe) (fun cls d σ H => EW exv W' σ cls d H) → PassesOwn (model X.prog X.w) X.A X.env xe → PSs (X.tr pn xe) body (tS (kt X Z) W' nw (exs P cb))) :
    PS X (.Try body [.ExceptHandler (some (.Name x np)) (some n) [.Assign [.Name y py] (.Name n pn) pa] pos'] [] [] pos) (tS (kt X Z) W nw (exS P (.tryK cb tb i j))) := by
  refine (ps_try_keep (tb := fun W0 => tS (kt X Z) (fun c σ H => W0 (exv c) none σ H) nw (exs P cb)) (ts := fun a cls d => tAsg (tVar i) (gName j)) hx hs hf hN hi hln ⟨hg, hdb, h0.at_⟩ tk (fun W0 pn xe tk0 pass => ?_) (fun a oe cls d pn hz hf => ?_)).imp fun D σ H h => ?_
  · exact hb _ pn xe (tk0.imp fun cls d σ H ⟨c, e1, e2, h⟩ => by subst e1 e2; exact h) pass
  · exact pss_one (ps_set hN hj (.inl hly) (pe_var hi (.inl hln) dn dn2) rfl (.inr hly))
  · obtain ⟨G, S, o, p⟩ := h
    rw [exS] at p
    refine ⟨G, S, o, ?_⟩
    cases e : exs P cb S with
    | nx S' => rw [e] at p; exact p
    | rt x S' => rw [e] at p; exact p
    | bk S' => rw [e] at p; exact p
    | ct S' => rw [e] at p; exact p
    | stuck => rw [e] at p; exact p
    | er k S' =>
      rw [e] at p
      intro G' σ' H' o' st
      cases el : tb.lookup k with
      | none => simp only [el] at p; exact p.elim
      | some q =>
        obtain ⟨nm, b⟩ := q
        obtain ⟨C, e1, e2, e3, e4⟩ := h0.ex _ (lookup_in el)
        refine ⟨b, by rw [e1]; exact e4, fun hb => ?_, fun hb => ?_⟩
        · subst hb
          simp only [el] at p
          split at p
          · rename_i hop
            rw [Bool.and_eq_true] at hop
            refine ⟨rfl, fun a ha => ⟨.ref a, ?_, fun _ => ?_⟩⟩
            · have hl : i < σ'.length := by rw [← o'.len]; exact (open_at hop.1).1
              exact List.getElem?_set_self hl
            · have e1' : exv k = .ref C := e1
              rw [e1']
              have sm : Same H' (upd H' a (ExC (.ref C) a)) := Same.upd ha
              have o1 := o'.same sm
              have s1 := Stp.same o' sm
              have na : ¬ MM G' a := fun m => by
                obtain ⟨u, e⟩ := o'.tr1 m
                rw [ha] at e
                cases e
              have sd : SD (kt X Z) G' (upd H' a (ExC (.ref C) a)) (.d (exD nm)) (.ref a) := Dn.exc e2 e3 (.inl upd_same) na
              obtain ⟨G2, o2, s2, m2, w2⟩ := o1.asg hop.1 sd
              have sd2 : SD (kt X Z) G2 (upd H' a (ExC (.ref C) a)) (.d (exD nm)) (.ref a) := Dn.exc e2 e3 (.inl upd_same) fun m => na (m2 a m)
              have hop2 : Slot.open (S'.rho.set i (.v (.d (exD nm))))[j]? = true := by
                by_cases hij : j = i
                · subst hij
                  rw [List.getElem?_set_self (open_at hop.1).1]
                  rfl
                · rw [List.getElem?_set_ne (Ne.symm hij)]
                  exact hop.2
              obtain ⟨G3, o3, s3, _, _⟩ := o2.asg hop2 sd2
              have hop3 : Slot.open ((S'.rho.set i (.v (.d (exD nm)))).set j (.v (.d (exD nm))))[i]? = true := by
                by_cases hij : j = i
                · subst hij
                  rw [List.getElem?_set_self (by rw [List.length_set]; exact (open_at hop.1).1)]
                  rfl
                · rw [List.getElem?_set_ne hij, List.getElem?_set_self (open_at hop.1).1]
                  rfl
              obtain ⟨hi3, nl3⟩ := open_at (S := { S' with rho := (S'.rho.set i (.v (.d (exD nm)))).set j (.v (.d (exD nm))) }) hop3
              obtain ⟨o4, c4, _, _⟩ := Ok.sset (E := []) (y := .non) (σ' := ((σ'.set i (some (.ref a))).set j (some (.ref a))).set i none) o3 hi3 nl3 (by simp) set_same_ne (.inl ⟨rfl, rfl⟩)
              exact p _ _ _ o4 (((st.trans s1).trans s2).trans (s3.trans c4.stp))
          · exact p.elim
        · subst hb
          simp only [el] at p
          exact ⟨k, rfl, rfl, p G' σ' H' o' st⟩
end
end EV
end
section
set_option Elab.async false
set_option linter.all false
set_option maxRecDepth 100000
set_option maxHeartbeats 4000000
set_option autoImplicit false
/-! HB: isinstance of an exception (or None), beside one class, beside a tuple of classes -/
namespace EV
open PySem PySem.Spec L2
/-- a class, as isinstance looks at it: what stands at its name; None is none of it; how the named exceptions stand to it -/
structure XiOk (K : PySem.W.Frag) (mg : Str → Option Value) (x : Str) (tb : List (Str × Bool)) (c : V) (cv : Value) : Prop where
  at_ : mg x = some cv ∨ (mg x = none ∧ bootBuiltins x = some cv)
  rel : RelV c cv
  uniq : ∀ u, RelV c u → u = cv
  none : PySem.W.kitOne K (.type "NoneType") cv = some false
  ex : ∀ n b C, tb.lookup n = some b → PySem.W.nsIn K mainGlobals n = some (some (.ref C)) → PySem.W.kitOne K (.ref C) cv = some b
section
variable {X : Cx} {Z : Ct} {W : WX} {P : Env} {pos : Pos}
theorem pe_xi {x : Str} {tb : List (Str × Bool)} {c : V} {cv : Value} {p : Pos} (h : XiOk X.K X.mg x tb c cv) (hg : Gl X x) (hn : x ≠ "__name__") (hd : (x == ("__debug__" : Str)) = false) : PE X (.Name x p) (tC c) := by
  rcases h.at_ with e | ⟨e, e2⟩
  · exact pe_glob hg e h.rel hd
  · exact pe_bltn hg e e2 h.rel hn hd
theorem o_isEx {tb : List (Str × Bool)} {x : Str} {c : V} {cv : Value} (h0 : XiOk X.K X.mg x tb c cv) : CallR X (.builtin "isinstance") fun xs H Q => ∃ y, xs = [y, c] ∧ rP X.K true (fIsEx tb) [y] H Q := by
  intro pins s σ H xs us Q I r h
  obtain ⟨y, rfl, M, ds, d, tr, hd, hg, q⟩ := h
  obtain ⟨a, rfl, ha⟩ := hd.one
  obtain ⟨v1, v2, rfl, r1, r2⟩ := vals2 r
  have e2 := h0.uniq _ r2
  subst e2
  have fin : ∀ (b : Bool), d = .bool b → ∀ tk, EP X pins σ Q (.bool b) { s with toks := tk } := fun b e tk => by
    subst e
    exact ⟨.bl _, H, I.tok _, rfl, q _ H (Same.refl H) (.bl _) (fin0 (by intro a e; cases e) H)⟩
  unfold fIsEx at hg
  split at hg
  · rename_i e
    cases e
    cases hg
    cases ha
    cases r1
    exact PySem.W.kia_one PySem.W.kitx_none I.kIn trivial h0.none (fun z => nomatch z) (fin _ rfl)
  · rename_i n e
    cases e
    rcases ha.exc_or I r1 with nx | ⟨n', a1, C, oe, e, rfl, hC, xo, ii⟩
    · exact nomatch (show true = false from nx _ rfl)
    · have en : n = n' := by unfold exD at e; cases e; rfl
      subst en
      cases el : tb.lookup n with
      | none => rw [el] at hg; cases hg
      | some b =>
        rw [el] at hg
        cases hg
        exact isi_exc xo I.kIn ii (h0.ex n b C el hC) (fin _ rfl)
  · cases hg
theorem se_isEx {y : Str} {tb : List (Str × Bool)} {c : V} {cv : Value} {p p2 : Pos} {e : Expr} {a : C} (h0 : XiOk X.K X.mg y tb c cv) (hg : Gl X "isinstance") (hm : X.mg "isinstance" = none) (ha : PE X e (tE (kt X Z) W (ev P a))) (hy : PE X (.Name y p2) (tC c))
    (he : starEach [e, .Name y p2] X.env = (false, eval e X.env) :: starEach [.Name y p2] X.env) : PE X (.Call (.Name "isinstance" p) [e, .Name y p2] [] pos) (tE (kt X Z) W (ev P (.op (.isEx tb) (.cons a .nil)))) :=
  (pe_callB (o_isEx h0) hg hm PyProof.Rows.boot_isinstance (pa_cons ha (pa_cons hy pa_nil rfl) he) (by decide) (by decide) he rfl).imp fun σ H Q h => by
    rw [op_ev] at h
    show tE (kt X Z) W (ev P a) σ H _
    exact one_read h fun G S x v H1 o1 vs p => ⟨v, rfl, rP_of (g := fIsEx tb) o1 vs p⟩
/-! ### beside a tuple of classes -/
def tbAll : List (List (Str × Bool)) → Str → Option Bool
  | [], _ => some false
  | t :: r, n => match t.lookup n with
    | some true => some true
    | some false => tbAll r n
    | none => none
def tbOf (ns : List Str) (tbs : List (List (Str × Bool))) : List (Str × Bool) := ns.filterMap fun n => (tbAll tbs n).map fun b => (n, b)
theorem tbOf_at {tbs : List (List (Str × Bool))} {n : Str} {b : Bool} : ∀ {ns : List Str}, (tbOf ns tbs).lookup n = some b → tbAll tbs n = some b
  | [], h => by cases h
  | m :: r, h => by
    unfold tbOf at h
    rw [List.filterMap_cons] at h
    cases e : tbAll tbs m with
    | none =>
      rw [e] at h
      exact tbOf_at h
    | some c =>
      rw [e] at h
      simp only [Option.map_some] at h
      rw [List.lookup_cons] at h
      by_cases q : n = m
      · subst q
        rw [beq_self_eq_true] at h
        cases h
        exact e
      · rw [beq_eq_false_iff_ne.mpr q] at h
        exact tbOf_at h
def tCs (cs : List V) : TA := fun _ H Q => Q cs H
/-- the classes' row, as it is read -/
structure XsOk (X : Cx) (es : List Expr) (tbs : List (List (Str × Bool))) (cs : List V) (cvs : List Value) : Prop where
  pa : PA X es (tCs cs)
  uniq : ∀ us, Vals cs us → us = cvs
  none : PySem.W.kitAny X.K (.type "NoneType") cvs = some false
  ex : ∀ n b C, tbAll tbs n = some b → PySem.W.nsIn X.K mainGlobals n = some (some (.ref C)) → PySem.W.kitAny X.K (.ref C) cvs = some b
  len : cvs.length = es.length
theorem xs_nil : XsOk X [] [] [] [] :=
  ⟨pa_nil.imp fun σ H Q h => h, fun us r => by cases r; rfl, rfl, fun n b C h _ => by cases h; rfl, rfl⟩
theorem xs_cons {x : Str} {p : Pos} {es : List Expr} {tb : List (Str × Bool)} {tbs : List (List (Str × Bool))} {c : V} {cv : Value} {cs : List V} {cvs : List Value} (h : XiOk X.K X.mg x tb c cv) (hp : PE X (.Name x p) (tC c)) (r : XsOk X es tbs cs cvs)
    (hs : starEach (.Name x p :: es) X.env = (false, eval (.Name x p) X.env) :: starEach es X.env) : XsOk X (.Name x p :: es) (tb :: tbs) (c :: cs) (cv :: cvs) where
  pa := (pa_cons hp r.pa hs).imp fun σ H Q h => h
  uniq := fun us v => by
    cases v with
    | cons a b => rw [h.uniq _ a, r.uniq _ b]
  none := by
    unfold PySem.W.kitAny
    rw [h.none]
    exact r.none
  ex := fun n b C e hC => by
    unfold tbAll at e
    unfold PySem.W.kitAny
    cases el : tb.lookup n with
    | none => rw [el] at e; cases e
    | some z =>
      rw [h.ex n z C el hC]
      cases z with
      | true => rw [el] at e; exact e
      | false => rw [el] at e; exact r.ex n b C e hC
  len := by rw [List.length_cons, List.length_cons, r.len]
theorem pe_isExT {tb : List (Str × Bool)} {tbs : List (List (Str × Bool))} {cs : List V} {cvs : List Value} {p pos tpos : Pos} {kk : Nat} {e : Expr} {es : List Expr} {te : TE} (h0 : XsOk X es tbs cs cvs) (ht : ∀ n b, tb.lookup n = some b → tbAll tbs n = some b) (few : es.length ≤ 1000) (he : PE X e te) (hg : Gl X "isinstance") (hm : X.mg "isinstance" = none)
    (s1 : starEach [e, .Tuple es kk tpos] X.env = (false, eval e X.env) :: starEach [.Tuple es kk tpos] X.env) (s2 : starEach [.Tuple es kk tpos] X.env = (false, eval (.Tuple es kk tpos) X.env) :: starEach [] X.env)
    (hpl : (backTo pos (starEach [.Tuple es kk tpos] X.env)).any (·.1) = false) :
    PE X (.Call (.Name "isinstance" p) [e, .Tuple es kk tpos] [] pos) fun σ H Q => te σ H fun x H1 => rP X.K true (fIsEx tb) [x] H1 Q := by
  refine ⟨fun pins s σ H Q I h => ?_⟩
  refine wpAny_Call_Name_kw (ld_blt I hg hm PyProof.Rows.boot_isinstance (PyProof.Rows.callWith_builtin1 ?_ s1 hpl) (by decide) (by decide))
  rw [s1]
  show wpAny _ _ (spliced ((false, eval e X.env) :: backTo pos (starEach [.Tuple es kk tpos] X.env))) _ _ s
  refine PySem.Calls.spliced_cons (thn (he.run pins s σ H _ I h) fun u t1 ⟨x, H1, I1, r1, M, ds, d, tr, hd, hf, q⟩ => ?_)
  rw [s2]
  show wpAny _ _ (spliced ((false, eval (.Tuple es kk tpos) X.env) :: backTo pos (starEach [] X.env))) _ _ t1
  refine PySem.Calls.spliced_cons (wpAny_Tuple_spliced (thn (h0.pa.run tpos pins t1 σ H1 (fun ys H' => ys = cs ∧ H' = H1) I1 ⟨rfl, rfl⟩) fun us t2 ⟨ys, H2, I2, r2, ey, eH⟩ => ?_))
  subst ey eH
  have eu := h0.uniq _ r2
  subst eu
  refine ⟨Nat.le_trans (by rw [h0.len]; exact few) (by decide), PySem.Calls.spliced_nil ?_⟩
  obtain ⟨y, rfl, ha⟩ := hd.one
  have up : ∀ b o, t2.heap.get? b = some o → (t2.heap.push { cls := .type "tuple", data := .seq us.toArray }).get? b = some o := fun b o e => Heap.get?_push_of_some _ e
  have fin : ∀ (b : Bool), d = .bool b → ∀ tk, EP X pins σ Q (.bool b) { t2 with heap := t2.heap.push { cls := .type "tuple", data := .seq us.toArray }, toks := tk } := fun b e tk => by
    subst e
    exact ⟨.bl _, H2, I2.kept up, rfl, q _ H2 (Same.refl H2) (.bl _) (fin0 (by intro a e; cases e) H2)⟩
  unfold fIsEx at hf
  split at hf
  · rename_i e
    cases e
    cases hf
    cases ha
    cases r1
    exact PySem.W.kia_tup (its := us) PySem.W.kitx_none (I2.kIn.keeps up) trivial (Heap.get?_push_size _ rfl) h0.none (fun z => nomatch z) (fin _ rfl)
  · rename_i n e
    cases e
    rcases ha.exc_or I2 r1 with nx | ⟨n', a1, C, oe, e, rfl, hC, xo, g1, g2, g3, g4⟩
    · exact nomatch (show true = false from nx _ rfl)
    · have en : n = n' := by unfold exD at e; cases e; rfl
      subst en
      cases el : tb.lookup n with
      | none => rw [el] at hf; cases hf
      | some b =>
        rw [el] at hf
        cases hf
        exact PySem.W.kia_tup (its := us) (PySem.W.handS_kitx_exc xo.c.hg xo.c.hk xo.c.hs xo.c.hd xo.c.ha xo.c.hn xo.c.ht xo.c.hm) (I2.kIn.keeps up) ⟨up _ _ g1, g2, g3, by cases e : oe.dict <;> (rw [e] at g4; exact g4)⟩ (Heap.get?_push_size _ rfl)
          (h0.ex n b C (ht n b el) hC) (fun z => nomatch z) (fin _ rfl)
  · cases hf
theorem se_isExT {tb : List (Str × Bool)} {tbs : List (List (Str × Bool))} {cs : List V} {cvs : List Value} {p pos tpos : Pos} {kk : Nat} {e : Expr} {es : List Expr} {a : C} (h0 : XsOk X es tbs cs cvs) (ht : ∀ n b, tb.lookup n = some b → tbAll tbs n = some b) (few : es.length ≤ 1000) (hg : Gl X "isinstance") (hm : X.mg "isinstance" = none) (ha : PE X e (tE (kt X Z) W (ev P a)))
    (s1 : starEach [e, .Tuple es kk tpos] X.env = (false, eval e X.env) :: starEach [.Tuple es kk tpos] X.env) : PE X (.Call (.Name "isinstance" p) [e, .Tuple es kk tpos] [] pos) (tE (kt X Z) W (ev P (.op (.isEx tb) (.cons a .nil)))) :=
  (pe_isExT h0 ht few ha hg hm s1 rfl rfl).imp fun σ H Q h => by
    rw [op_ev] at h
    show tE (kt X Z) W (ev P a) σ H _
    exact one_read h fun G S x v H1 o1 vs p => rP_of (g := fIsEx tb) o1 vs p
end
end EV
end
section
set_option Elab.async false
set_option linter.all false
set_option maxRecDepth 100000
set_option maxHeartbeats 4000000
set_option autoImplicit false
/-! GL: from a def's text to core terms, with the proof -/
namespace EV
open PySem L2

structure CX where
  N : List Str
  own : List (Str × Sh) := []
  cel : List (Str × Sh) := []
  tr : List Str := []
  vw : List Str := []
  fs : List (Str × Nat × Option Sh) := []
  gs : List (Str × Nat) := []
  ex : List (Str × Nat) := []
  bl : List Str := []
  gd : List (Str × List (Str × Str)) := []
  tb : List (Str × Nat) := []
  nw : Option Sh := none
  rc : Option Sh := none
  hd : List (Str × List (Nat × Str × Bool)) := []
  is : List (Str × List (Str × Bool)) := []
structure Bk where
  sc : Scope
  fnl : List Str
def Wd (exv : Nat → Value) (W : WX) : L2.WX := fun cls d σ H => EW exv W σ cls d H
structure Good (cx : CX) (k : Nat) (b : Bk) (X : Cx) (Z : Ct) (W : WX) (P : Env) (exv : Nat → Value) : Prop where
  n : X.N = cx.N
  nd : X.N.Nodup
  sc : X.env.scope = b.sc
  fnl : ∀ x ∈ b.fnl, X.fn x = true
  calm : X.calm = true
  hgd : X.A.guards = some []
  rm : Room k X.A
  bl : ∀ x ∈ cx.bl, X.mg x = none
  fs : ∀ p ∈ cx.fs, ∃ a fd ps, FnG X.prog X.w X.K X.mg X.base (L2.CX X.prog X.w) k a fd ps (spF (kt X Z) exv p.2.2 (P.call p.2.1)) ∧ X.mg p.1 = some (.ref a) ∧ PySem.W.keepIn X.K (.ref a) = true ∧ Binds X.K fd ps []
  gs : ∀ p ∈ cx.gs, ∃ u v d, X.mg p.1 = some u ∧ RelV v u ∧ P.consts[p.2]? = some d ∧ GvD X d v
  gd : ∀ p ∈ cx.gd, ∃ a, X.mg p.1 = some (.ref a) ∧ KDs X.K X.w a p.2
  tb : ∀ p ∈ cx.tb, p ∈ Z.tb
  is : ∀ p ∈ cx.is, ∃ c cv, XiOk X.K X.mg p.1 p.2 c cv
  tk : Takes X (Wd exv W)
theorem Good.hu {cx : CX} {k : Nat} {b : Bk} {X : Cx} {Z : Ct} {W : WX} {P : Env} {exv : Nat → Value} (g : Good cx k b X Z W P exv) : X.A.units + 200 < cLine := by have := g.rm.un; omega
/-! ### small facts of a text -/
def okN (x : Str) : Bool := !(x == ("__debug__" : Str)) && !(x == ("__classdict__" : Str)) && !(x == ("__name__" : Str))
theorem okN1 {x : Str} (h : okN x = true) : (x == ("__debug__" : Str)) = false := by
  simp only [okN, Bool.and_eq_true, Bool.not_eq_true'] at h; exact h.1.1
theorem okN2 {x : Str} (h : okN x = true) : (x == ("__classdict__" : Str)) = false := by
  simp only [okN, Bool.and_eq_true, Bool.not_eq_true'] at h; exact h.1.2
theorem okN3 {x : Str} (h : okN x = true) : x ≠ "__name__" := by
  simp only [okN, Bool.and_eq_true, Bool.not_eq_true'] at h
  intro e
  rw [e] at h
  exact absurd h.2 (by decide +kernel)
def visB (sc : Scope) (x : Str) : Bool := match sc.names.lookup x with
  | some .local => true
  | some .cell => true
  | some .free => true
  | _ => false
theorem visB_of {sc : Scope} {x : Str} (h : visB sc x = true) : Vis sc x := by
  unfold visB at h
  split at h
  · exact .inl (by assumption)
  · exact .inr (.inl (by assumption))
  · exact .inr (.inr (by assumption))
  · cases h
def glB (sc : Scope) (x : Str) : Bool := match sc.names.lookup x with
  | some .globalImplicit => true
  | _ => false
theorem glB_of {sc : Scope} {x : Str} (h : glB sc x = true) : sc.names.lookup x = some .globalImplicit := by
  unfold glB at h
  split at h
  · assumption
  · cases h
def isLocal (sc : Scope) (x : Str) : Bool := match sc.names.lookup x with
  | some .local => true
  | _ => false
theorem isLocal_of {sc : Scope} {x : Str} (h : isLocal sc x = true) : sc.names.lookup x = some .local := by
  unfold isLocal at h
  split at h
  · assumption
  · cases h
def isCell (sc : Scope) (x : Str) : Bool := match sc.names.lookup x with
  | some .cell => true
  | _ => false
theorem isCell_of {sc : Scope} {x : Str} (h : isCell sc x = true) : sc.names.lookup x = some .cell := by
  unfold isCell at h
  split at h
  · assumption
  · cases h
def look {α : Type} : (l : List (Str × α)) → (x : Str) → Option {a : α // (x, a) ∈ l}
  | [], _ => none
  | (y, a) :: r, x => if h : y = x then some ⟨a, by subst h; exact List.mem_cons_self⟩ else match look r x with
    | some ⟨c, m⟩ => some ⟨c, List.mem_cons_of_mem _ m⟩
    | none => none
def slotOf : (N : List Str) → (x : Str) → Option {i : Nat // N[i]? = some x}
  | [], _ => none
  | y :: r, x => if h : y = x then some ⟨0, by rw [h]; rfl⟩ else match slotOf r x with
    | some ⟨i, e⟩ => some ⟨i + 1, by rw [List.getElem?_cons_succ]; exact e⟩
    | none => none
def memB (l : List Str) (x : Str) : Bool := l.any fun y => decide (y = x)
theorem memB_of {l : List Str} {x : Str} (h : memB l x = true) : x ∈ l := by
  unfold memB at h
  obtain ⟨y, m, e⟩ := List.any_eq_true.mp h
  have := of_decide_eq_true e
  rw [← this]
  exact m
def noStar : Expr → Bool
  | .Starred _ _ => false
  | _ => true
theorem star1 {e : Expr} (h : noStar e = true) (es : List Expr) (env : PySem.Env) : starEach (e :: es) env = (false, eval e env) :: starEach es env := by
  cases e with
  | Starred _ _ => cases h
  | _ => rfl
theorem starN : ∀ {es : List Expr}, es.all noStar = true → ∀ (pos : Pos) (env : PySem.Env), (backTo pos (starEach es env)).any (·.1) = false ∧ (backTo pos (starEach es env)).all (fun x => !x.1) = true
  | [], _, _, _ => ⟨rfl, rfl⟩
  | e :: es, h, pos, env => by
    rw [List.all_cons, Bool.and_eq_true] at h
    obtain ⟨h1, h2⟩ := starN h.2 pos env
    rw [star1 h.1]
    unfold backTo at h1 h2 ⊢
    rw [List.map_cons, List.any_cons, List.all_cons, h1, h2]
    exact ⟨rfl, rfl⟩
def plainIx : Expr → Bool
  | .Slice _ _ _ _ => false
  | _ => true
theorem plainIx_of {e : Expr} (h : plainIx e = true) : PlainIx e := fun o i => by
  cases e with
  | Slice _ _ _ _ => cases h
  | _ => rfl
def noSet : Expr → Bool
  | .Set _ _ _ => false
  | _ => true
theorem noSet_of {e : Expr} (h : noSet e = true) (env : PySem.Env) (x : Value) : foldedSetIterable e env x = pure x := by
  cases e with
  | Set _ _ _ => cases h
  | _ => rfl
def noComp : Expr → Bool
  | .ListComp _ _ _ _ => false
  | .SetComp _ _ _ _ => false
  | .DictComp _ _ _ _ _ => false
  | _ => true
theorem noComp_of {e : Expr} (h : noComp e = true) (t : Option Expr) (l : Nat) (env : PySem.Env) : swapsWith e t l env = pure false := by
  cases e with
  | ListComp _ _ _ _ => cases h
  | SetComp _ _ _ _ => cases h
  | DictComp _ _ _ _ _ => cases h
  | _ => rfl
def noTest : Expr → Bool
  | .UnaryOp .Not _ _ => false
  | .BoolOp _ _ _ => false
  | .IfExp _ _ _ _ => false
  | .Compare _ _ _ _ => false
  | _ => true
theorem noTest_of {e : Expr} (h : noTest e = true) (env : PySem.Env) (whole : Sem Value) : isTrue e env whole = (do let v ← whole; standAt e.pos; holding [v] (truthy v)) := by
  cases e with
  | UnaryOp op _ _ => cases op with
    | Not => cases h
    | _ => rfl
  | BoolOp _ _ _ => cases h
  | IfExp _ _ _ _ => cases h
  | Compare _ _ _ _ => cases h
  | _ => rfl
def noTup : Expr → Bool
  | .Tuple _ _ _ => false
  | _ => true
theorem noTup_of {e : Expr} (h : noTup e = true) (ts : List Expr) (n : Nat) (tp : Pos) (env : PySem.Env) : swappedStores [.Tuple ts n tp] e env = pure none := by
  cases e with
  | Tuple _ _ _ => cases h
  | _ => rfl
def noCall : Expr → Bool
  | .Call _ _ _ _ => false
  | _ => true
theorem noCall_of {e : Expr} (h : noCall e = true) (n : Str) (env : PySem.Env) (w : Sem Value) : attributeBase e n env w = w := by
  cases e with
  | Call _ _ _ _ => cases h
  | _ => rfl
theorem Gl.of {X : Cx} {sc : Scope} {x : Str} (e : X.env.scope = sc) (h : glB sc x = true) : Gl X x := by
  show X.env.scope.names.lookup x = _
  rw [e]
  exact glB_of h
/-! ### what it comes to -/
abbrev RE (cx : CX) (b : Bk) (e : Expr) := { c : C // ∀ {k X Z W P exv}, Good cx k b X Z W P exv → PE X e (tE (kt X Z) W (ev P c)) }
abbrev RN (cx : CX) (b : Bk) (sh : Sh) (e : Expr) := { c : C // (∀ P S x S', ev P c S = .ok x S' → ∃ d, x = .d d) ∧ ∀ {k X Z W P exv}, Good cx k b X Z W P exv → PE X e (tN (kt X Z) W sh (ev P c)) }
abbrev RPl (cx : CX) (b : Bk) (e : Expr) := { p : Plc // ∀ {k X Z W P exv}, Good cx k b X Z W P exv → PE X e (tP (kt X Z) W (evP P p)) }
abbrev RT (cx : CX) (b : Bk) (e : Expr) := { c : C // ∀ {k X Z W P exv}, Good cx k b X Z W P exv → PT X e (tT (kt X Z) W (evB P c)) }
abbrev RW (cx : CX) (b : Bk) (e : Expr) := { c : C // ∀ {k X Z W P exv}, Good cx k b X Z W P exv → PW X e (tT (kt X Z) W (evB P c)) }
abbrev RA (cx : CX) (b : Bk) (es : List Expr) := { as : Cs // es.all noStar = true ∧ ∀ {k X Z W P exv}, Good cx k b X Z W P exv → PA X es (tA (kt X Z) W (evs P as)) }
abbrev RI' (cx : CX) (b : Bk) (tg e : Expr) := { it : It // ∀ {k X Z W P exv}, Good cx k b X Z W P exv → PI X tg e (tI (kt X Z) W (evIt P it)) }
abbrev RTs (cx : CX) (b : Bk) (es : List Expr) := { cs : Cs // ∀ {k X Z W P exv}, Good cx k b X Z W P exv → PTs X es (tT (kt X Z) W (evTs P cs)) }
abbrev RG (cx : CX) (b : Bk) (e : Expr) := { t : Tg // ∀ {k X Z W P exv}, Good cx k b X Z W P exv → TgE X e t }
abbrev RGs (cx : CX) (b : Bk) (es : List Expr) := { t : List Tg // ∀ {k X Z W P exv}, Good cx k b X Z W P exv → TgEs X es t }
structure Cmp (cx : CX) where
  e : ∀ b e, Option (RE cx b e)
  n : ∀ b sh e, Option (RN cx b sh e)
  p : ∀ b e, Option (RPl cx b e)
  t : ∀ b e, Option (RT cx b e)
  w : ∀ b e, Option (RW cx b e)
  g : ∀ b e, Option (RG cx b e)
section
variable {cx : CX} {k : Nat}
def mName (b : Bk) (x : Str) (pos : Pos) : Option (RE cx b (.Name x pos)) :=
  if ho : okN x = true then match slotOf cx.N x with
    | some ⟨i, hi⟩ => if hv : visB b.sc x = true then some ⟨.var i, fun {k X Z W P exv} g => se_var (by rw [g.n]; exact hi) (by rw [g.sc]; exact visB_of hv) (okN1 ho) (okN2 ho)⟩ else none
    | none => if hg : glB b.sc x = true then match look cx.gs x with
      | some ⟨j, m⟩ => some ⟨.glob j, fun {k X Z W P exv} g => by
          obtain ⟨u, v, d, h1, h2, h3, h4⟩ := g.gs _ m
          exact se_glob (pe_glob (Gl.of g.sc hg) h1 h2 (okN1 ho)) h3 h4⟩
      | none => none
      else none
  else none
/-- a name looked at where it stands -/
def mPeek (b : Bk) (x : Str) (pos : Pos) : Option (RE cx b (.Name x pos)) :=
  if ho : okN x = true then match slotOf cx.N x with
    | some ⟨i, hi⟩ => if hv : visB b.sc x = true then some ⟨.peek (.sl i), fun {k X Z W P exv} g => se_peek (sp_sl (by rw [g.n]; exact hi) (by rw [g.sc]; exact visB_of hv) (okN1 ho) (okN2 ho))⟩ else none
    | none => mName b x pos
  else none
def mOp (r : Cmp cx) (b : Bk) : (e : Expr) → Option (RE cx b e)
  | .Name x pos => mPeek b x pos
  | e => r.e b e
def mA (r : Cmp cx) (b : Bk) : (es : List Expr) → Option (RA cx b es)
  | [] => some ⟨.nil, rfl, fun {k X Z W P exv} g => sa_nil⟩
  | e :: es => if hs : noStar e = true then match r.e b e, mA r b es with
    | some ⟨a, pa⟩, some ⟨as, hs2, pas⟩ => some ⟨.cons a as, by rw [List.all_cons, hs, hs2]; rfl, fun {k X Z W P exv} g => sa_cons (pa g) (pas g) (star1 hs es X.env)⟩
    | _, _ => none
    else none
/-- operands -/
def mAo (r : Cmp cx) (b : Bk) : (es : List Expr) → Option (RA cx b es)
  | [] => some ⟨.nil, rfl, fun {k X Z W P exv} g => sa_nil⟩
  | e :: es => if hs : noStar e = true then match mOp r b e, mAo r b es with
    | some ⟨a, pa⟩, some ⟨as, hs2, pas⟩ => some ⟨.cons a as, by rw [List.all_cons, hs, hs2]; rfl, fun {k X Z W P exv} g => sa_cons (pa g) (pas g) (star1 hs es X.env)⟩
    | _, _ => none
    else none
def mConst (b : Bk) (c : Const) (j : Nat) (pos : Pos) : Option (RE cx b (.Constant c j pos)) := match c with
  | .none => some ⟨.kst .none, fun {k X Z W P exv} g => se_kst pe_non fun _ _ => .non⟩
  | .bool z => some ⟨.kst (.bool z), fun {k X Z W P exv} g => se_kst pe_bl fun _ _ => .bl _⟩
  | .int z => some ⟨.kst (.int z), fun {k X Z W P exv} g => se_kst pe_int fun _ _ => .int _⟩
  | .str z => some ⟨.kst (.str z), fun {k X Z W P exv} g => se_kst pe_str fun _ _ => .str _⟩
  | _ => none
end
def binO : (op : Operator) → Option { o : Op // ∀ X, OpP X (binaryOp op) o.fresh o.fn }
  | .Add => some ⟨.add, fun X => o_add⟩
  | .Sub => some ⟨.sub, fun X => o_sub⟩
  | .Mult => some ⟨.mul, fun X => o_mul⟩
  | .FloorDiv => some ⟨.fdiv, fun X => o_fdiv⟩
  | .Mod => some ⟨.mod, fun X => o_mod⟩
  | .Pow => some ⟨.pow, fun X => o_pow⟩
  | _ => none
def binF : (op : Operator) → Option { o : Op // o.fresh = true ∧ (∀ X, OpP X (binaryOp op) o.fresh o.fn) ∧ ∀ ds d, o.fn ds = some d → isC d = true → ∃ ys, d = .list ys }
  | .Add => some ⟨.add, rfl, fun X => o_add, lk_add⟩
  | _ => none
theorem bl_eq : ∀ ds d, fEq ds = some d → ∃ b, d = .bool b := fun ds d h => by
  unfold fEq at h
  split at h
  · split at h
    · cases h; exact ⟨_, rfl⟩
    · unfold isNil at h
      split at h
      · cases h; exact ⟨_, rfl⟩
      · cases h
  · cases h
theorem bl_ne : ∀ ds d, fNe ds = some d → ∃ b, d = .bool b := fun ds d h => by
  unfold fNe at h
  split at h
  · split at h
    · cases h; exact ⟨_, rfl⟩
    · unfold notNil at h
      split at h
      · cases h; exact ⟨_, rfl⟩
      · cases h
  · cases h
theorem bl_lt : ∀ ds d, fLt ds = some d → ∃ b, d = .bool b := fun ds d h => by
  unfold fLt at h
  split at h <;> cases h
  exact ⟨_, rfl⟩
theorem bl_le : ∀ ds d, fLe ds = some d → ∃ b, d = .bool b := fun ds d h => by
  unfold fLe at h
  split at h <;> cases h
  exact ⟨_, rfl⟩
theorem bl_gt : ∀ ds d, fGt ds = some d → ∃ b, d = .bool b := fun ds d h => by
  unfold fGt at h
  split at h <;> cases h
  exact ⟨_, rfl⟩
theorem bl_ge : ∀ ds d, fGe ds = some d → ∃ b, d = .bool b := fun ds d h => by
  unfold fGe at h
  split at h <;> cases h
  exact ⟨_, rfl⟩
theorem bl_is : ∀ ds d, fIs ds = some d → ∃ b, d = .bool b := fun ds d h => by
  unfold fIs at h
  split at h <;> cases h <;> exact ⟨_, rfl⟩
theorem bl_isnt : ∀ ds d, fIsnt ds = some d → ∃ b, d = .bool b := fun ds d h => by
  unfold fIsnt at h
  split at h <;> cases h <;> exact ⟨_, rfl⟩
theorem bl_in : ∀ ds d, fIn ds = some d → ∃ b, d = .bool b := fun ds d h => by
  unfold fIn at h
  split at h
  · cases h; exact ⟨_, rfl⟩
  · split at h
    · cases h; exact ⟨_, rfl⟩
    · first | (cases h; done) | (obtain ⟨_, _, _, _, rfl⟩ := dictNo_of h; exact ⟨_, rfl⟩)
  · split at h
    · cases h; exact ⟨_, rfl⟩
    · cases h
  · simp only [Option.ite_none_right_eq_some] at h
    obtain ⟨_, h⟩ := h
    cases h
    exact ⟨_, rfl⟩
  · cases h
theorem bl_notin : ∀ ds d, fNotin ds = some d → ∃ b, d = .bool b := fun ds d h => by
  unfold fNotin at h
  split at h
  · cases h; exact ⟨_, rfl⟩
  · split at h
    · cases h; exact ⟨_, rfl⟩
    · first | (cases h; done) | (obtain ⟨_, _, _, _, rfl⟩ := dictNo_of h; exact ⟨_, rfl⟩)
  · split at h
    · cases h; exact ⟨_, rfl⟩
    · cases h
  · simp only [Option.ite_none_right_eq_some] at h
    obtain ⟨_, h⟩ := h
    cases h
    exact ⟨_, rfl⟩
  · cases h
def cmpO : (op : CmpOp) → { o : Op // (∀ X : Cx, X.A.units + 200 < cLine → OpP X (compareOp op) o.fresh o.fn) ∧ ∀ ds d, o.fn ds = some d → ∃ b, d = .bool b }
  | .Eq => ⟨.eq, fun X hu => o_eq hu, bl_eq⟩
  | .NotEq => ⟨.ne, fun X hu => o_ne hu, bl_ne⟩
  | .Lt => ⟨.lt, fun X hu => o_lt, bl_lt⟩
  | .LtE => ⟨.le, fun X hu => o_le, bl_le⟩
  | .Gt => ⟨.gt, fun X hu => o_gt, bl_gt⟩
  | .GtE => ⟨.ge, fun X hu => o_ge, bl_ge⟩
  | .Is => ⟨.is_, fun X hu => o_is, bl_is⟩
  | .IsNot => ⟨.isnt, fun X hu => o_isnt, bl_isnt⟩
  | .In => ⟨.in_, fun X hu => o_in hu, bl_in⟩
  | .NotIn => ⟨.notin, fun X hu => o_notin hu, bl_notin⟩
theorem bt_all : bootBuiltins "all" = some (.builtin "all") := by decide +kernel
theorem bt_any : bootBuiltins "any" = some (.builtin "any") := by decide +kernel
theorem bt_abs : bootBuiltins "abs" = some (.builtin "abs") := by decide +kernel
theorem bt_max : bootBuiltins "max" = some (.builtin "max") := by decide +kernel
theorem bt_min : bootBuiltins "min" = some (.builtin "min") := by decide +kernel
theorem bt_repr : bootBuiltins "repr" = some (.builtin "repr") := by decide +kernel
theorem bt_sorted : bootBuiltins "sorted" = some (.builtin "sorted") := by decide +kernel
theorem bt_len : bootBuiltins "len" = some (.builtin "len") := by decide +kernel
theorem bt_isinst : bootBuiltins "isinstance" = some (.builtin "isinstance") := by decide +kernel
theorem bt_int : bootBuiltins "int" = some (.type "int") := by decide +kernel
theorem bt_str : bootBuiltins "str" = some (.type "str") := by decide +kernel
theorem bt_bool : bootBuiltins "bool" = some (.type "bool") := by decide +kernel
theorem bt_list : bootBuiltins "list" = some (.type "list") := by decide +kernel
theorem bt_tuple : bootBuiltins "tuple" = some (.type "tuple") := by decide +kernel
theorem bt_dict : bootBuiltins "dict" = some (.type "dict") := by decide +kernel
/-- builtins that are called by values -/
def biOf (x : Str) : Option { q : Op × String // bootBuiltins x = some (.builtin q.2) ∧ ∀ X : Cx, X.calm = true → X.A.guards = some [] → X.A.units + 200 < cLine → CallP X (.builtin q.2) q.1.fresh q.1.fn } :=
  if h : x = "len" then some ⟨(.len, "len"), by subst h; exact bt_len, fun X _ _ _ => o_len⟩
  else if h : x = "all" then some ⟨(.all, "all"), by subst h; exact bt_all, fun X hc _ _ => o_all hc⟩
  else if h : x = "any" then some ⟨(.any, "any"), by subst h; exact bt_any, fun X hc _ _ => o_any hc⟩
  else if h : x = "abs" then some ⟨(.abs, "abs"), by subst h; exact bt_abs, fun X _ _ _ => o_abs⟩
  else if h : x = "max" then some ⟨(.max2, "max"), by subst h; exact bt_max, fun X hc _ _ => o_max2 hc⟩
  else if h : x = "min" then some ⟨(.min2, "min"), by subst h; exact bt_min, fun X hc _ _ => o_min2 hc⟩
  else if h : x = "repr" then some ⟨(.repr, "repr"), by subst h; exact bt_repr, fun X _ hg hu => o_repr hg hu⟩
  else if h : x = "sorted" then some ⟨(.sorted, "sorted"), by subst h; exact bt_sorted, fun X hc _ hu => o_sorted hc hu⟩
  else none
def tyOf (x : Str) : Option { q : Op × String // bootBuiltins x = some (.type q.2) ∧ ∀ X : Cx, CallP X (.type q.2) q.1.fresh q.1.fn } :=
  if h : x = "int" then some ⟨(.int1, "int"), by subst h; exact bt_int, fun X => o_int⟩
  else if h : x = "list" then some ⟨(.ofList, "list"), by subst h; exact bt_list, fun X => o_ofList⟩
  else if h : x = "tuple" then some ⟨(.ofTuple, "tuple"), by subst h; exact bt_tuple, fun X => o_ofTuple⟩
  else if h : x = "str" then some ⟨(.str1, "str"), by subst h; exact bt_str, fun X => o_str1⟩
  else none
def biF (x : Str) : Option { q : Op × String // bootBuiltins x = some (.builtin q.2) ∧ q.1.fresh = true ∧ (∀ X : Cx, X.calm = true → X.A.units + 200 < cLine → CallP X (.builtin q.2) q.1.fresh q.1.fn) ∧ ∀ ds d, q.1.fn ds = some d → isC d = true → ∃ ys, d = .list ys } :=
  if h : x = "sorted" then some ⟨(.sorted, "sorted"), by subst h; exact bt_sorted, rfl, fun X hc hu => o_sorted hc hu, lk_sorted⟩
  else none
def tyF (x : Str) : Option { q : Op × String // bootBuiltins x = some (.type q.2) ∧ q.1.fresh = true ∧ (∀ X : Cx, CallP X (.type q.2) q.1.fresh q.1.fn) ∧ ∀ ds d, q.1.fn ds = some d → isC d = true → ∃ ys, d = .list ys } :=
  if h : x = "list" then some ⟨(.ofList, "list"), by subst h; exact bt_list, rfl, fun X => o_ofList, lk_ofList⟩
  else none
def tyName (x : Str) : Option { t : Ty // bootBuiltins x = some (.type t.str') } :=
  if h : x = "str" then some ⟨.str, by subst h; exact bt_str⟩
  else if h : x = "int" then some ⟨.int, by subst h; exact bt_int⟩
  else if h : x = "bool" then some ⟨.bool, by subst h; exact bt_bool⟩
  else if h : x = "list" then some ⟨.list, by subst h; exact bt_list⟩
  else if h : x = "tuple" then some ⟨.tuple, by subst h; exact bt_tuple⟩
  else if h : x = "dict" then some ⟨.dict, by subst h; exact bt_dict⟩
  else none
theorem pe_tyName {X : Cx} {x : Str} {T : String} {p : Pos} (hg : Gl X x) (hm : X.mg x = none) (hv : bootBuiltins x = some (.type T)) (hn : x ≠ "__name__") (hdb : (x == ("__debug__" : Str)) = false) : PE X (.Name x p) (tC (.ty T)) :=
  ⟨fun pins s σ H Q I h => ld_blt I hg hm hv ⟨.ty T, H, I, rfl, h⟩ hn hdb⟩
end EV
end
section
set_option Elab.async false
set_option linter.all false
set_option maxRecDepth 100000
set_option maxHeartbeats 4000000
set_option autoImplicit false
/-! GM: from a def's text to core terms, expressions -/
namespace EV
open PySem L2
section
variable {cx : CX} {k : Nat}
theorem fewN {es : List Expr} (h : es.all noStar = true) (few : es.length < 30) (pos : Pos) (env : PySem.Env) : ((backTo pos (starEach es env)).all (fun x => !x.1) && (backToKw pos (keywordEach [] env)).all (fun x => x.1.isSome)
      && decide (es.length + ([] : List Keyword).length + (if ([] : List Keyword).isEmpty then 0 else 1) < 30)) = true := by
  rw [(starN h pos env).2]
  simp [keywordEach, backToKw, few]
/-! ### calls -/
def mIsinst0 (r : Cmp cx) (b : Bk) (p : Pos) (es : List Expr) (pos : Pos) : Option (RE cx b (.Call (.Name "isinstance" p) es [] pos)) := match es with
  | [e, .Name T q] => if hs : noStar e = true then (if hg : glB b.sc "isinstance" = true then (if hg2 : glB b.sc T = true then (if hm : memB cx.bl "isinstance" = true then (if hm2 : memB cx.bl T = true then (if ho : okN T = true then match tyName T, mOp r b e with
    | some ⟨t, ht⟩, some ⟨a, pa⟩ => some ⟨.op (.isinst t) (.cons a .nil), fun {k X Z W P exv} g => se_isinst (Gl.of g.sc hg) (g.bl _ (memB_of hm)) bt_isinst (pa g) (pe_tyName (Gl.of g.sc hg2) (g.bl _ (memB_of hm2)) ht (okN3 ho) (okN1 ho)) (by decide +kernel) (by decide +kernel)
        (star1 hs _ _) (star1 rfl _ _) rfl⟩
    | _, _ => none
    else none) else none) else none) else none) else none) else none
  | [e, .Tuple [.Name T q, .Name T2 q2] kk tpos] => if h : T = "list" then (if h2 : T2 = "tuple" then (if hs : noStar e = true then (if hg : glB b.sc "isinstance" = true then (if hgl : glB b.sc "list" = true then (if hgt : glB b.sc "tuple" = true then (if hm : memB cx.bl "isinstance" = true then (if hml : memB cx.bl "list" = true then (if hmt : memB cx.bl "tuple" = true then match mOp r b e with
    | some ⟨a, pa⟩ => by
      subst h h2
      exact some ⟨.op .isLT (.cons a .nil), fun {k X Z W P exv} g => se_isLT (Gl.of g.sc hg) (g.bl _ (memB_of hm)) (pa g) (pe_tyName (Gl.of g.sc hgl) (g.bl _ (memB_of hml)) bt_list (by decide +kernel) (by decide +kernel)) (pe_tyName (Gl.of g.sc hgt) (g.bl _ (memB_of hmt)) bt_tuple (by decide +kernel) (by decide +kernel)) (star1 hs _ _)⟩
    | none => none
    else none) else none) else none) else none) else none) else none) else none) else none) else none
  | _ => none
/-- .. beside a row of exceptions' classes -/
def mXs (cx : CX) (b : Bk) : (es : List Expr) → Option { tbs : List (List (Str × Bool)) // ∀ {k X Z W P exv}, Good cx k b X Z W P exv → ∃ cs cvs, XsOk X es tbs cs cvs }
  | [] => some ⟨[], fun {k X Z W P exv} g => ⟨[], [], xs_nil⟩⟩
  | .Name x p :: es => if ho : okN x = true then (if hg : glB b.sc x = true then match look cx.is x, mXs cx b es with
    | some ⟨tb, m⟩, some ⟨tbs, pt⟩ => some ⟨tb :: tbs, fun {k X Z W P exv} g => by
        obtain ⟨c, cv, h⟩ := g.is _ m
        obtain ⟨cs, cvs, r⟩ := pt g
        exact ⟨c :: cs, cv :: cvs, xs_cons h (pe_xi h (Gl.of g.sc hg) (okN3 ho) (okN1 ho)) r (star1 rfl _ _)⟩⟩
    | _, _ => none
    else none) else none
  | _ => none
def mIsinst1 (r : Cmp cx) (b : Bk) (p : Pos) (es : List Expr) (pos : Pos) : Option (RE cx b (.Call (.Name "isinstance" p) es [] pos)) := match es with
  | [e, .Name T q] => if hs : noStar e = true then (if hg : glB b.sc "isinstance" = true then (if hg2 : glB b.sc T = true then (if hm : memB cx.bl "isinstance" = true then (if ho : okN T = true then match look cx.is T, mOp r b e with
    | some ⟨tb, m⟩, some ⟨a, pa⟩ => some ⟨.op (.isEx tb) (.cons a .nil), fun {k X Z W P exv} g => by
        obtain ⟨c, cv, h⟩ := g.is _ m
        exact se_isEx h (Gl.of g.sc hg) (g.bl _ (memB_of hm)) (pa g) (pe_xi h (Gl.of g.sc hg2) (okN3 ho) (okN1 ho)) (star1 hs _ _)⟩
    | _, _ => none
    else none) else none) else none) else none) else none
  | [e, .Tuple es kk tpos] => if hs : noStar e = true then (if hg : glB b.sc "isinstance" = true then (if hm : memB cx.bl "isinstance" = true then (if hl : es.length ≤ 1000 then match mXs cx b es, mOp r b e with
    | some ⟨tbs, pt⟩, some ⟨a, pa⟩ => some ⟨.op (.isEx (tbOf ((tbs.headD []).map (·.1)) tbs)) (.cons a .nil), fun {k X Z W P exv} g => by
        obtain ⟨cs, cvs, h⟩ := pt g
        exact se_isExT h (fun n b e => tbOf_at e) hl (Gl.of g.sc hg) (g.bl _ (memB_of hm)) (pa g) (star1 hs _ _)⟩
    | _, _ => none
    else none) else none) else none) else none
  | _ => none
def mIsinst (r : Cmp cx) (b : Bk) (p : Pos) (es : List Expr) (pos : Pos) : Option (RE cx b (.Call (.Name "isinstance" p) es [] pos)) := match mIsinst0 r b p es pos with
  | some x => some x
  | none => mIsinst1 r b p es pos
def mBi (r : Cmp cx) (b : Bk) (x : Str) (p : Pos) (es : List Expr) (pos : Pos) : Option (RE cx b (.Call (.Name x p) es [] pos)) := match es with
  | [] => none
  | e :: es => if hg : glB b.sc x = true then (if hm : memB cx.bl x = true then (if ho : okN x = true then match mAo r b (e :: es) with
    | some ⟨as, hs, pa⟩ => (match biOf x with
      | some ⟨q, hb, hc⟩ => some ⟨.op q.1 as, fun {k X Z W P exv} g => se_bi (hc X g.calm g.hgd g.hu) (Gl.of g.sc hg) (g.bl _ (memB_of hm)) hb (pa g) (okN3 ho) (okN1 ho)
          (star1 (by rw [List.all_cons, Bool.and_eq_true] at hs; exact hs.1) _ _) (starN (by rw [List.all_cons, Bool.and_eq_true] at hs; exact hs.2) _ _).1⟩
      | none => (match tyOf x with
        | some ⟨q, hb, hc⟩ => some ⟨.op q.1 as, fun {k X Z W P exv} g => se_ty (hc X) (Gl.of g.sc hg) (g.bl _ (memB_of hm)) hb (pa g) (okN3 ho) (okN1 ho)
            (star1 (by rw [List.all_cons, Bool.and_eq_true] at hs; exact hs.1) _ _) (starN (by rw [List.all_cons, Bool.and_eq_true] at hs; exact hs.2) _ _).1⟩
        | none => none))
    | none => none
    else none) else none) else none
theorem passOf {exv : Nat → Value} {b : Bk} {X : Cx} {Z : Ct} {W : WX} {P : Env} (g : Good cx k b X Z W P exv) (ss : St) : PassesAt (L2.CX X.prog X.w) X ss (EW exv W ss) := passAt g.tk ss
/-- arguments: own trees are looked at where cx.vw says so -/
def mArg (r : Cmp cx) (b : Bk) : (e : Expr) → Option (RE cx b e)
  | .Name x pos => if memB cx.vw x = true then mPeek b x pos else r.e b (.Name x pos)
  | e => r.e b e
def mAc (r : Cmp cx) (b : Bk) : (es : List Expr) → Option (RA cx b es)
  | [] => some ⟨.nil, rfl, fun {k X Z W P exv} g => sa_nil⟩
  | e :: es => if hs : noStar e = true then match mArg r b e, mAc r b es with
    | some ⟨a, pa⟩, some ⟨as, hs2, pas⟩ => some ⟨.cons a as, by rw [List.all_cons, hs, hs2]; rfl, fun {k X Z W P exv} g => sa_cons (pa g) (pas g) (star1 hs es X.env)⟩
    | _, _ => none
    else none
def mFn (r : Cmp cx) (b : Bk) (x : Str) (p : Pos) (es : List Expr) (pos : Pos) : Option (RE cx b (.Call (.Name x p) es [] pos)) :=
  if hg : glB b.sc x = true then (if ho : okN x = true then match look cx.fs x with
    | some ⟨(f, none), m⟩ => (match es with
      | [] => some ⟨.call f .nil, fun {k X Z W P exv} g => by
          obtain ⟨a, fd, ps, F, hm, hk, hb⟩ := g.fs _ m
          exact se_call0 F g.rm g.hgd (Gl.of g.sc hg) hm hk hb (passOf g) (okN1 ho)⟩
      | e :: es => match mAc r b (e :: es) with
        | some ⟨as, hs, pa⟩ => some ⟨.call f as, fun {k X Z W P exv} g => by
            obtain ⟨a, fd, ps, F, hm, hk, hb⟩ := g.fs _ m
            rw [List.all_cons, Bool.and_eq_true] at hs
            exact se_call F g.rm g.hgd (Gl.of g.sc hg) hm hk hb (passOf g) (pa g) (okN1 ho) (star1 hs.1 _ _) (starN hs.2 _ _).1⟩
        | none => none)
    | some ⟨(f, some sh), m⟩ => (match es with
      | [] => some ⟨.frz (.call f .nil), fun {k X Z W P exv} g => by
          obtain ⟨a, fd, ps, F, hm, hk, hb⟩ := g.fs _ m
          exact se_frz (sn_call0 F g.rm g.hgd (Gl.of g.sc hg) hm hk hb (passOf g) (okN1 ho))⟩
      | e :: es => match mAc r b (e :: es) with
        | some ⟨as, hs, pa⟩ => some ⟨.frz (.call f as), fun {k X Z W P exv} g => by
            obtain ⟨a, fd, ps, F, hm, hk, hb⟩ := g.fs _ m
            rw [List.all_cons, Bool.and_eq_true] at hs
            exact se_frz (sn_call F g.rm g.hgd (Gl.of g.sc hg) hm hk hb (passOf g) (pa g) (okN1 ho) (star1 hs.1 _ _) (starN hs.2 _ _).1)⟩
        | none => none)
    | none => none
    else none) else none
theorem hC_app : ∀ y ds r, Mu.app.fn y ds = some r → isC y = true ∧ isC r.2 = true ∧ y ≠ hole := fun y ds r h => by
  have h : mApp y ds = some r := h
  unfold mApp at h
  split at h
  · split at h
    · cases h; exact ⟨rfl, rfl, fun z => nomatch z⟩
    · cases h
  · cases h
theorem hC_pop : ∀ y ds r, Mu.pop.fn y ds = some r → isC y = true ∧ isC r.2 = true ∧ y ≠ hole := fun y ds r h => by
  have h : mPop y ds = some r := h
  unfold mPop at h
  split at h
  · split at h
    · cases h; exact ⟨rfl, rfl, fun z => nomatch z⟩
    · cases h
  · cases h
theorem hC_popAt : ∀ y ds r, Mu.popAt.fn y ds = some r → isC y = true ∧ isC r.2 = true ∧ y ≠ hole := fun y ds r h => by
  have h : mPopAt y ds = some r := h
  unfold mPopAt at h
  split at h
  · split at h
    · split at h
      · cases h; exact ⟨rfl, rfl, fun z => nomatch z⟩
      · cases h
    · cases h
  · cases h
theorem hC_rev : ∀ y ds r, Mu.rev.fn y ds = some r → isC y = true ∧ isC r.2 = true ∧ y ≠ hole := fun y ds r h => by
  have h : mRev y ds = some r := h
  unfold mRev at h
  split at h
  · cases h; exact ⟨rfl, rfl, fun z => nomatch z⟩
  · cases h
theorem hC_clr : ∀ y ds r, Mu.clr.fn y ds = some r → isC y = true ∧ isC r.2 = true ∧ y ≠ hole := fun y ds r h => by
  have h : mClr y ds = some r := h
  unfold mClr at h
  split at h
  · cases h; exact ⟨rfl, rfl, fun z => nomatch z⟩
  · cases h
def muOf (x : Str) (n : Nat) : Option { q : Mu × String // PySem.Slot "list" x q.2 ∧ typeOf (.builtin q.2) = pure (.type "method_descriptor") ∧ (∀ X : Cx, MuP X q.2 q.1) ∧ (∀ y ds r, q.1.fn y ds = some r → isC y = true ∧ isC r.2 = true ∧ y ≠ hole) ∧ ∀ d, q.1.ty d = true → isLst d = true } :=
  if h : x = "append" then some ⟨(.app, "list.append"), by subst h; exact PySem.F.slot_list_append, PySem.F.type_list_append, fun X => u_app, hC_app, fun _ h => h⟩
  else if h : x = "pop" then (if n = 0 then some ⟨(.pop, "list.pop"), by subst h; exact PySem.F.slot_list_pop, PySem.F.type_list_pop, fun X => u_pop, hC_pop, fun _ h => h⟩ else some ⟨(.popAt, "list.pop"), by subst h; exact PySem.F.slot_list_pop, PySem.F.type_list_pop, fun X => u_popAt, hC_popAt, fun _ h => h⟩)
  else if h : x = "reverse" then some ⟨(.rev, "list.reverse"), by subst h; exact PySem.F.slot_list_reverse, PySem.F.type_list_reverse, fun X => u_rev, hC_rev, fun _ h => h⟩
  else if h : x = "clear" then some ⟨(.clr, "list.clear"), by subst h; exact PySem.F.slot_list_clear, PySem.F.type_list_clear, fun X => u_clr, hC_clr, fun _ h => h⟩
  else none
def mMut (r : Cmp cx) (b : Bk) (o : Expr) (name : Str) (ap : Pos) (es : List Expr) (pos : Pos) : Option (RE cx b (.Call (.Attribute o name ap) es [] pos)) :=
  if hn : noCall o = true then match r.p b o, muOf name es.length with
    | some ⟨p, pp⟩, some ⟨q, sl, ty, hq, hC, hT⟩ => if hl : (ap.endLine == pos.line) = true then (match es with
      | [] => some ⟨.mut p .z q.1 .nil, fun {k X Z W P exv} g => se_mut0 PySem.F.plainAttrs_list sl ty (hq X) hC (fun d s h => ty_lst d s (hT d h)) (pp g) (noCall_of hn _ _ _) hl⟩
      | e :: es => (match mA r b (e :: es) with
        | some ⟨as, hs, pa⟩ => if few : (e :: es).length < 30 then some ⟨.mut p .z q.1 as, fun {k X Z W P exv} g => se_mut PySem.F.plainAttrs_list sl ty (hq X) hC (fun d s h => ty_lst d s (hT d h)) (pp g) (pa g) (noCall_of hn _ _ _) (fewN hs few _ _) hl
            (star1 (by rw [List.all_cons, Bool.and_eq_true] at hs; exact hs.1) _ _) (starN (by rw [List.all_cons, Bool.and_eq_true] at hs; exact hs.2) _ _).1⟩ else none
        | none => none)) else none
    | _, _ => none
    else none
theorem ty_join {K : PySem.W.Frag} : ∀ d, Op.join.ty d = true → ∀ M H v, Dn K M H false d v → tyV K "str" v H := fun d h M H v dn => by
  cases d with
  | str x => cases dn; trivial
  | _ => cases h
theorem ty_split {K : PySem.W.Frag} : ∀ d, Op.split.ty d = true → ∀ M H v, Dn K M H false d v → tyV K "str" v H := fun d h M H v dn => by
  cases d with
  | str x => cases dn; trivial
  | _ => cases h
theorem ty_strip {K : PySem.W.Frag} : ∀ d, Op.strip.ty d = true → ∀ M H v, Dn K M H false d v → tyV K "str" v H := fun d h M H v dn => by
  cases d with
  | str x => cases dn; trivial
  | _ => cases h
def meOf (x : Str) : Option { q : Op × String × String // PlainAttrs q.2.1 ∧ PySem.Slot q.2.1 x q.2.2 ∧ typeOf (.builtin q.2.2) = pure (.type "method_descriptor") ∧ (∀ X : Cx, MtP X q.2.2 q.1.fresh q.1.fn) ∧ ∀ (K : PySem.W.Frag) d, q.1.ty d = true → ∀ M H v, Dn K M H false d v → tyV K q.2.1 v H } :=
  if h : x = "strip" then some ⟨(.strip, "str", "str.strip"), PySem.F.plainAttrs_str, by subst h; exact PySem.F.slot_str_strip, PySem.F.type_str_strip, fun X => o_strip, fun K => ty_strip⟩
  else if h : x = "join" then some ⟨(.join, "str", "str.join"), PySem.F.plainAttrs_str, by subst h; exact PySem.F.slot_str_join, PySem.F.type_str_join, fun X => o_join, fun K => ty_join⟩
  else if h : x = "split" then some ⟨(.split, "str", "str.split"), PySem.F.plainAttrs_str, by subst h; exact PySem.F.slot_str_split, PySem.F.type_str_split, fun X => o_split, fun K => ty_split⟩
  else none
def mMeth (r : Cmp cx) (b : Bk) (o : Expr) (name : Str) (ap : Pos) (es : List Expr) (pos : Pos) : Option (RE cx b (.Call (.Attribute o name ap) es [] pos)) :=
  if hn : noCall o = true then match es with
    | [] => none
    | e :: es => (match meOf name, mOp r b o, mAo r b (e :: es) with
      | some ⟨q, h1, h2, h3, h4, h5⟩, some ⟨a, pa⟩, some ⟨as, hs, pas⟩ => if hl : (ap.endLine == pos.line) = true then (if few : (e :: es).length < 30 then some ⟨.meth q.1 a as, fun {k X Z W P exv} g => se_meth h1 h2 h3 (h4 X) (h5 X.K) (pa g) (pas g) (noCall_of hn _ _ _) (fewN hs few _ _) hl
          (star1 (by rw [List.all_cons, Bool.and_eq_true] at hs; exact hs.1) _ _) (starN (by rw [List.all_cons, Bool.and_eq_true] at hs; exact hs.2) _ _).1⟩ else none) else none
      | _, _, _ => none)
    else none
def mSetlen (r : Cmp cx) (b : Bk) (p p2 q : Pos) (e : Expr) (pos : Pos) : Option (RE cx b (.Call (.Name "len" p) [.Call (.Name "set" p2) [e] [] q] [] pos)) :=
  if hs : noStar e = true then (if hg : glB b.sc "len" = true then (if hg2 : glB b.sc "set" = true then (if hm : memB cx.bl "len" = true then (if hm2 : memB cx.bl "set" = true then match mOp r b e with
    | some ⟨a, pa⟩ => some ⟨.op .setlen (.cons a .nil), fun {k X Z W P exv} g => se_setlen g.calm (Gl.of g.sc hg) (g.bl _ (memB_of hm)) (Gl.of g.sc hg2) (g.bl _ (memB_of hm2)) (pa g) (star1 hs _ _)⟩
    | none => none
    else none) else none) else none) else none) else none
def mLen (r : Cmp cx) (b : Bk) (x : Str) (p : Pos) (es : List Expr) (pos : Pos) : Option (RE cx b (.Call (.Name x p) es [] pos)) := match es with
  | [.Call (.Name y p2) [e] [] q] => if h : x = "len" then (if h2 : y = "set" then by subst h h2; exact mSetlen r b p p2 q e pos else none) else none
  | _ => none
def mExtF (r : Cmp cx) (b : Bk) (o : Expr) (name : Str) (ap : Pos) (es : List Expr) (pos : Pos) : Option (RE cx b (.Call (.Attribute o name ap) es [] pos)) := match es with
  | [e] => if h : name = "extend" then (if hn : noCall o = true then (if hs : noStar e = true then match r.p b o, r.n b (.o .z) e with
    | some ⟨p, pp⟩, some ⟨a, _, pa⟩ => if hl : (ap.endLine == pos.line) = true then some ⟨.extF p a, fun {k X Z W P exv} g => by
        subst h
        exact se_extF (pp g) (pa g) (noCall_of hn _ _ _) (fewN (by rw [List.all_cons, hs]; rfl) (by show 1 < 30; decide) _ _) hl (star1 hs _ _)⟩ else none
    | _, _ => none
    else none) else none) else none
  | _ => none
def orE {α : Type} (a b : Option α) : Option α := match a with
  | some x => some x
  | none => b
def mCall (r : Cmp cx) (b : Bk) : (f : Expr) → (es : List Expr) → (kw : List Keyword) → (pos : Pos) → Option (RE cx b (.Call f es kw pos))
  | .Name x p, es, [], pos => if h : x = "isinstance" then by subst h; exact mIsinst r b p es pos else orE (mFn r b x p es pos) (orE (mLen r b x p es pos) (mBi r b x p es pos))
  | .Attribute o name ap, es, [], pos => orE (mExtF r b o name ap es pos) (orE (mMut r b o name ap es pos) (mMeth r b o name ap es pos))
  | _, _, _, _ => none
/-! ### the rest -/
def mBool (r : Cmp cx) (b : Bk) (pos : Pos) : (op : PySem.BoolOp) → (es : List Expr) → Option (RE cx b (.BoolOp op es pos))
  | _, [] => none
  | op, [e] => match mOp r b e with
    | some ⟨a, pa⟩ => some ⟨a, fun {k X Z W P exv} g => pe_one (pa g)⟩
    | none => none
  | .And, e :: e2 :: es => match mOp r b e, mBool r b pos .And (e2 :: es) with
    | some ⟨a, pa⟩, some ⟨c, pc⟩ => some ⟨.and a c, fun {k X Z W P exv} g => se_and (pa g) (pc g)⟩
    | _, _ => none
  | .Or, e :: e2 :: es => match mOp r b e, mBool r b pos .Or (e2 :: es) with
    | some ⟨a, pa⟩, some ⟨c, pc⟩ => some ⟨.or a c, fun {k X Z W P exv} g => se_or (pa g) (pc g)⟩
    | _, _ => none
def mBoolW (r : Cmp cx) (b : Bk) (pos : Pos) : (op : PySem.BoolOp) → (es : List Expr) → Option (RW cx b (.BoolOp op es pos))
  | _, [] => none
  | .And, [e] => match r.t b e with
    | some ⟨a, pa⟩ => some ⟨a, fun {k X Z W P exv} g => pw_and1 (pa g)⟩
    | none => none
  | .Or, [e] => match r.t b e with
    | some ⟨a, pa⟩ => some ⟨a, fun {k X Z W P exv} g => pw_or1 (pa g)⟩
    | none => none
  | .And, e :: e2 :: es => match r.t b e, mBoolW r b pos .And (e2 :: es) with
    | some ⟨a, pa⟩, some ⟨c, pc⟩ => some ⟨.and a c, fun {k X Z W P exv} g => sw_and (pa g) (pc g)⟩
    | _, _ => none
  | .Or, e :: e2 :: es => match r.t b e, mBoolW r b pos .Or (e2 :: es) with
    | some ⟨a, pa⟩, some ⟨c, pc⟩ => some ⟨.or a c, fun {k X Z W P exv} g => sw_or (pa g) (pc g)⟩
    | _, _ => none
theorem pe_gd {X : Cx} {x : Str} {a : Addr} {p : Pos} (hg : Gl X x) (hm : X.mg x = some (.ref a)) (hdb : (x == ("__debug__" : Str)) = false) : PE X (.Name x p) (tC (.ref a)) := pe_glob hg hm rfl hdb
/-- a text among a written dict's keys -/
def mDin (r : Cmp cx) (b : Bk) (pos : Pos) (l : Expr) (op : CmpOp) (e : Expr) : Option (RE cx b (.Compare l [op] [e] pos)) := match op, e with
  | .In, .Name x p => if ho : okN x = true then (if hg : glB b.sc x = true then (if hm : behindInMarks .In (.Name x p) = false then match look cx.gd x, mOp r b l with
    | some ⟨kvs, m⟩, some ⟨a, pa⟩ => some ⟨.op (.dIn kvs false) (.cons a .nil), fun {k X Z W P exv} g => by
        obtain ⟨q, h1, h2⟩ := g.gd _ m
        exact se_din h2 (pa g) (pe_gd (Gl.of g.sc hg) h1 (okN1 ho)) hm⟩
    | _, _ => none
    else none) else none) else none
  | .NotIn, .Name x p => if ho : okN x = true then (if hg : glB b.sc x = true then (if hm : behindInMarks .NotIn (.Name x p) = false then match look cx.gd x, mOp r b l with
    | some ⟨kvs, m⟩, some ⟨a, pa⟩ => some ⟨.op (.dIn kvs true) (.cons a .nil), fun {k X Z W P exv} g => by
        obtain ⟨q, h1, h2⟩ := g.gd _ m
        exact se_dnin h2 (pa g) (pe_gd (Gl.of g.sc hg) h1 (okN1 ho)) hm⟩
    | _, _ => none
    else none) else none) else none
  | _, _ => none
def mDinT (r : Cmp cx) (b : Bk) (pos : Pos) (l : Expr) (op : CmpOp) (e : Expr) : Option (RT cx b (.Compare l [op] [e] pos)) := match op, e with
  | .In, .Name x p => if ho : okN x = true then (if hg : glB b.sc x = true then (if hm : behindInMarks .In (.Name x p) = false then match look cx.gd x, mOp r b l with
    | some ⟨kvs, m⟩, some ⟨a, pa⟩ => some ⟨.op (.dIn kvs false) (.cons a .nil), fun {k X Z W P exv} g => by
        obtain ⟨q, h1, h2⟩ := g.gd _ m
        exact st_din h2 (pa g) (pe_gd (Gl.of g.sc hg) h1 (okN1 ho)) hm⟩
    | _, _ => none
    else none) else none) else none
  | .NotIn, .Name x p => if ho : okN x = true then (if hg : glB b.sc x = true then (if hm : behindInMarks .NotIn (.Name x p) = false then match look cx.gd x, mOp r b l with
    | some ⟨kvs, m⟩, some ⟨a, pa⟩ => some ⟨.op (.dIn kvs true) (.cons a .nil), fun {k X Z W P exv} g => by
        obtain ⟨q, h1, h2⟩ := g.gd _ m
        exact st_dnin h2 (pa g) (pe_gd (Gl.of g.sc hg) h1 (okN1 ho)) hm⟩
    | _, _ => none
    else none) else none) else none
  | _, _ => none
def mDat (r : Cmp cx) (b : Bk) (pos : Pos) (l i : Expr) : Option (RE cx b (.Subscript l i pos)) := match l with
  | .Name x p => if ho : okN x = true then (if hg : glB b.sc x = true then (if hi : plainIx i = true then match look cx.gd x, mOp r b i with
    | some ⟨kvs, m⟩, some ⟨a, pa⟩ => some ⟨.op (.dAt kvs) (.cons a .nil), fun {k X Z W P exv} g => by
        obtain ⟨q, h1, h2⟩ := g.gd _ m
        exact se_dat h2 (pe_gd (Gl.of g.sc hg) h1 (okN1 ho)) (pa g) (plainIx_of hi)⟩
    | _, _ => none
    else none) else none) else none
  | _ => none
def mCmp (r : Cmp cx) (b : Bk) (pos : Pos) (l : Expr) (ops : List CmpOp) (rs : List Expr) : Option (RE cx b (.Compare l ops rs pos)) := match ops, rs with
  | [op], [e] => orE (mDin r b pos l op e) (if hm : behindInMarks op e = false then match mOp r b l, mOp r b e with
    | some ⟨a, pa⟩, some ⟨c, pc⟩ => some ⟨.op (cmpO op).1 (.cons a (.cons c .nil)), fun {k X Z W P exv} g => se_cmp ((cmpO op).2.1 X g.hu) (pa g) (pc g) hm⟩
    | _, _ => none
    else none)
  | [op, op'], [e, e'] => if hm : lastMarks [op, op'] [e, e'] = false then match mOp r b l, mOp r b e, mOp r b e' with
    | some ⟨a, pa⟩, some ⟨c, pc⟩, some ⟨d, pd⟩ => some ⟨.chain (cmpO op).1 (cmpO op').1 a c d, fun {k X Z W P exv} g => se_chain ((cmpO op).2.1 X g.hu) ((cmpO op').2.1 X g.hu) (cmpO op).2.2 (pa g) (pc g) (pd g) hm⟩
    | _, _, _ => none
    else none
  | _, _ => none
def mCmpT (r : Cmp cx) (b : Bk) (pos : Pos) (l : Expr) (ops : List CmpOp) (rs : List Expr) : Option (RT cx b (.Compare l ops rs pos)) := match ops, rs with
  | [op], [e] => orE (mDinT r b pos l op e) (if hm : behindInMarks op e = false then match mOp r b l, mOp r b e with
    | some ⟨a, pa⟩, some ⟨c, pc⟩ => some ⟨.op (cmpO op).1 (.cons a (.cons c .nil)), fun {k X Z W P exv} g => st_cmp ((cmpO op).2.1 X g.hu) (cmpO op).2.2 (pa g) (pc g) hm⟩
    | _, _ => none
    else none)
  | [op, op'], [e, e'] => if hm : lastMarks [op, op'] [e, e'] = false then match mOp r b l, mOp r b e, mOp r b e' with
    | some ⟨a, pa⟩, some ⟨c, pc⟩, some ⟨d, pd⟩ => some ⟨.chain (cmpO op).1 (cmpO op').1 a c d, fun {k X Z W P exv} g => st_chain ((cmpO op).2.1 X g.hu) ((cmpO op').2.1 X g.hu) (cmpO op).2.2 (cmpO op').2.2 (pa g) (pc g) (pd g) hm⟩
    | _, _, _ => none
    else none
  | _, _ => none
def mPart (r : Cmp cx) (b : Bk) : (e : Option Expr) → Option { c : C // ∀ {k X Z W P exv}, Good cx k b X Z W P exv → PO X e (fun σ H Q => At (kt X Z) W RO (ev P c) σ H Q) }
  | none => some ⟨.kst .none, fun {k X Z W P exv} g => po_no⟩
  | some e => match mOp r b e with
    | some ⟨a, pa⟩ => some ⟨.op .toi (.cons a .nil), fun {k X Z W P exv} g => po_so (pa g)⟩
    | none => none
/-- places -/
def mP (r : Cmp cx) (b : Bk) : (e : Expr) → Option (RPl cx b e)
  | .Name x pos => if ho : okN x = true then match slotOf cx.N x with
    | some ⟨i, hi⟩ => if hv : visB b.sc x = true then some ⟨.sl i, fun {k X Z W P exv} g => sp_sl (by rw [g.n]; exact hi) (by rw [g.sc]; exact visB_of hv) (okN1 ho) (okN2 ho)⟩ else none
    | none => none
    else none
  | .Attribute o f pos => if hn : noCall o = true then match r.p b o, look cx.tb f with
    | some ⟨p, pp⟩, some ⟨j, m⟩ => some ⟨.fld p j, fun {k X Z W P exv} g => sp_fld (pp g) (g.tb _ m) (noCall_of hn _ _ _)⟩
    | _, _ => none
    else none
  | .Subscript l i pos => if hi : plainIx i = true then match r.p b l, mOp r b i with
    | some ⟨p, pp⟩, some ⟨c, pc⟩ => some ⟨.ix p c, fun {k X Z W P exv} g => sp_ix (by have := g.hu; omega) (pp g) (pc g) (plainIx_of hi)⟩
    | _, _ => none
    else none
  | _ => none
/-- whether a thing is a tree's part -/
def isPl (cx : CX) : Nat → Expr → Bool
  | 0, _ => false
  | _ + 1, .Name x _ => memB cx.tr x
  | _ + 1, .Attribute _ _ _ => true
  | n + 1, .Subscript l _ _ => isPl cx n l
  | _, _ => false
def mPlE (r : Cmp cx) (b : Bk) (e : Expr) : Option (RE cx b e) := match r.p b e with
  | some ⟨p, pp⟩ => some ⟨.peek p, fun {k X Z W P exv} g => se_peek (pp g)⟩
  | none => none
def mSub (r : Cmp cx) (b : Bk) (pos : Pos) (l : Expr) : (i : Expr) → Option (RE cx b (.Subscript l i pos))
  | .Slice lo hi none p => match mOp r b l, mPart r b lo, mPart r b hi with
    | some ⟨a, pa⟩, some ⟨c, pc⟩, some ⟨d, pd⟩ => some ⟨.op Op.slice (.cons a (.cons c (.cons d .nil))), fun {k X Z W P exv} g => se_slice (pa g) (pc g) (pd g)⟩
    | _, _, _ => none
  | .Slice none none (some (.UnaryOp .USub (.Constant (.int 1) j p1) p2)) p3 => match mOp r b l with
    | some ⟨a, pa⟩ => some ⟨.op Op.rev (.cons a .nil), fun {k X Z W P exv} g => se_rev (pa g)⟩
    | none => none
  | i => if isPl cx 60 l = true then mPlE r b (.Subscript l i pos) else orE (mDat r b pos l i) (if hi : plainIx i = true then match mOp r b l, mOp r b i with
    | some ⟨a, pa⟩, some ⟨c, pc⟩ => some ⟨.op Op.idx (.cons a (.cons c .nil)), fun {k X Z W P exv} g => se_ix (o := Op.idx) (o_idx (by have := g.hu; omega)) (pa g) (pc g) (plainIx_of hi)⟩
    | _, _ => none
    else none)
def atOf : (e : Expr) → Option { d : D // AtE e d }
  | .Constant .none _ _ => some ⟨.none, .non⟩
  | .Constant (.bool z) _ _ => some ⟨.bool z, .bl⟩
  | .Constant (.int z) _ _ => some ⟨.int z, .int⟩
  | .Constant (.str z) _ _ => some ⟨.str z, .str⟩
  | _ => none
def keyOf : (e : Expr) → Option { q : Key // AtE e (keyD q) }
  | .Constant (.int z) _ _ => some ⟨.inl z, .int⟩
  | .Constant (.str z) _ _ => some ⟨.inr z, .str⟩
  | _ => none
def kvOf : (ks : List (Option Expr)) → (vs : List Expr) → Option { r : List (Key × D) // AtKV ks vs r }
  | [], [] => some ⟨[], .nil⟩
  | some a :: ks, v :: vs => match keyOf a, atOf v, kvOf ks vs with
    | some ⟨q, h1⟩, some ⟨d, h2⟩, some ⟨r, h3⟩ => some ⟨(q, d) :: r, .cons h1 h2 h3⟩
    | _, _, _ => none
  | _, _ => none
def mDct (b : Bk) (s : Sh) (pos : Pos) (ks : List (Option Expr)) (vs : List Expr) : Option (RN cx b (.o s) (.Dict ks vs pos)) := match kvOf ks vs with
  | some ⟨r, h⟩ => if hn : (r.map (·.1)).Nodup then (if few : r.length ≤ 15 then (if hs : s ≠ .i then some ⟨.dct r, fun P S x S' h => (dat_dct S x S' h).imp fun _ h => h.1, fun {k X Z W P exv} g => sn_dct hs h hn few⟩ else none) else none) else none
  | none => none
def mDctE (b : Bk) (pos : Pos) (ks : List (Option Expr)) (vs : List Expr) : Option (RE cx b (.Dict ks vs pos)) := match kvOf ks vs with
  | some ⟨r, h⟩ => if hn : (r.map (·.1)).Nodup then (if few : r.length ≤ 15 then some ⟨.dct r, fun {k X Z W P exv} g => se_dct h hn few⟩ else none) else none
  | none => none
/-! ### targets, walks, comprehensions -/
def mG (r : Cmp cx) (b : Bk) : (e : Expr) → Option (RG cx b e)
  | .Name x pos => match slotOf cx.N x with
    | some ⟨i, hi⟩ => if h : isLocal b.sc x = true then some ⟨.nm i, fun {k X Z W P exv} g => .nm (by rw [g.n]; exact hi) (.inl (by rw [g.sc]; exact isLocal_of h)) (.inr (by rw [g.sc]; exact isLocal_of h))⟩
      else if h : isCell b.sc x = true then (if hf : memB b.fnl x = true then some ⟨.nm i, fun {k X Z W P exv} g => .nm (by rw [g.n]; exact hi) (.inr (by rw [g.sc]; exact isCell_of h)) (.inl (g.fnl _ (memB_of hf)))⟩ else none) else none
    | none => none
  | .Tuple es n pos => match mGs es with
    | some ⟨ts, h⟩ => some ⟨.tp ts, fun {k X Z W P exv} g => .tp (h g)⟩
    | none => none
  | _ => none
where mGs : (es : List Expr) → Option (RGs cx b es)
  | [] => some ⟨[], fun {k X Z W P exv} g => .nil⟩
  | e :: es => match r.g b e, mGs es with
    | some ⟨t, h⟩, some ⟨ts, hs⟩ => some ⟨t :: ts, fun {k X Z W P exv} g => .cons (h g) (hs g)⟩
    | _, _ => none
def mEnum (r : Cmp cx) (b : Bk) (p : Pos) (es : List Expr) (pos : Pos) : (tg : Expr) → Option (RI' cx b tg (.Call (.Name "enumerate" p) es [] pos))
  | .Tuple elts kk tpos => if hg : glB b.sc "enumerate" = true then (if hm : memB cx.bl "enumerate" = true then match es with
    | [e] => if hs : noStar e = true then (match r.e b e with
      | some ⟨a, pa⟩ => some ⟨.enum a, fun {k X Z W P exv} g => si_enum (Gl.of g.sc hg) (g.bl _ (memB_of hm)) (pa g) (star1 hs _ _)⟩
      | none => none) else none
    | _ => none
    else none) else none
  | _ => none
def mZip (r : Cmp cx) (b : Bk) (p : Pos) (es : List Expr) (pos : Pos) : (tg : Expr) → Option (RI' cx b tg (.Call (.Name "zip" p) es [] pos))
  | .Tuple elts kk tpos => if hg : glB b.sc "zip" = true then (if hm : memB cx.bl "zip" = true then match es with
    | [e, f] => if hs : noStar e = true then (if hs2 : noStar f = true then (match r.e b e, r.e b f with
      | some ⟨a, pa⟩, some ⟨c, pc⟩ => some ⟨.zip (.cons a (.cons c .nil)), fun {k X Z W P exv} g => si_zip (Gl.of g.sc hg) (g.bl _ (memB_of hm)) (sa_cons (pa g) (sa_cons (pc g) sa_nil (star1 hs2 _ _)) (star1 hs _ _)) (by rw [star1 hs, star1 hs2]; rfl) (star1 hs2 _ _)⟩
      | _, _ => none) else none) else none
    | _ => none
    else none) else none
  | _ => none
def mItE (r : Cmp cx) (b : Bk) (tg e : Expr) : Option (RI' cx b tg e) := match mOp r b e with
  | some ⟨a, pa⟩ => some ⟨.seq a, fun {k X Z W P exv} g => si_seq (pa g)⟩
  | none => none
def mIt (r : Cmp cx) (b : Bk) (tg : Expr) : (e : Expr) → Option (RI' cx b tg e)
  | .Call (.Name x p) es [] pos => if h : x = "range" then (if hg : glB b.sc "range" = true then (if hm : memB cx.bl "range" = true then match es with
      | [e] => if hs : noStar e = true then (match mOp r b e with
        | some ⟨a, pa⟩ => some ⟨.rng (.cons a .nil), fun {k X Z W P exv} g => by
            subst h
            exact si_rng1 (Gl.of g.sc hg) (g.bl _ (memB_of hm)) (sa_cons (pa g) sa_nil (star1 hs _ _)) (star1 hs _ _)⟩
        | none => none) else none
      | [e, f] => if hs : noStar e = true then (if hs2 : noStar f = true then (match mOp r b e, mOp r b f with
        | some ⟨a, pa⟩, some ⟨c, pc⟩ => some ⟨.rng (.cons a (.cons c .nil)), fun {k X Z W P exv} g => by
            subst h
            exact si_rng2 (Gl.of g.sc hg) (g.bl _ (memB_of hm)) (sa_cons (pa g) (sa_cons (pc g) sa_nil (star1 hs2 _ _)) (star1 hs _ _)) (by rw [star1 hs, star1 hs2]; rfl) (star1 hs2 _ _)⟩
        | _, _ => none) else none) else none
      | _ => none
      else none) else none) else if h2 : x = "enumerate" then by subst h2; exact mEnum r b p es pos tg else if h3 : x = "zip" then by subst h3; exact mZip r b p es pos tg else mItE r b tg (.Call (.Name x p) es [] pos)
  | e => mItE r b tg e
def mTs (r : Cmp cx) (b : Bk) : (es : List Expr) → Option (RTs cx b es)
  | [] => some ⟨.nil, fun {k X Z W P exv} g => sts_nil⟩
  | [e] => match r.t b e with
    | some ⟨a, pa⟩ => some ⟨.cons a .nil, fun {k X Z W P exv} g => sts_one (pa g)⟩
    | none => none
  | _ => none
def ownOf (N : List Str) : List (Str × NameKind) → List (Str × Nat)
  | [] => []
  | (x, .local) :: r => (match slotOf N x with | some ⟨i, _⟩ => [(x, i)] | none => []) ++ ownOf N r
  | (x, .cell) :: r => (match slotOf N x with | some ⟨i, _⟩ => [(x, i)] | none => []) ++ ownOf N r
  | _ :: r => ownOf N r
def cellsOf : List (Str × NameKind) → List Str
  | [] => []
  | (x, .cell) :: r => x :: cellsOf r
  | _ :: r => cellsOf r
/-- a block's context -/
def Bk.sub (b : Bk) (sc : Scope) : Bk := { sc := relS sc b.sc, fnl := (cellsOf sc.names).filter fun x => isCell sc x }
theorem Good.blk {b : Bk} {X : Cx} {Z : Ct} {W : WX} {P : Env} {exv : Nat → Value} (g : Good cx k b X Z W P exv) (sc : Scope) (s : Shared) (H : Hp) (C : Addr) (cl : List (Str × Addr)) (fp : List Addr) : Good cx k (b.sub sc) (X.blk s H sc (compEnvC sc cl C X.env) fp) Z W0 P exv :=
  { n := g.n, nd := g.nd
    sc := by
      show relS sc X.env.scope = relS sc b.sc
      rw [g.sc]
    fnl := fun x hx => by
      have := (List.mem_filter.mp hx).2
      show (sc.names.lookup x == some .cell) = true
      rw [isCell_of this]
      rfl
    calm := g.calm, hgd := g.hgd, rm := g.rm, bl := g.bl, fs := g.fs, gs := g.gs, gd := g.gd, tb := g.tb, is := g.is
    tk := fun u s' ⟨a, B, sI, pins, σ, H, cls, d, e, I, nb, up, sky, na, os, ag, w⟩ => by
      obtain ⟨c, _, _, w⟩ := w
      exact w.elim }
structure LcP where
  vs : List Nat
  tg : Tg
  it : It
  cs : Cs
  el : C
def LcP.c (q : LcP) : C := .lc q.vs q.tg q.it q.cs q.el
def mLcP (r : Cmp cx) (b : Bk) (elt tg iter : Expr) (ifs : List Expr) (sc : Scope) : Option { q : LcP // noSet iter = true ∧ (∀ j ∈ slotsT q.tg, j ∈ q.vs) ∧ (∃ own : List (Str × Nat), q.vs = own.map (·.2) ∧ BlkOk cx.N b.sc sc own) ∧
    (∀ {k X Z W P exv}, Good cx k b X Z W P exv → PI X tg iter (tI (kt X Z) W (evIt P q.it))) ∧ (∀ {k X Z W P exv}, Good cx k (b.sub sc) X Z W P exv → TgE X tg q.tg) ∧ (∀ {k X Z W P exv}, Good cx k (b.sub sc) X Z W P exv → PTs X ifs (tT (kt X Z) W (evTs P q.cs))) ∧
    (∀ {k X Z W P exv}, Good cx k (b.sub sc) X Z W P exv → PE X elt (tE (kt X Z) W (ev P q.el))) } :=
  if h1 : noSet iter = true then (if h2 : blkC cx.N b.sc sc (ownOf cx.N sc.names) = true then match mIt r b tg iter, r.g (b.sub sc) tg, mTs r (b.sub sc) ifs, r.e (b.sub sc) elt with
    | some ⟨it, hi⟩, some ⟨t, ht⟩, some ⟨cs, hc⟩, some ⟨el, he⟩ => if h3 : ∀ j ∈ slotsT t, j ∈ (ownOf cx.N sc.names).map (·.2) then
        some ⟨⟨(ownOf cx.N sc.names).map (·.2), t, it, cs, el⟩, h1, h3, ⟨_, rfl, blkOk_by h2⟩, fun {k X Z W P exv} g => hi g, fun {k X Z W P exv} g => ht g, fun {k X Z W P exv} g => hc g, fun {k X Z W P exv} g => he g⟩ else none
    | _, _, _, _ => none
    else none) else none
theorem lc_pe {b : Bk} {X : Cx} {Z : Ct} {W : WX} {P : Env} {exv : Nat → Value} (g : Good cx k b X Z W P exv) {elt tg iter : Expr} {ifs : List Expr} {sc : Scope} {pos : Pos} {q : LcP} (h1 : noSet iter = true) (h3 : ∃ own : List (Str × Nat), q.vs = own.map (·.2) ∧ BlkOk cx.N b.sc sc own)
    (h4 : ∀ {k X Z W P exv}, Good cx k b X Z W P exv → PI X tg iter (tI (kt X Z) W (evIt P q.it))) (h5 : ∀ {k X Z W P exv}, Good cx k (b.sub sc) X Z W P exv → TgE X tg q.tg) (h6 : ∀ {k X Z W P exv}, Good cx k (b.sub sc) X Z W P exv → PTs X ifs (tT (kt X Z) W (evTs P q.cs)))
    (h7 : ∀ {k X Z W P exv}, Good cx k (b.sub sc) X Z W P exv → PE X elt (tE (kt X Z) W (ev P q.el))) :
    PE X (.ListComp elt [⟨tg, iter, ifs, 0⟩] sc pos) (tLc (tI (kt X Z) W (evIt P q.it)) (tGx (kt X Z) q.tg) (tT (kt X Z) W0 (evTs P q.cs)) (tE (kt X Z) W0 (ev P q.el)) q.vs) := by
  obtain ⟨own, e, ok⟩ := h3
  rw [e]
  exact pe_lc (wi := tI (kt X Z) W (evIt P q.it)) (g := tGx (kt X Z) q.tg) (tt := tT (kt X Z) W0 (evTs P q.cs)) (te := tE (kt X Z) W0 (ev P q.el)) g.calm g.nd (h4 g) (by rw [g.n, g.sc]; exact ok)
    (fun s H C cl fp => sg_tgx (X := X.blk s H sc (compEnvC sc cl C X.env) fp) g.calm g.nd (h5 (g.blk sc s H C cl fp))) (fun s H C cl fp => h6 (g.blk sc s H C cl fp)) (fun s H C cl fp => h7 (g.blk sc s H C cl fp)) fun x => noSet_of h1 _ x
theorem lc_ps {b : Bk} {X : Cx} {Z : Ct} {W : WX} {P : Env} {exv : Nat → Value} (g : Good cx k b X Z W P exv) {i : Nat} {y : Str} {py spos : Pos} {elt tg iter : Expr} {ifs : List Expr} {sc : Scope} {pos : Pos} {q : LcP} (h1 : noSet iter = true) (h3 : ∃ own : List (Str × Nat), q.vs = own.map (·.2) ∧ BlkOk cx.N b.sc sc own)
    (h4 : ∀ {k X Z W P exv}, Good cx k b X Z W P exv → PI X tg iter (tI (kt X Z) W (evIt P q.it))) (h5 : ∀ {k X Z W P exv}, Good cx k (b.sub sc) X Z W P exv → TgE X tg q.tg) (h6 : ∀ {k X Z W P exv}, Good cx k (b.sub sc) X Z W P exv → PTs X ifs (tT (kt X Z) W (evTs P q.cs)))
    (h7 : ∀ {k X Z W P exv}, Good cx k (b.sub sc) X Z W P exv → PE X elt (tE (kt X Z) W (ev P q.el))) (hy : cx.N[i]? = some y) (hl : isLocal b.sc y = true) (hk : b.sc.kind = .function) (hln : (py.line == pos.line) = true) (ha : (sc.names.any fun (n, k) => n == y && (k == .local || k == .cell)) = false) :
    PS X (.Assign [.Name y py] (.ListComp elt [⟨tg, iter, ifs, 0⟩] sc pos) spos) (tAsg (tLc (tI (kt X Z) W (evIt P q.it)) (tGx (kt X Z) q.tg) (tT (kt X Z) W0 (evTs P q.cs)) (tE (kt X Z) W0 (ev P q.el)) q.vs) (gName i)) := by
  obtain ⟨own, e, ok⟩ := h3
  rw [e]
  have hyl : X.env.scope.names.lookup y = some .local := by rw [g.sc]; exact isLocal_of hl
  exact ps_setLc (wi := tI (kt X Z) W (evIt P q.it)) (g := tGx (kt X Z) q.tg) (tt := tT (kt X Z) W0 (evTs P q.cs)) (te := tE (kt X Z) W0 (ev P q.el)) g.calm g.nd (by rw [g.n]; exact hy) hyl
    (sw_true (by rw [g.sc]; exact hk) hyl hln ha) (h4 g) (by rw [g.n, g.sc]; exact ok)
    (fun s H C cl fp => sg_tgx (X := X.blk s H sc (compEnvC sc cl C X.env) fp) g.calm g.nd (h5 (g.blk sc s H C cl fp))) (fun s H C cl fp => h6 (g.blk sc s H C cl fp)) (fun s H C cl fp => h7 (g.blk sc s H C cl fp)) fun x => noSet_of h1 _ x
theorem nr_lc {q : LcP} : ∀ (P : Env) S x S', ev P q.c S = .ok x S' → ∃ d, x = .d d := fun P S x S' h => (dat_lc S x S' h).imp fun _ h => h.1
def mLc (r : Cmp cx) (b : Bk) (pos : Pos) (elt : Expr) (gs : List Comprehension) (sc : Scope) : Option (RN cx b (.o .z) (.ListComp elt gs sc pos)) := match gs with
  | [⟨tg, iter, ifs, 0⟩] => (match mLcP r b elt tg iter ifs sc with
    | some ⟨q, h1, h2, h3, h4, h5, h6, h7⟩ => some ⟨q.c, nr_lc, fun {k X Z W P exv} g => (lc_pe g h1 h3 h4 h5 h6 h7).imp fun σ H Q h => lc_read h2 h⟩
    | none => none)
  | _ => none
def mT (r : Cmp cx) (b : Bk) : (e : Expr) → Option (RT cx b e)
  | .Compare l ops rs pos => mCmpT r b pos l ops rs
  | .UnaryOp .Not e pos => match r.t b e with
    | some ⟨a, pa⟩ => some ⟨.not a, fun {k X Z W P exv} g => st_not (pa g)⟩
    | none => none
  | .BoolOp op es pos => match mBoolW r b pos op es with
    | some ⟨a, pa⟩ => some ⟨a, fun {k X Z W P exv} g => (pa g).pt⟩
    | none => none
  | e => if hn : noTest e = true then match mOp r b e with
    | some ⟨a, pa⟩ => some ⟨a, fun {k X Z W P exv} g => st_truth (pa g) (noTest_of hn _)⟩
    | none => none
    else none
def mBin (r : Cmp cx) (b : Bk) (l : Expr) (op : Operator) (rr : Expr) (pos : Pos) : Option (RE cx b (.BinOp l op rr pos)) := match binO op, mOp r b l, mOp r b rr with
  | some ⟨o, ho⟩, some ⟨a, pa⟩, some ⟨c, pc⟩ => some ⟨.op o (.cons a (.cons c .nil)), fun {k X Z W P exv} g => se_bin (ho X) (pa g) (pc g)⟩
  | _, _, _ => none
theorem nr_own {a : C} : ∀ (P : Env) S x S', ev P (.own a) S = .ok x S' → ∃ d, x = .d d := fun P S x S' h => by
  rw [ev] at h
  cases e : ev P a S with
  | ok y s =>
    rw [e] at h
    cases y with
    | d d =>
      have h : (if isC d || atom d then Res.ok (Vl.d d) s else .stuck) = .ok x S' := h
      split at h
      · cases h; exact ⟨_, rfl⟩
      · cases h
    | _ => cases h
  | er c s => rw [e] at h; cases h
  | stuck => rw [e] at h; cases h
theorem nr_atm {a : C} : ∀ (P : Env) S x S', ev P (.atm a) S = .ok x S' → ∃ d, x = .d d := fun P S x S' h => by
  rw [ev] at h
  cases e : ev P a S with
  | ok y s =>
    rw [e] at h
    cases y with
    | d d =>
      have h : (if atom d then Res.ok (Vl.d d) s else .stuck) = .ok x S' := h
      split at h
      · cases h; exact ⟨_, rfl⟩
      · cases h
    | _ => cases h
  | er c s => rw [e] at h; cases h
  | stuck => rw [e] at h; cases h
theorem nr_lst {as : Cs} : ∀ (P : Env) S x S', ev P (.lst as) S = .ok x S' → ∃ d, x = .d d := fun P S x S' h => (dat_lst S x S' h).imp fun _ h => h.1
theorem nr_take {i : Nat} {sh : Sh} : ∀ (P : Env) S x S', ev P (.take i sh) S = .ok x S' → ∃ d, x = .d d := fun P S x S' h => by
  rw [ev] at h
  split at h
  · split at h
    · cases h; exact ⟨_, rfl⟩
    · cases h
  · cases h
theorem nr_ite {t a c : C} (ha : ∀ (P : Env) S x S', ev P a S = .ok x S' → ∃ d, x = .d d) (hc : ∀ (P : Env) S x S', ev P c S = .ok x S' → ∃ d, x = .d d) : ∀ (P : Env) S x S', ev P (.ite t a c) S = .ok x S' → ∃ d, x = .d d := fun P S x S' h => by
  rw [ev] at h
  cases e : ev P t S with
  | ok y s =>
    rw [e] at h
    simp only [Res.bind] at h
    split at h
    · exact ha _ _ _ _ h
    · exact hc _ _ _ _ h
    · cases h
  | er c s => rw [e] at h; cases h
  | stuck => rw [e] at h; cases h
def mBinN (r : Cmp cx) (b : Bk) (l : Expr) (op : Operator) (rr : Expr) (pos : Pos) : Option (RN cx b (.o .z) (.BinOp l op rr pos)) := match binF op, mOp r b l, mOp r b rr with
  | some ⟨o, hf, ho, hl⟩, some ⟨a, pa⟩, some ⟨c, pc⟩ => some ⟨.own (.op o (.cons a (.cons c .nil))), nr_own, fun {k X Z W P exv} g => sn_bin hf (ho X) hl (pa g) (pc g)⟩
  | _, _, _ => none
def mTyN (r : Cmp cx) (b : Bk) (x : Str) (p : Pos) (es : List Expr) (pos : Pos) : Option (RN cx b (.o .z) (.Call (.Name x p) es [] pos)) := match es with
  | [] => none
  | e :: es => if hg : glB b.sc x = true then (if hm : memB cx.bl x = true then (if ho : okN x = true then match mAo r b (e :: es), tyF x with
    | some ⟨as, hs, pa⟩, some ⟨q, hb, hf, hc, hl⟩ => some ⟨.own (.op q.1 as), nr_own, fun {k X Z W P exv} g => sn_ty hf (hc X) hl (Gl.of g.sc hg) (g.bl _ (memB_of hm)) hb (pa g) (okN3 ho) (okN1 ho)
          (star1 (by rw [List.all_cons, Bool.and_eq_true] at hs; exact hs.1) _ _) (starN (by rw [List.all_cons, Bool.and_eq_true] at hs; exact hs.2) _ _).1⟩
    | _, _ => none
    else none) else none) else none
def mBiN (r : Cmp cx) (b : Bk) (x : Str) (p : Pos) (es : List Expr) (pos : Pos) : Option (RN cx b (.o .z) (.Call (.Name x p) es [] pos)) := match es with
  | [] => none
  | e :: es => if hg : glB b.sc x = true then (if hm : memB cx.bl x = true then (if ho : okN x = true then match mAo r b (e :: es), biF x with
    | some ⟨as, hs, pa⟩, some ⟨q, hb, hf, hc, hl⟩ => some ⟨.own (.op q.1 as), nr_own, fun {k X Z W P exv} g => sn_bi hf (hc X g.calm g.hu) hl (Gl.of g.sc hg) (g.bl _ (memB_of hm)) hb (pa g) (okN3 ho) (okN1 ho)
          (star1 (by rw [List.all_cons, Bool.and_eq_true] at hs; exact hs.1) _ _) (starN (by rw [List.all_cons, Bool.and_eq_true] at hs; exact hs.2) _ _).1⟩
    | _, _ => none
    else none) else none) else none
/-- new things, held so -/
def mNl (b : Bk) (pos : Pos) (s : Sh) : (es : List Expr) → Option (RN cx b (.o s) (.List es pos))
  | [] => some ⟨.lst .nil, nr_lst, fun {k X Z W P exv} g => sn_nil⟩
  | _ => none
def mNz (r : Cmp cx) (b : Bk) : (e : Expr) → Option (RN cx b (.o .z) e)
  | .List es pos => match mA r b es with
    | some ⟨as, _, pa⟩ => some ⟨.lst as, nr_lst, fun {k X Z W P exv} g => sn_lst (pa g)⟩
    | none => none
  | .BinOp l op rr pos => mBinN r b l op rr pos
  | .ListComp elt gs sc pos => mLc r b pos elt gs sc
  | .Call (.Name x p) es [] pos => orE (mTyN r b x p es pos) (mBiN r b x p es pos)
  | _ => none
theorem nr_dd {a : C} : ∀ (P : Env) S x S', ev P (.dd a) S = .ok x S' → ∃ d, x = .d d := fun P S x S' h => by
  rw [ev] at h
  cases e : ev P a S with
  | ok y s =>
    rw [e] at h
    cases y with
    | d d => cases h; exact ⟨_, rfl⟩
    | _ => cases h
  | er c s => rw [e] at h; cases h
  | stuck => rw [e] at h; cases h
theorem nr_tupN {as : Cs} : ∀ (P : Env) S x S', ev P (.tupN as) S = .ok x S' → ∃ d, x = .d d := fun P S x S' h => by
  rw [tupN_ev] at h
  cases e : evs P as S with
  | ok xs s =>
    rw [e] at h
    simp only [Res.bind] at h
    split at h
    · split at h
      · cases h; exact ⟨_, rfl⟩
      · cases h
    · cases h
  | er c s => rw [e] at h; cases h
  | stuck => rw [e] at h; cases h
/-- a def's new thing -/
def mFnN (r : Cmp cx) (b : Bk) (s : Sh) (x : Str) (p : Pos) (es : List Expr) (pos : Pos) : Option (RN cx b (.o s) (.Call (.Name x p) es [] pos)) :=
  if hg : glB b.sc x = true then (if ho : okN x = true then match look cx.fs x with
    | some ⟨(f, some sh), m⟩ => if hs : sh = .o s then (match es with
      | [] => some ⟨.dd (.call f .nil), nr_dd, fun {k X Z W P exv} g => by
          subst hs
          obtain ⟨a, fd, ps, F, hm, hk, hb⟩ := g.fs _ m
          exact sn_dd (sn_call0 F g.rm g.hgd (Gl.of g.sc hg) hm hk hb (passOf g) (okN1 ho))⟩
      | e :: es => match mAc r b (e :: es) with
        | some ⟨as, hs', pa⟩ => some ⟨.dd (.call f as), nr_dd, fun {k X Z W P exv} g => by
            subst hs
            obtain ⟨a, fd, ps, F, hm, hk, hb⟩ := g.fs _ m
            rw [List.all_cons, Bool.and_eq_true] at hs'
            exact sn_dd (sn_call F g.rm g.hgd (Gl.of g.sc hg) hm hk hb (passOf g) (pa g) (okN1 ho) (star1 hs'.1 _ _) (starN hs'.2 _ _).1)⟩
        | none => none) else none
    | _ => none
    else none) else none
abbrev RNs (cx : CX) (b : Bk) (sh : Sh) (es : List Expr) := { as : Cs // ∀ {k X Z W P exv}, Good cx k b X Z W P exv → PA X es (tNs (kt X Z) W sh (evs P as)) }
def mNas (r : Cmp cx) (b : Bk) (sh : Sh) : (es : List Expr) → Option (RNs cx b sh es)
  | [] => some ⟨.nil, fun {k X Z W P exv} g => na_nil⟩
  | e :: es => if hs : noStar e = true then match r.n b sh e, mNas r b sh es with
    | some ⟨a, na, pa⟩, some ⟨as, pas⟩ => some ⟨.cons a as, fun {k X Z W P exv} g => na_cons (pa g) (na P) (pas g) (star1 hs es X.env)⟩
    | _, _ => none
    else none
def mNs (r : Cmp cx) (b : Bk) (s : Sh) : (e : Expr) → Option (RN cx b (.o s) e)
  | .Call (.Name x p) es [] pos => mFnN r b s x p es pos
  | .Tuple es n pos => match s with
    | .o s' => (match mNas r b (.o s') es with
      | some ⟨as, pa⟩ => some ⟨.tupN as, nr_tupN, fun {k X Z W P exv} g => sn_tup (pa g)⟩
      | none => none)
    | _ => none
  | .List es pos => mNl b pos s es
  | .Dict ks vs pos => mDct b s pos ks vs
  | .Constant c j pos => match mConst b c j pos with
    | some ⟨a, pa⟩ => some ⟨.atm a, nr_atm, fun {k X Z W P exv} g => sn_atm (pa g)⟩
    | none => none
  | .Name x pos => if ho : okN x = true then match slotOf cx.N x with
    | some ⟨i, hi⟩ => if hv : visB b.sc x = true then some ⟨.take i (.o s), nr_take, fun {k X Z W P exv} g => sn_take (by rw [g.n]; exact hi) (by rw [g.sc]; exact visB_of hv) (okN1 ho) (okN2 ho)⟩ else none
    | none => none
    else none
  | .IfExp t x y pos => match r.t b t, r.n b (.o s) x, r.n b (.o s) y with
    | some ⟨c, pc⟩, some ⟨a, na, pa⟩, some ⟨d, nd, pd⟩ => some ⟨.ite c a d, nr_ite na nd, fun {k X Z W P exv} g => sn_ite (pc g) (pa g) (pd g)⟩
    | _, _, _ => none
  | _ => none
def mN (r : Cmp cx) (b : Bk) : (sh : Sh) → (e : Expr) → Option (RN cx b sh e)
  | .o .z, e => orE (mNs r b .z e) (mNz r b e)
  | .o s, e => mNs r b s e
  | _, _ => none
theorem dat_cc {q : LcP} {P : Env} : ∀ S x S', ev P q.c S = .ok x S' → ∃ d, x = .d d ∧ d ≠ hole := fun S x S' h => (dat_lc S x S' h).imp fun _ h => ⟨h.1, h.2.2⟩
def mLcE (r : Cmp cx) (b : Bk) (pos : Pos) (elt : Expr) (gs : List Comprehension) (sc : Scope) : Option (RE cx b (.ListComp elt gs sc pos)) := match gs with
  | [⟨tg, iter, ifs, 0⟩] => (match mLcP r b elt tg iter ifs sc with
    | some ⟨q, h1, h2, h3, h4, h5, h6, h7⟩ => some ⟨q.c, fun {k X Z W P exv} g => (lc_pe g h1 h3 h4 h5 h6 h7).imp fun σ H Q h => lc_read h2 (tN_frz dat_cc h)⟩
    | none => none)
  | _ => none
def mE (r : Cmp cx) (b : Bk) : (e : Expr) → Option (RE cx b e)
  | .Name x pos => mName b x pos
  | .Constant c j pos => mConst b c j pos
  | .BoolOp op es pos => mBool r b pos op es
  | .BinOp l op rr pos => mBin r b l op rr pos
  | .UnaryOp .Not e pos => match mOp r b e with
    | some ⟨a, pa⟩ => some ⟨.not a, fun {k X Z W P exv} g => se_not (pa g)⟩
    | none => none
  | .UnaryOp .USub e pos => match mOp r b e with
    | some ⟨a, pa⟩ => some ⟨.op .neg (.cons a .nil), fun {k X Z W P exv} g => se_un o_neg rfl (pa g)⟩
    | none => none
  | .IfExp t x y pos => match r.t b t, r.e b x, r.e b y with
    | some ⟨c, pc⟩, some ⟨a, pa⟩, some ⟨d, pd⟩ => some ⟨.ite c a d, fun {k X Z W P exv} g => se_ite (pc g) (pa g) (pd g)⟩
    | _, _, _ => none
  | .Compare l ops rs pos => mCmp r b pos l ops rs
  | .Call f es kw pos => mCall r b f es kw pos
  | .Subscript l i pos => mSub r b pos l i
  | .Attribute o f pos => mPlE r b (.Attribute o f pos)
  | .List es pos => match mA r b es with
    | some ⟨as, _, pa⟩ => some ⟨.lst as, fun {k X Z W P exv} g => se_lst (pa g)⟩
    | none => none
  | .Tuple es n pos => match mA r b es with
    | some ⟨as, _, pa⟩ => some ⟨.tup as, fun {k X Z W P exv} g => se_tup (pa g)⟩
    | none => none
  | .Dict ks vs pos => mDctE b pos ks vs
  | .ListComp elt gs sc pos => mLcE r b pos elt gs sc
  | _ => none
end
def cmp0 (cx : CX) : Cmp cx := ⟨fun _ _ => none, fun _ _ _ => none, fun _ _ => none, fun _ _ => none, fun _ _ => none, fun _ _ => none⟩
def cmp (cx : CX) : Nat → Cmp cx
  | 0 => cmp0 cx
  | n + 1 => ⟨mE (cmp cx n), mN (cmp cx n), mP (cmp cx n), mT (cmp cx n), fun _ _ => none, mG (cmp cx n)⟩
end EV
end
section
set_option Elab.async false
set_option linter.all false
set_option maxRecDepth 100000
set_option maxHeartbeats 4000000
set_option autoImplicit false
/-! GN: from a def's text to core terms, statements; a def by its terms -/
namespace EV
open PySem L2
theorem noComp_sole {e : Expr} (h : noComp e = true) (t : Expr) (l : Nat) (env : PySem.Env) : swapsWithSole [t] e l env = pure false := noComp_of h (some t) l env
theorem assign_ix {i : Expr} (h : plainIx i = true) (o : Expr) (pos : Pos) (env : PySem.Env) (v : Value) : assign (.Subscript o i pos) env v = (do
      let ov ← holding [v] (eval o env)
      let iv ← holding [v, ov] (eval i env)
      standAt pos
      holding [v, ov, iv] (setItem ov iv v)
      release [v, ov, iv] []) := by
  cases i with
  | Slice _ _ _ _ => cases h
  | _ => rfl
/-- an exception's class, as the written part has it -/
def ExF (K : PySem.W.Frag) (mg : Str → Option Value) (v : Value) (x : Str) : Prop := ∃ (B : String) (newId initId : String) (bmB : List Value) (C : Addr), v = .ref C ∧ ExcBaseFacts B newId initId bmB ∧ PySem.W.excIn K C bmB newId = true ∧ mg x = some (.ref C) ∧ PySem.W.keepIn K (.ref C) = true ∧
  PySem.W.subIn K (.ref C) (.type "BaseException") = some true ∧ PySem.W.typeIn K (.ref C) = some (.type "type")
structure GoodS (cx : CX) (k : Nat) (b : Bk) (X : Cx) (Z : Ct) (W : WX) (P : Env) (exv : Nat → Value) : Prop where
  g : Good cx k b X Z W P exv
  pass : PassesOwn (model X.prog X.w) X.A X.env X.xe
  ex : ∀ p ∈ cx.ex, ExF X.K X.mg (exv p.2) p.1
  hd : ∀ p ∈ cx.hd, ∃ c, HdOk X.K X.mg exv p.1 p.2 c
  xs : X.stack = X.env :: X.outer
  xf : X.env.frame = some X.env.locals
  x0 : X.ex = []
theorem GoodS.pmk {cx : CX} {k : Nat} {b : Bk} {X : Cx} {Z : Ct} {W : WX} {P : Env} {exv : Nat → Value} (g : GoodS cx k b X Z W P exv) {x : Str} {c : Nat} (hm : (x, c) ∈ cx.ex) (hg : Gl X x) (hdb : (x == ("__debug__" : Str)) = false) (m : Str) (j : Nat) (p1 p2 pos : Pos) :
    PMk X (.Call (.Name x p1) [.Constant (.str m) j p2] [] pos) (fun _ H Q => Q (exv c) none H) := by
  obtain ⟨B, newId, initId, bmB, C, e0, e1, e2, e3, e4, e5, e6⟩ := g.ex _ hm
  have e0 : exv c = .ref C := e0
  rw [e0]
  exact pmk_own e1 e2 e3 e4 (raises_own e5 e6) hg hdb
/-- within a try's body -/
theorem GoodS.tr {cx : CX} {k : Nat} {b : Bk} {X : Cx} {Z : Ct} {W W' : WX} {P : Env} {exv : Nat → Value} (g : GoodS cx k b X Z W P exv) {pn : List (Addr × Obj)} {xe : Value → Shared → Prop} (tk : Takes (X.tr pn xe) (Wd exv W')) (pass : PassesOwn (model X.prog X.w) X.A X.env xe) : GoodS cx k b (X.tr pn xe) Z W' P exv :=
  { g := { n := g.g.n, nd := g.g.nd, sc := g.g.sc, fnl := g.g.fnl, calm := g.g.calm, hgd := g.g.hgd, rm := g.g.rm, bl := g.g.bl, fs := g.g.fs, gs := g.g.gs, gd := g.g.gd, tb := g.g.tb, is := g.g.is, tk := tk }
    pass := pass, ex := g.ex, hd := g.hd, xs := g.xs, xf := g.xf, x0 := g.x0 }
abbrev RS (cx : CX) (b : Bk) (s : Stmt) := { c : CS // ∀ {k X Z W P exv}, GoodS cx k b X Z W P exv → PS X s (tS (kt X Z) W cx.nw (exS P c)) }
abbrev RSs (cx : CX) (b : Bk) (s : List Stmt) := { c : CSs // ∀ {k X Z W P exv}, GoodS cx k b X Z W P exv → PSs X s (tS (kt X Z) W cx.nw (exs P c)) }
section
variable {cx : CX} {k : Nat}
def mSs {b : Bk} (st : ∀ s, Option (RS cx b s)) : (ss : List Stmt) → Option (RSs cx b ss)
  | [] => some ⟨.nil, fun {k X Z W P exv} g => pss_nil.imp fun D σ H h => r_nil h⟩
  | s :: ss => match st s, mSs st ss with
    | some ⟨c, pc⟩, some ⟨cs, ps⟩ => some ⟨.cons c cs, fun {k X Z W P exv} g => (pss_cons (pc g) (ps g)).imp fun D σ H h => r_cons h⟩
    | _, _ => none
/-- where a name may be stored -/
def stB (b : Bk) (x : Str) : Bool := isLocal b.sc x || (isCell b.sc x && memB b.fnl x)
theorem stB_of {b : Bk} {X : Cx} {Z : Ct} {W : WX} {P : Env} {exv : Nat → Value} (g : Good cx k b X Z W P exv) {x : Str} (h : stB b x = true) : Loc X.env.scope x ∧ (X.fn x = true ∨ X.env.scope.names.lookup x = some .local) := by
  unfold stB at h
  rw [Bool.or_eq_true, Bool.and_eq_true] at h
  rw [g.sc]
  rcases h with h | ⟨h, h2⟩
  · exact ⟨.inl (isLocal_of h), .inr (isLocal_of h)⟩
  · exact ⟨.inr (isCell_of h), .inl (g.fnl _ (memB_of h2))⟩
def mSet (r : Cmp cx) (b : Bk) (x : Str) (p : Pos) (e : Expr) (pos : Pos) : Option (RS cx b (.Assign [.Name x p] e pos)) := match slotOf cx.N x with
  | some ⟨i, hi⟩ => if hs : stB b x = true then (if hn : noComp e = true then (match look cx.own x with
      | some ⟨sh, _⟩ => (match r.n b sh e with
        | some ⟨a, _, pa⟩ => some ⟨.setO i sh a, fun {k X Z W P exv} g => (ps_set g.g.nd (by rw [g.g.n]; exact hi) (stB_of g.g hs).1 (pa g.g) (noComp_of hn _ _ _) (stB_of g.g hs).2).imp fun D σ H h => r_setO h⟩
        | none => none)
      | none => (match look cx.cel x with
        | some ⟨.o s, _⟩ => (match r.n b (.o s) e with
          | some ⟨a, _, pa⟩ => some ⟨.set i (.cell (.o s) a), fun {k X Z W P exv} g => (ps_set g.g.nd (by rw [g.g.n]; exact hi) (stB_of g.g hs).1 (se_cell (pa g.g)) (noComp_of hn _ _ _) (stB_of g.g hs).2).imp fun D σ H h => r_set h⟩
          | none => none)
        | _ => (match r.e b e with
          | some ⟨a, pa⟩ => some ⟨.set i a, fun {k X Z W P exv} g => (ps_set g.g.nd (by rw [g.g.n]; exact hi) (stB_of g.g hs).1 (pa g.g) (noComp_of hn _ _ _) (stB_of g.g hs).2).imp fun D σ H h => r_set h⟩
          | none => none))) else none) else none
  | none => none
theorem r_lcO {cx : CX} {i : Nat} {q : LcP} (h2 : ∀ j ∈ slotsT q.tg, j ∈ q.vs) {X : Cx} {Z : Ct} {W : WX} {P : Env} {D : Ends} {σ : St} {H : Hp} (h : tS (kt X Z) W cx.nw (exS P (.setO i (.o .z) q.c)) D σ H) :
    tAsg (tLc (tI (kt X Z) W (evIt P q.it)) (tGx (kt X Z) q.tg) (tT (kt X Z) W0 (evTs P q.cs)) (tE (kt X Z) W0 (ev P q.el)) q.vs) (gName i) D σ H := lc_read h2 (r_setO h)
theorem r_lc {cx : CX} {i : Nat} {q : LcP} (h2 : ∀ j ∈ slotsT q.tg, j ∈ q.vs) {X : Cx} {Z : Ct} {W : WX} {P : Env} {D : Ends} {σ : St} {H : Hp} (h : tS (kt X Z) W cx.nw (exS P (.set i q.c)) D σ H) :
    tAsg (tLc (tI (kt X Z) W (evIt P q.it)) (tGx (kt X Z) q.tg) (tT (kt X Z) W0 (evTs P q.cs)) (tE (kt X Z) W0 (ev P q.el)) q.vs) (gName i) D σ H := lc_read h2 (tN_frz dat_cc (r_set h))
/-- a comprehension for a cell: nothing is swapped -/
theorem swap_cell {x : Str} {py : Pos} {elt : Expr} {gs : List Comprehension} {sc : Scope} {pos : Pos} {l : Nat} {env : PySem.Env} (h : env.scope.names.lookup x = some .cell) : swapsWith (.ListComp elt gs sc pos) (some (.Name x py)) l env = pure false := by
  have e : env.kindOf x = some .cell := h
  have e2 : (NameKind.cell == NameKind.local) = false := rfl
  unfold swapsWith
  simp [e, e2]
def mSetLc (r : Cmp cx) (b : Bk) (x : Str) (p : Pos) (elt : Expr) (gs : List Comprehension) (sc : Scope) (lp : Pos) (pos : Pos) : Option (RS cx b (.Assign [.Name x p] (.ListComp elt gs sc lp) pos)) := match gs with
  | [⟨tg, iter, ifs, 0⟩] => (match slotOf cx.N x, mLcP r b elt tg iter ifs sc with
    | some ⟨i, hi⟩, some ⟨q, h1, h2, h3, h4, h5, h6, h7⟩ =>
      if hl : isLocal b.sc x = true then (if hk : b.sc.kind = .function then (if hln : (p.line == lp.line) = true then (if ha : (sc.names.any fun (n, k) => n == x && (k == .local || k == .cell)) = false then
        (if cx.own.any (fun y => decide (y.1 = x)) = true then some ⟨.setO i (.o .z) q.c, fun {k X Z W P exv} g => (lc_ps g.g h1 h3 h4 h5 h6 h7 hi hl hk hln ha).imp fun D σ H h => r_lcO h2 h⟩
        else some ⟨.set i q.c, fun {k X Z W P exv} g => (lc_ps g.g h1 h3 h4 h5 h6 h7 hi hl hk hln ha).imp fun D σ H h => r_lc h2 h⟩) else none) else none) else none)
      else (if hc : isCell b.sc x = true then (if hs : stB b x = true then
        (if cx.own.any (fun y => decide (y.1 = x)) = true then some ⟨.setO i (.o .z) q.c, fun {k X Z W P exv} g => (ps_set g.g.nd (by rw [g.g.n]; exact hi) (stB_of g.g hs).1 (lc_pe g.g h1 h3 h4 h5 h6 h7) (swap_cell (by rw [g.g.sc]; exact isCell_of hc)) (stB_of g.g hs).2).imp fun D σ H h => r_lcO h2 h⟩
        else some ⟨.set i q.c, fun {k X Z W P exv} g => (ps_set g.g.nd (by rw [g.g.n]; exact hi) (stB_of g.g hs).1 (lc_pe g.g h1 h3 h4 h5 h6 h7) (swap_cell (by rw [g.g.sc]; exact isCell_of hc)) (stB_of g.g hs).2).imp fun D σ H h => r_lc h2 h⟩) else none) else none)
    | _, _ => none)
  | _ => none
def mSetT (r : Cmp cx) (b : Bk) (es : List Expr) (n : Nat) (tp : Pos) (e : Expr) (pos : Pos) : Option (RS cx b (.Assign [.Tuple es n tp] e pos)) :=
  if h1 : noComp e = true then (if h2 : noTup e = true then match r.g b (.Tuple es n tp), r.e b e with
    | some ⟨.tp ts, ht⟩, some ⟨a, pa⟩ => some ⟨.setT ts a, fun {k X Z W P exv} g => (ps_asg (pa g.g) (sg_tgx g.g.calm g.g.nd (ht g.g)) (noComp_sole h1 _ _ _) (noTup_of h2 _ _ _ _) rfl).imp fun D σ H h => r_setT h⟩
    | _, _ => none
    else none) else none
/-- how a place's tree is held -/
def shOf (cx : CX) : Nat → Expr → Option Sh
  | 0, _ => none
  | _ + 1, .Name x _ => (match look cx.own x with
    | some ⟨sh, _⟩ => some sh
    | none => (match look cx.cel x with
      | some ⟨sh, _⟩ => some sh
      | none => some (.o .z)))
  | _ + 1, .Attribute _ f _ => (match look cx.tb f with
    | some ⟨j, _⟩ => some (fsh j)
    | none => none)
  | n + 1, .Subscript l _ _ => (match shOf cx n l with
    | some (.o s) => some s
    | _ => none)
  | _, _ => none
def mPut (r : Cmp cx) (b : Bk) (o : Expr) (i : Expr) (ip : Pos) (v : Expr) (pos : Pos) : Option (RS cx b (.Assign [.Subscript o i ip] v pos)) :=
  if hn : noComp v = true then (if hx : plainIx i = true then match r.p b o, mOp r b i, shOf cx 60 o with
    | some ⟨p, pp⟩, some ⟨a, pa⟩, some (.o (.o s)) => (match r.n b (.o s) v with
      | some ⟨c, nc, pc⟩ => some ⟨.put p (.o s) a c, fun {k X Z W P exv} g =>
          (ps_asg (pc g.g) (pg_sub (pp g.g) (pa g.g) (set_put (by have := g.g.hu; omega)) (assign_ix hx _ _ _)) (noComp_sole hn _ _ _) rfl rfl).imp fun D σ H h => r_putN h (nc P)⟩
      | none => none)
    | some ⟨p, pp⟩, some ⟨a, pa⟩, some (.o .r) => (match r.e b v with
      | some ⟨c, pc⟩ => some ⟨.put p .r a c, fun {k X Z W P exv} g =>
          (ps_asg (pc g.g) (pg_sub (pp g.g) (pa g.g) (set_put (by have := g.g.hu; omega)) (assign_ix hx _ _ _)) (noComp_sole hn _ _ _) rfl rfl).imp fun D σ H h => r_put (.inr rfl) h⟩
      | none => none)
    | some ⟨p, pp⟩, some ⟨a, pa⟩, some (.o .z) => (match r.e b v with
      | some ⟨c, pc⟩ => some ⟨.put p .z a c, fun {k X Z W P exv} g =>
          (ps_asg (pc g.g) (pg_sub (pp g.g) (pa g.g) (set_put (by have := g.g.hu; omega)) (assign_ix hx _ _ _)) (noComp_sole hn _ _ _) rfl rfl).imp fun D σ H h => r_put (.inl rfl) h⟩
      | none => none)
    | _, _, _ => none
    else none) else none
theorem noComp_fld {v : Expr} (h : noComp v = true) (o : Expr) (f : Str) (p : Pos) (l : Nat) (env : PySem.Env) : swapsWith v (some (.Attribute o f p)) l env = pure false := noComp_of h _ l env
def mSetF (r : Cmp cx) (b : Bk) (o : Expr) (f : Str) (fp : Pos) (v : Expr) (pos : Pos) : Option (RS cx b (.Assign [.Attribute o f fp] v pos)) :=
  if hn : noComp v = true then match r.p b o, look cx.tb f with
    | some ⟨p, pp⟩, some ⟨j, m⟩ => (if hz : fsh j = .z ∨ fsh j = .r then (match r.e b v with
        | some ⟨c, pc⟩ => some ⟨.setF p j c, fun {k X Z W P exv} g => (ps_fld (pp g.g) (pc g.g) (noComp_fld hn _ _ _ _ _)).imp fun D σ H h => r_setF (g.g.tb _ m) hz h⟩
        | none => none)
      else match hs : fsh j with
        | .o s => (match r.n b (.o s) v with
          | some ⟨c, nc, pc⟩ => some ⟨.setF p j c, fun {k X Z W P exv} g => (ps_fld (pp g.g) (pc g.g) (noComp_fld hn _ _ _ _ _)).imp fun D σ H h => r_setFN (g.g.tb _ m) hs h (nc P)⟩
          | none => none)
        | _ => none)
    | _, _ => none
    else none
def mRaise (b : Bk) (x : Str) (p1 : Pos) (m : Str) (j : Nat) (p2 pos pos' : Pos) : Option (RS cx b (.Raise (some (.Call (.Name x p1) [.Constant (.str m) j p2] [] pos)) none pos')) :=
  if ho : okN x = true then (if hg : glB b.sc x = true then match look cx.ex x with
    | some ⟨c, hm⟩ => some ⟨.raise c, fun {k X Z W P exv} g => (ps_raise g.g.calm g.g.tk (g.pmk hm (Gl.of g.g.sc hg) (okN1 ho) m j p1 p2 pos)).imp fun D σ H h => ⟨c, rfl, rfl, r_raise h⟩⟩
    | none => none
    else none) else none
/-- try: .. except C as n: y = n -/
def mTry (b : Bk) (st : ∀ s, Option (RS cx b s)) (body : List Stmt) (x n y m : Str) (np py pn pa pos' pos : Pos) : Option (RS cx b (.Try body [.ExceptHandler (some (.Name x np)) (some n) [.Assign [.Name y py] (.Name m pn) pa] pos'] [] [] pos)) :=
  if hmn : m = n then (if ho : okN x = true then (if ho2 : okN n = true then (if hg : glB b.sc x = true then (if hl : isLocal b.sc n = true then (if hl2 : isLocal b.sc y = true then match slotOf cx.N n, slotOf cx.N y, look cx.hd x, mSs st body with
    | some ⟨i, hi⟩, some ⟨j, hj⟩, some ⟨tb, mm⟩, some ⟨c, pc⟩ => some ⟨.tryK c tb i j, fun {k X Z W P exv} g => by
        subst hmn
        obtain ⟨hc, h0⟩ := g.hd _ mm
        exact ps_tryK g.x0 g.xs g.xf g.g.nd (by rw [g.g.n]; exact hi) (by rw [g.g.n]; exact hj) (by rw [g.g.sc]; exact isLocal_of hl) (by rw [g.g.sc]; exact isLocal_of hl2) (okN1 ho2) (okN2 ho2) h0 (Gl.of g.g.sc hg) (okN1 ho) g.g.tk
          fun W' pn xe tk pass => pc (g.tr tk pass)⟩
    | _, _, _, _ => none
    else none) else none) else none) else none) else none) else none
def mRet (r : Cmp cx) (b : Bk) (pos : Pos) (e : Expr) : Option (RS cx b (.Return (some e) pos)) :=
  match hw : cx.nw with
  | some sh => (match r.n b sh e with
    | some ⟨a, na, pa⟩ => some ⟨.ret a, fun {k X Z W P exv} g => (ps_ret (pa g.g)).imp fun D σ H h => r_retN2 (by rw [hw] at h; exact h) (na P)⟩
    | none => none)
  | none => (match cx.rc with
    | some (.o s) => (match r.n b (.o s) e with
      | some ⟨a, _, pa⟩ => some ⟨.ret (.cell (.o s) a), fun {k X Z W P exv} g => (ps_ret (se_cell (pa g.g))).imp fun D σ H h => r_ret (by rw [hw] at h; exact h)⟩
      | none => none)
    | _ => (match r.e b e with
      | some ⟨a, pa⟩ => some ⟨.ret a, fun {k X Z W P exv} g => (ps_ret (pa g.g)).imp fun D σ H h => r_ret (by rw [hw] at h; exact h)⟩
      | none => none))
def mRetN (b : Bk) (pos : Pos) : Option (RS cx b (.Return none pos)) :=
  match hw : cx.nw with
  | some (.o s) => some ⟨.retN, fun {k X Z W P exv} g => ps_retN.imp fun D σ H h => r_retNn (by rw [hw] at h; exact h)⟩
  | none => some ⟨.retN, fun {k X Z W P exv} g => ps_retN.imp fun D σ H h => r_retN (by rw [hw] at h; exact h)⟩
  | _ => none
def mAsg (r : Cmp cx) (b : Bk) (pos : Pos) : (t e : Expr) → Option (RS cx b (.Assign [t] e pos))
  | .Name x p, .ListComp elt gs sc lp => mSetLc r b x p elt gs sc lp pos
  | .Name x p, e => mSet r b x p e pos
  | .Tuple es n tp, e => mSetT r b es n tp e pos
  | .Subscript o i ip, v => mPut r b o i ip v pos
  | .Attribute o f fp, v => mSetF r b o f fp v pos
  | _, _ => none
def mS (r : Cmp cx) (b : Bk) (st : ∀ s, Option (RS cx b s)) : (s : Stmt) → Option (RS cx b s)
  | .Pass pos => some ⟨.pass, fun {k X Z W P exv} g => ps_pass.imp fun D σ H h => r_pass h⟩
  | .Break pos => some ⟨.brk, fun {k X Z W P exv} g => ps_break.imp fun D σ H h => r_brk h⟩
  | .Continue pos => some ⟨.cnt, fun {k X Z W P exv} g => ps_continue.imp fun D σ H h => r_cnt h⟩
  | .Expr (.Constant (.str x) j p) pos => some ⟨.pass, fun {k X Z W P exv} g => ps_doc.imp fun D σ H h => r_pass h⟩
  | .Expr e pos => if hn : noComp e = true then (match r.e b e with
    | some ⟨a, pa⟩ => some ⟨.expr a, fun {k X Z W P exv} g => (ps_expr (pa g.g) (noComp_of hn _ _ _)).imp fun D σ H h => r_expr h⟩
    | none => none) else none
  | .Return none pos => mRetN b pos
  | .Return (some e) pos => mRet r b pos e
  | .Assign [t] e pos => mAsg r b pos t e
  | .If t x y pos => match r.t b t, mSs st x, mSs st y with
    | some ⟨c, pc⟩, some ⟨a, pa⟩, some ⟨d, pd⟩ => some ⟨.ite c a d, fun {k X Z W P exv} g => (ps_if (pc g.g) (pa g) (pd g)).imp fun D σ H h => r_if h⟩
    | _, _, _ => none
  | .For tg iter body [] pos => if hs : noSet iter = true then (match r.g b tg, mIt r b tg iter, mSs st body with
    | some ⟨t, ht⟩, some ⟨it, hi⟩, some ⟨c, pc⟩ => some ⟨.for t it c, fun {k X Z W P exv} g => (ps_for g.pass g.g.calm (hi g.g) (sg_tgx g.g.calm g.g.nd (ht g.g)) (pc g) fun x => noSet_of hs _ x).imp fun D σ H h => r_for h⟩
    | _, _, _ => none) else none
  | .While t body [] pos => match r.t b t, mSs st body with
    | some ⟨c, pc⟩, some ⟨a, pa⟩ => some ⟨.while c a, fun {k X Z W P exv} g => (ps_while g.pass (pc g.g) (pa g)).imp fun D σ H h => r_while h⟩
    | _, _ => none
  | .Raise (some (.Call (.Name x p1) [.Constant (.str m) j p2] [] pos)) none pos' => mRaise b x p1 m j p2 pos pos'
  | .Try body [.ExceptHandler (some (.Name x np)) (some n) [.Assign [.Name y py] (.Name m pn) pa] pos'] [] [] pos => mTry b st body x n y m np py pn pa pos' pos
  | _ => none
end
def cmpS (cx : CX) (b : Bk) : Nat → (s : Stmt) → Option (RS cx b s)
  | 0, _ => none
  | n + 1, s => mS (cmp cx 64) b (cmpS cx b n) s
/-- a def's body -/
def body (cx : CX) (sc : Scope) (ss : List Stmt) : Option (RSs cx ⟨sc, cellsOf sc.names⟩ ss) := mSs (cmpS cx _ 64) ss
def bodyC (cx : CX) (sc : Scope) (ss : List Stmt) : Option CSs := (body cx sc ss).map (·.1)
end EV
end
section
set_option Elab.async false
set_option linter.all false
set_option maxRecDepth 100000
set_option maxHeartbeats 4000000
set_option autoImplicit false
/-! GP: a def by its terms -/
namespace EV
open PySem L2
section
variable {T : Kt} {G G' : Gh} {S S' : Ste} {σ σ' : St} {H H' : Hp} {E : List Addr}
/-- what a def leaves -/
def Gh.left (G : Gh) : Gh := { G with fs := fun _ => [] }
theorem left_px {t : Option Rt} {a : Addr} (h : a ∈ G.left.fpx t) : a ∈ G.fpx t := by
  cases t with
  | none => exact h
  | some t =>
    cases t with
    | s i => exact nomatch h
    | c n => exact h
theorem left_mw : ∀ a, MW G.left a → MW G a := fun a ⟨t, h⟩ => ⟨t, left_px h⟩
theorem left_mm : ∀ a, MM G.left a → MM G a := fun a h => h.imp (left_mw a) id
theorem Ok.leave (o : Ok T G S σ H) : Ok T G.left ⟨[], S.hp⟩ [] H := by
  have ge : ∀ t q, (⟨[], S.hp⟩ : Ste).get t = some q → S.get t = some q ∧ ∃ n, t = .c n := fun t q e => by
    cases t with
    | s i => cases (show (none : Option (Sh × D)) = some q from by simpa [Ste.get] using e)
    | c n => exact ⟨e, n, rfl⟩
  refine o.re rfl rfl rfl left_mw left_mm (fun i x e => ?_) (fun t sh x e => ?_) (fun t e => ?_) (fun t => ?_) (fun t t' a h h' => o.dj t t' a (left_px h) (left_px h')) (fun t a h => o.dA t a (left_px h))
  · simp at e
  · obtain ⟨e2, n, rfl⟩ := ge t _ e
    obtain ⟨v, h1, h2⟩ := o.own _ _ _ e2
    exact ⟨v, h1, h2⟩
  · cases t with
    | s i => rfl
    | c n => exact o.no (.c n) e
  · cases t with
    | none => exact o.nd none
    | some t =>
      cases t with
      | s i => exact List.nodup_nil
      | c n => exact o.nd (some (.c n))
theorem left_plus : (G.plus E).left = G.left.plus E := rfl
theorem enter_at {xs : List Vl} {n i : Nat} {y : Slot} (h : (xs.map Slot.v ++ List.replicate n .non)[i]? = some y) : (∃ x, xs[i]? = some x ∧ y = .v x) ∨ y = .non := by
  by_cases hi : i < xs.length
  · rw [List.getElem?_append_left (by simpa using hi), List.getElem?_map] at h
    cases e : xs[i]? with
    | none => rw [e] at h; cases h
    | some x => rw [e] at h; cases h; exact .inl ⟨x, rfl, rfl⟩
  · rw [List.getElem?_append_right (by simpa using Nat.le_of_not_lt hi), List.getElem?_replicate] at h
    split at h
    · cases h; exact .inr rfl
    · cases h
theorem VDs.get {xs : List Vl} {vs : List V} (h : VDs T G S σ H xs vs) : ∀ {i : Nat} {x : Vl}, xs[i]? = some x → ∃ v, vs[i]? = some v ∧ VD T G S σ H x v := by
  induction h with
  | nil => intro i x e; simp at e
  | cons a r ih =>
    intro i x e
    cases i with
    | zero => simp at e; subst e; exact ⟨_, rfl, a⟩
    | succ i => exact ih (by simpa using e)
theorem noPk_at : ∀ {xs : List Vl} {i : Nat} {x : Vl}, noPk xs = true → xs[i]? = some x → isPk x = false
  | [], _, _, _, e => by simp at e
  | x :: xs, 0, y, h, e => by
    simp at e
    subst e
    cases x <;> first | rfl | cases h
  | x :: xs, i + 1, y, h, e => by
    have h' : noPk xs = true := by cases x <;> first | exact h | cases h
    exact noPk_at h' (by simpa using e)
theorem enter_get {xs : List Vl} {n : Nat} {hp : List Cell} (t : Rt) : (⟨xs.map .v ++ List.replicate n .non, hp⟩ : Ste).get t = (⟨[], hp⟩ : Ste).get t ∧ (⟨xs.map .v ++ List.replicate n .non, hp⟩ : Ste).lkd t = (⟨[], hp⟩ : Ste).lkd t := by
  cases t with
  | c n => exact ⟨rfl, rfl⟩
  | s i =>
    unfold Ste.get Ste.lkd
    dsimp only
    cases e : (xs.map Slot.v ++ List.replicate n .non)[i]? with
    | none => simp
    | some y => rcases enter_at e with ⟨x, _, rfl⟩ | rfl <;> simp
theorem Ok.enter {hp : List Cell} (o : Ok T G ⟨[], hp⟩ [] H) {xs : List Vl} {vs : List V} (h : VDs T G ⟨[], hp⟩ [] H xs vs) (np : noPk xs = true) (n : Nat) :
    Ok T G ⟨xs.map .v ++ List.replicate n .non, hp⟩ (vs.map some ++ List.replicate n none) H := by
  have ln : xs.length = vs.length := VDs.length h
  refine ⟨by simp [ln], o.hlen, fun i x e => ?_, fun t sh x e => ?_, fun t e => o.no t (by rw [← (enter_get t).1]; exact e), o.nd, o.dj, o.dA, o.tr⟩
  · rcases enter_at e with ⟨y, e1, e2⟩ | e2
    · cases e2
      obtain ⟨v, h1, h2⟩ := h.get e1
      refine ⟨v, ?_, h2.sd (noPk_at np e1)⟩
      have hi : i < vs.length := (List.getElem?_eq_some_iff.mp h1).1
      rw [List.getElem?_append_left (by simpa using hi), List.getElem?_map, h1]
      rfl
    · cases e2
  · rw [(enter_get t).1] at e
    obtain ⟨v, h1, h2⟩ := o.own t sh x e
    cases t with
    | s i => cases (show (none : Option V) = some v from by simpa [rootV] using h1)
    | c n => exact ⟨v, h1, h2⟩
theorem Stp.leave {hp : List Cell} {rho : List Slot} {σ0 : St} (hl : ∀ n, (⟨rho, hp⟩ : Ste).lkd (.c n) = (⟨[], hp⟩ : Ste).lkd (.c n)) (s : Stp G ⟨rho, hp⟩ σ0 H G' S' σ' H') : Stp G ⟨[], hp⟩ [] H G'.left ⟨[], S'.hp⟩ [] H' := by
  refine ⟨s.io, s.A, fun a u e n => let ⟨h1, h2⟩ := s.mono a u e n; ⟨h1, fun z => h2 (left_mm a z)⟩, fun a u e n => let ⟨h1, h2⟩ := s.monoW a u e n; ⟨h1, fun z => h2 (left_mw a z)⟩, s.tm, s.anon, fun t q e => ?_, s.hid, s.tr⟩
  cases t with
  | s i => cases (show (none : Option (Sh × D)) = some q from by simpa [Ste.lkd] using e)
  | c n => exact s.lck (.c n) q e
end
def GvK (K : PySem.W.Frag) (d : D) (v : V) : Prop := ∀ M H, Dn K M H (gvB d) d v
structure Tab (P : Program) (w : World) (K : PySem.W.Frag) (Z : Ct) (mg : Str → Option Value) (base : Heap) (exv : Nat → Value) (consts : List D) (cx : CX) (k : Nat) (call : Nat → List Vl → List Cell → CRes) : Prop where
  bl : ∀ x ∈ cx.bl, mg x = none
  fs : ∀ p ∈ cx.fs, ∃ a fd ps, FnG P w K mg base (L2.CX P w) k a fd ps (spF ⟨K, Z⟩ exv p.2.2 (call p.2.1)) ∧ mg p.1 = some (.ref a) ∧ PySem.W.keepIn K (.ref a) = true ∧ Binds K fd ps []
  gs : ∀ p ∈ cx.gs, ∃ u v d, mg p.1 = some u ∧ RelV v u ∧ consts[p.2]? = some d ∧ GvK K d v
  ex : ∀ p ∈ cx.ex, ExF K mg (exv p.2) p.1
  gd : ∀ p ∈ cx.gd, ∃ a, mg p.1 = some (.ref a) ∧ KDs K w a p.2
  tb : ∀ p ∈ cx.tb, p ∈ Z.tb
  hd : ∀ p ∈ cx.hd, ∃ c, HdOk K mg exv p.1 p.2 c
  is : ∀ p ∈ cx.is, ∃ c cv, XiOk K mg p.1 p.2 c cv
theorem fn_ev {P : Program} {w : World} {K : PySem.W.Frag} {Z : Ct} {mg : Str → Option Value} {base : Heap} {exv : Nat → Value} {fs : List FunI} {meth : Nat → Nat → Option Nat} {consts : List D} {cx : CX} {k j : Nat} {f : Addr} {fd : FuncData} {x q : Str} {st : Stmt} {ps : List Str} {fi : FunI}
    (F : Fun K x q st f fd) (S : FnScope cx.N ps (defScope st)) (T : Tab P w K Z mg base exv consts cx k (callF fs meth consts k)) (hj : fs[j]? = some fi) (hn : fi.nslots = cx.N.length) (hp : fi.nparams = ps.length) (hw : cx.nw ≠ some .i)
    (hb : bodyC cx (defScope st) (defBody st) = some fi.body) :
    FnG P w K mg base (L2.CX P w) (k + 1) f fd ps (spF ⟨K, Z⟩ exv cx.nw (callF fs meth consts (k + 1) j)) := by
  unfold bodyC at hb
  cases eb : body cx (defScope st) (defBody st) with
  | none => rw [eb] at hb; cases hb
  | some z =>
    obtain ⟨lit, pz⟩ := z
    rw [eb] at hb
    have hlit : lit = fi.body := Option.some.inj hb
    have ev : ∀ xs hp, callF fs meth consts (k + 1) j xs hp = if xs.length = fi.nparams ∧ noPk xs = true then
        (match exs ⟨consts, callF fs meth consts k, callF fs meth consts (k - 1), meth⟩ fi.body ⟨xs.map .v ++ List.replicate (fi.nslots - xs.length) .non, hp⟩ with
        | .nx s => .ok (.d .none) s.hp
        | .rt x s => .ok x s.hp
        | .er c s => .er c s.hp
        | _ => .stuck) else .stuck := fun xs hp => by
      rw [callF]
      rw [hj] <;> rfl
    refine FnG.mk' F S (fun vs H Q E h => ?_) fun cd A out s H vs Q E room gd pr => ?_
    · obtain ⟨G, xs, hp', o, r, np, m⟩ := h
      rw [ev] at m
      by_cases hc : xs.length = fi.nparams ∧ noPk xs = true
      · rw [← VDs.length r, hc.1, hp]
      · rw [if_neg hc] at m
        exact m.elim
    · obtain ⟨G, xs, hp', o, r, np, m⟩ := pr
      rw [ev] at m
      by_cases hc : xs.length = fi.nparams ∧ noPk xs = true
      case neg => rw [if_neg hc] at m; exact m.elim
      rw [if_pos hc] at m
      have ln : xs.length = vs.length := VDs.length r
      have o2 := o.enter r hc.2 (fi.nslots - xs.length)
      have good : Good cx k ⟨defScope st, cellsOf (defScope st).names⟩ (cxOf (L2.CX P w) P w K mg base cx.N q (defScope st) f cd A out s H E) Z (fun c _ H' => E (exv c) none H') ⟨consts, callF fs meth consts k, callF fs meth consts (k - 1), meth⟩ exv :=
        { n := rfl, nd := S.nd, sc := rfl, fnl := fun _ _ => rfl, calm := rfl, hgd := gd, rm := room, bl := T.bl, fs := T.fs, gs := T.gs, gd := T.gd, tb := T.tb, is := T.is
          tk := Takes.imp (takes_of rfl rfl rfl rfl) fun c d σ H' h => by
            obtain ⟨i, rfl, rfl, h⟩ := h
            exact h }
      have goodS : GoodS cx k ⟨defScope st, cellsOf (defScope st).names⟩ (cxOf (L2.CX P w) P w K mg base cx.N q (defScope st) f cd A out s H E) Z (fun c _ H' => E (exv c) none H') ⟨consts, callF fs meth consts k, callF fs meth consts (k - 1), meth⟩ exv :=
        { g := good, pass := passes_of rfl, ex := T.ex, hd := T.hd, xs := rfl, xf := rfl, x0 := rfl }
      refine ⟨_, pz goodS, G, ⟨xs.map .v ++ List.replicate (fi.nslots - xs.length) .non, hp'⟩, ?_, ?_⟩
      · show Ok ⟨K, Z⟩ G _ (start cx.N vs) H
        unfold L2.start
        rw [← hn, ← ln]
        exact o2
      · have stp : ∀ {G' : Gh} {S' : Ste} {σ' : St} {H' : Hp}, Stp G ⟨xs.map .v ++ List.replicate (fi.nslots - xs.length) .non, hp'⟩ (start cx.N vs) H G' S' σ' H' → Stp G ⟨[], hp'⟩ [] H G'.left ⟨[], S'.hp⟩ [] H' := fun s => Stp.leave (hp := hp') (rho := xs.map .v ++ List.replicate (fi.nslots - xs.length) .non) (fun n => rfl) s
        rw [hlit]
        cases ex : exs ⟨consts, callF fs meth consts k, callF fs meth consts (k - 1), meth⟩ fi.body ⟨xs.map .v ++ List.replicate (fi.nslots - xs.length) .non, hp'⟩ with
        | nx S' =>
          rw [ex] at m
          cases hnw : cx.nw with
          | none =>
            rw [hnw] at m
            exact fun G' σ' H' o' s => m G'.left .non H' o'.leave (stp s) .non
          | some sh =>
            rw [hnw] at m
            obtain ⟨d, e, m⟩ := m
            cases e
            refine fun G' σ' H' o' s => m G'.left [] .non H' o'.leave (stp s) (stp s).mono (ot_atom (fun z => hw (by rw [hnw, z])) rfl)
        | rt x S' =>
          rw [ex] at m
          cases hnw : cx.nw with
          | none =>
            rw [hnw] at m
            exact fun G' σ' H' v o' s sd => m G'.left v H' o'.leave (stp s) (SD.anti (G := G') (G' := G'.left) rfl (left_mw (G := G')) (left_mm (G := G')) sd)
          | some sh =>
            rw [hnw] at m
            obtain ⟨d, e, m⟩ := m
            refine ⟨d, e, fun G' E' σ' H' v o' s k ot => m G'.left E' v H' o'.leave (stp s) (fun a u ha hn' => ?_) ?_⟩
            · obtain ⟨h1, h2⟩ := k a u ha hn'
              exact ⟨h1, fun z => h2 (left_mm (G := G'.plus E') a z)⟩
            · exact OT.anti (left_mm (G := G'.plus E')) _ _ _ _ ot
        | bk S' => rw [ex] at m; exact m.elim
        | ct S' => rw [ex] at m; exact m.elim
        | er c S' =>
          rw [ex] at m
          exact fun G' σ' H' o' s => m G'.left H' o'.leave (stp s)
        | stuck => rw [ex] at m; exact m.elim
end EV
end
section
set_option Elab.async false
set_option linter.all false
set_option maxRecDepth 100000
set_option maxHeartbeats 4000000
set_option autoImplicit false
/-! GQ: all defs of a text together; a law's end -/
namespace EV
open PySem L2
def cs : List C → Cs
  | [] => .nil
  | a :: r => .cons a (cs r)
def ss : List CS → CSs
  | [] => .nil
  | a :: r => .cons a (ss r)
structure DRow where
  nm : Str
  a : Addr
  fd : FuncData
  ps : List Str
  cx : CX
  st : Stmt
  fi : FunI
structure DOk (K : PySem.W.Frag) (Z : Ct) (mg : Str → Option Value) (fs : List FunI) (names : List (Str × Nat × Option Sh)) (gs ex : List (Str × Nat)) (bl : List Str) (gd : List (Str × List (Str × Str))) (tb : List (Str × Nat)) (hdl : List (Str × List (Nat × Str × Bool))) (isl : List (Str × List (Str × Bool))) (j : Nat) (r : DRow) : Prop where
  F : Fun K r.nm r.nm r.st r.a r.fd
  S : FnScope r.cx.N r.ps (defScope r.st)
  hm : mg r.nm = some (.ref r.a)
  bd : Binds K r.fd r.ps []
  fi : fs[j]? = some r.fi
  ns : r.fi.nslots = r.cx.N.length
  np : r.fi.nparams = r.ps.length
  nw : r.cx.nw ≠ some .i
  bdy : bodyC r.cx (defScope r.st) (defBody r.st) = some r.fi.body
  c1 : r.cx.fs = names
  c2 : r.cx.gs = gs
  c3 : r.cx.ex = ex
  c4 : r.cx.bl = bl
  c5 : r.cx.gd = gd
  c6 : r.cx.tb = tb
  c7 : r.cx.hd = hdl
  c8 : r.cx.is = isl
theorem lev {P : Program} {w : World} {K : PySem.W.Frag} {Z : Ct} {mg : Str → Option Value} {base : Heap} {exv : Nat → Value} {fs : List FunI} {meth : Nat → Nat → Option Nat} {consts : List D} {names : List (Str × Nat × Option Sh)} {gs ex : List (Str × Nat)} {bl : List Str} {gd : List (Str × List (Str × Str))} {tb : List (Str × Nat)} {hdl : List (Str × List (Nat × Str × Bool))} {isl : List (Str × List (Str × Bool))} {D : List DRow}
    (h : ∀ j r, D[j]? = some r → DOk K Z mg fs names gs ex bl gd tb hdl isl j r) (hn : ∀ p ∈ names, ∃ r, D[p.2.1]? = some r ∧ r.nm = p.1 ∧ r.cx.nw = p.2.2) (hb : ∀ x ∈ bl, mg x = none)
    (hg : ∀ p ∈ gs, ∃ u v d, mg p.1 = some u ∧ RelV v u ∧ consts[p.2]? = some d ∧ GvK K d v) (he : ∀ p ∈ ex, ExF K mg (exv p.2) p.1) (hd : ∀ p ∈ gd, ∃ a, mg p.1 = some (.ref a) ∧ KDs K w a p.2) (ht : ∀ p ∈ tb, p ∈ Z.tb) (hh : ∀ p ∈ hdl, ∃ c, HdOk K mg exv p.1 p.2 c) (hi : ∀ p ∈ isl, ∃ c cv, XiOk K mg p.1 p.2 c cv) :
    ∀ (k j : Nat) (r : DRow), D[j]? = some r → FnG P w K mg base (L2.CX P w) k r.a r.fd r.ps (spF ⟨K, Z⟩ exv r.cx.nw (callF fs meth consts k j)) := by
  intro k
  induction k with
  | zero =>
    intro j r hr
    refine ⟨fun vs H Q E z => ?_, fun A out s H args us vs Q E _ _ _ _ _ z => ?_⟩
    · obtain ⟨G, xs, hp, _, _, _, m⟩ := z
      rw [callF] at m
      exact m.elim
    · obtain ⟨G, xs, hp, _, _, _, m⟩ := z
      rw [callF] at m
      exact m.elim
  | succ k ih =>
    intro j r hr
    have o := h j r hr
    refine fn_ev o.F o.S ⟨by rw [o.c4]; exact hb, fun p hp => ?_, by rw [o.c2]; exact hg, by rw [o.c3]; exact he, by rw [o.c5]; exact hd, by rw [o.c6]; exact ht, by rw [o.c7]; exact hh, by rw [o.c8]; exact hi⟩ o.fi o.ns o.np o.nw o.bdy
    rw [o.c1] at hp
    obtain ⟨r', e1, e2, e3⟩ := hn p hp
    have o' := h _ _ e1
    exact ⟨r'.a, r'.fd, r'.ps, by rw [← e3]; exact ih _ _ e1, by rw [← e2]; exact o'.hm, o'.F.kp, o'.bd⟩
def SVals : List Str → List Value → Prop
  | [], [] => True
  | x :: xs, v :: vs => (∃ t, v = .str x t) ∧ SVals xs vs
  | _, _ => False
theorem SVals.vals : ∀ {xs : List Str} {vs : List Value}, SVals xs vs → Vals (xs.map V.str) vs
  | [], [], _ => .nil
  | _ :: _, _ :: _, ⟨⟨t, e⟩, r⟩ => .cons ⟨t, e⟩ (SVals.vals r)
  | [], _ :: _, h => h.elim
  | _ :: _, [], h => h.elim
/-- a written tuple of texts -/
theorem ktup_strs {K : PySem.W.Frag} {a : Addr} {d : Option Addr} {its : Array Value} {n : Nat} {sl : Array (Option Value)} {xs : List Str} (h : K.lookup a = some ⟨.type "tuple", d, .seq its n, sl⟩) (e : SVals xs its.toList) (z : its.size ≤ sizeLine) : GvK K (.tuple (xs.map .str)) (.ref a) := by
  intro M H
  have all : ∀ xs : List Str, DnL K M H (xs.map PyData.str) (xs.map V.str) := fun xs => by
    induction xs with
    | nil => exact .nil
    | cons x r ih => exact .cons (.str x) ih
  refine .tupK ⟨_, its, n, h, rfl, rfl, z, e.vals⟩ (fun q l => ?_) (all xs)
  match xs, q, l with
  | [_, _], q, _ => cases q
  | [], _, l => cases l
  | [_], _, l => cases l
  | _ :: _ :: _ :: _, _, l => simp at l
/-- what a law has to show: the core terms tell True -/
theorem law_pr {K : PySem.W.Frag} {Z : Ct} {exv : Nat → Value} {f : List Vl → List Cell → CRes} {n : Nat} (h : ∀ ns : List Int, ns.length ≤ n → ∃ hp', f [.d (.list (ns.map .int))] [] = .ok (.d (.bool true)) hp')
    (H : Hp) (a : Addr) (ns : List Int) (hl : ns.length ≤ n) (hS : SqL K H a (ns.map V.int)) : spF ⟨K, Z⟩ exv none f [.ref a] H (fun v _ => v = .bl true) fun _ _ _ => False := by
  obtain ⟨hp', e⟩ := h ns hl
  have nw : ∀ b, ¬ MW (⟨[], fun _ => [], fun _ => [], [], fun _ => False⟩ : Gh) b := fun b ⟨t, z⟩ => by
    cases t with
    | none => exact nomatch z
    | some t => cases t <;> exact nomatch z
  have nm : ∀ b, ¬ MM (⟨[], fun _ => [], fun _ => [], [], fun _ => False⟩ : Gh) b := fun b z => z.elim (nw b) id
  refine ⟨⟨[], fun _ => [], fun _ => [], [], fun _ => False⟩, [.d (.list (ns.map .int))], [], ⟨rfl, rfl, fun i x e => by simp at e, fun t sh x e => ?_, fun t e => by cases t <;> rfl, fun t => ?_, fun t t' b m _ => (nw b ⟨t, m⟩).elim, fun t b m => (nw b ⟨t, m⟩).elim, fun b m => m.elim (fun z => nomatch z) fun z => z.elim⟩, .cons ?_ .nil, rfl, ?_⟩
  · cases t with
    | s i => cases (show (none : Option (Sh × D)) = some (sh, x) from by simpa [Ste.get] using e)
    | c i => cases (show (none : Option (Sh × D)) = some (sh, x) from by simpa [Ste.get] using e)
  · cases t with
    | none => exact List.nodup_nil
    | some t => cases t <;> exact List.nodup_nil
  · have allI : ∀ ns : List Int, DnL K (MM (⟨[], fun _ => [], fun _ => [], [], fun _ => False⟩ : Gh)) H (ns.map PyData.int) (ns.map V.int) := fun ns => by
      induction ns with
      | nil => exact .nil
      | cons i r ih => exact .cons (.int i) ih
    show Dn K _ H true _ _
    rcases hS with r | r
    · exact .lst r (fun _ => nm a) (allI ns)
    · exact .lstK r (allI ns)
  · rw [e]
    intro G' v H' o st sd
    have sd : Dn K (MM G') H' true (.bool true) v := sd
    cases sd
    rfl
theorem no_exc {P : Program} {w : World} {H : Hp} {s : Shared} {e : Value} {s' : Shared} : L2.CX P w [] H s (fun _ _ _ => False) e s' → False := fun ⟨_, _, _, _, _, _, _, _, _, _, _, _, z⟩ => z
/-- the error classes, as the written part names them -/
def exK (K : PySem.W.Frag) (names : List Str) : Nat → Value := fun c => match names[c]? with
  | some x => (match PySem.W.nsIn K mainGlobals x with
    | some (some v) => v
    | _ => .none)
  | none => .none
theorem exK_at {K : PySem.W.Frag} {names : List Str} {c : Nat} {x : Str} {v : Value} (h : names[c]? = some x) (e : PySem.W.nsIn K mainGlobals x = some (some v)) : exK K names c = v := by
  unfold exK
  simp only [h, e]
theorem exF_mk {K : PySem.W.Frag} {mg : Str → Option Value} {x : Str} {v : Value} {C : Addr} (hv : v = .ref C) (hm : mg x = some (.ref C)) (hx : PySem.W.excIn K C [.type "ValueError", .type "Exception", .type "BaseException", .type "object"] "ValueError.__new__" = true)
    (hk : PySem.W.keepIn K (.ref C) = true) (hs : PySem.W.subIn K (.ref C) (.type "BaseException") = some true) (ht : PySem.W.typeIn K (.ref C) = some (.type "type")) : ExF K mg v x :=
  ⟨_, _, _, _, C, hv, PySem.F.excBase_ValueError, hx, hm, hk, hs, ht⟩
theorem xok_mk {K : PySem.W.Frag} {C : Addr} (a1 : PySem.W.findIn K (.ref C) "__getattribute__" = some (some (.builtin "BaseException.__getattribute__"))) (a2 : PySem.W.findIn K (.ref C) "__getattr__" = some none) (a3 : PySem.W.subIn K (.ref C) (.type "BaseException") = some true) (a4 : PySem.W.hasDictIn K C = true) (a5 : PySem.W.findIn K (.ref C) "__class__" = some (some (.builtin "object.__class__")))
    (a6 : PySem.W.specialIn K (.builtin "object.__class__") "__get__" = some (some (.builtin "getset_descriptor.__get__"))) (a7 : PySem.W.takesIn K (.builtin "object.__class__") = some true) (a8 : PySem.W.mroIn K C (.type "object") = some true)
    (f0 : PySem.W.kitOne K (.ref C) (.type "str") = some false) (f1 : PySem.W.kitOne K (.ref C) (.type "int") = some false) (f2 : PySem.W.kitOne K (.ref C) (.type "bool") = some false) (f3 : PySem.W.kitOne K (.ref C) (.type "list") = some false) (f4 : PySem.W.kitOne K (.ref C) (.type "tuple") = some false) (f5 : PySem.W.kitOne K (.ref C) (.type "dict") = some false) : XOk K C :=
  ⟨⟨a1, a2, a3, a4, a5, a6, a7, a8⟩, fun T h => by
    simp only [List.mem_cons, List.not_mem_nil, or_false] at h
    rcases h with rfl | rfl | rfl | rfl | rfl | rfl
    · exact f0
    · exact f1
    · exact f2
    · exact f3
    · exact f4
    · exact f5⟩
theorem xi_ex {K : PySem.W.Frag} {cv : Value} : ∀ {tb : List (Str × Bool)}, (∀ p ∈ tb, ∃ C, PySem.W.nsIn K mainGlobals p.1 = some (some (.ref C)) ∧ PySem.W.kitOne K (.ref C) cv = some p.2) → ∀ n b C, tb.lookup n = some b → PySem.W.nsIn K mainGlobals n = some (some (.ref C)) → PySem.W.kitOne K (.ref C) cv = some b
  | [], _, n, b, C, h, _ => by cases h
  | p :: tb, hp, n, b, C, h, hC => by
    rw [List.lookup_cons] at h
    cases e : (n == p.1) with
    | true =>
      rw [e] at h
      cases h
      obtain ⟨C', e1, e2⟩ := hp p List.mem_cons_self
      rw [eq_of_beq e, e1] at hC
      cases hC
      exact e2
    | false =>
      rw [e] at h
      exact xi_ex (fun q hq => hp q (List.mem_cons_of_mem _ hq)) n b C h hC
theorem xi_own {K : PySem.W.Frag} {mg : Str → Option Value} {x : Str} {tb : List (Str × Bool)} {y : Addr} (hm : mg x = some (.ref y)) (nn : PySem.W.kitOne K (.type "NoneType") (.ref y) = some false) (ex : ∀ n b C, tb.lookup n = some b → PySem.W.nsIn K mainGlobals n = some (some (.ref C)) → PySem.W.kitOne K (.ref C) (.ref y) = some b) : XiOk K mg x tb (.ref y) (.ref y) :=
  ⟨.inl hm, rfl, fun u h => h, nn, ex⟩
theorem xi_bt {K : PySem.W.Frag} {mg : Str → Option Value} {x : Str} {tb : List (Str × Bool)} {t : String} (hm : mg x = none) (hb : bootBuiltins x = some (.type t)) (nn : PySem.W.kitOne K (.type "NoneType") (.type t) = some false) (ex : ∀ n b C, tb.lookup n = some b → PySem.W.nsIn K mainGlobals n = some (some (.ref C)) → PySem.W.kitOne K (.ref C) (.type t) = some b) : XiOk K mg x tb (.ty t) (.type t) :=
  ⟨.inr ⟨hm, hb⟩, rfl, fun u h => h, nn, ex⟩
/-- no classes -/
def Z0 : Ct := ⟨fun _ => 0, []⟩
/-- a law's promise, with its text's own error classes -/
abbrev spX (K : PySem.W.Frag) (Z : Ct) (names : List Str) (f : List Vl → List Cell → CRes) : Sp := spF ⟨K, Z⟩ (exK K names) none f
end EV
end
section
set_option Elab.async false
set_option linter.all false
set_option maxRecDepth 100000
set_option maxHeartbeats 4000000
set_option autoImplicit false
/-! GR: what the core terms of a law's draws come to -/
namespace EV
open PySem
/-! ### running -/
section
variable {P : Env} {S : Ste}
@[simp] theorem cs_nil : cs [] = .nil := rfl
@[simp] theorem cs_cons {a : C} {r : List C} : cs (a :: r) = .cons a (cs r) := rfl
@[simp] theorem ss_nil : ss [] = .nil := rfl
@[simp] theorem ss_cons {a : CS} {r : List CS} : ss (a :: r) = .cons a (ss r) := rfl
@[simp] theorem bind_ok {α β : Type} {a : α} {s : Ste} {f : α → Ste → Res β} : (Res.ok a s).bind f = f a s := rfl
@[simp] theorem bind_er {α β : Type} {c : Nat} {s : Ste} {f : α → Ste → Res β} : (Res.er c s : Res α).bind f = .er c s := rfl
@[simp] theorem map_ok {α β : Type} {a : α} {s : Ste} {f : Ste → Ste} {g : α → β} : (Res.ok a s).map f g = .ok (g a) (f s) := rfl
@[simp] theorem map_er {α β : Type} {c : Nat} {s : Ste} {f : Ste → Ste} {g : α → β} : (Res.er c s : Res α).map f g = .er c (f s) := rfl
@[simp] theorem out_ok {α : Type} {a : α} {s : Ste} {f : α → Ste → Out} : (Res.ok a s).out f = f a s := rfl
@[simp] theorem out_er {α : Type} {c : Nat} {s : Ste} {f : α → Ste → Out} : (Res.er c s : Res α).out f = .er c s := rfl
@[simp] theorem of_some {α : Type} {a : α} {s : Ste} : Res.of (some a) s = .ok a s := rfl
/-! locks -/
@[simp] theorem held_d {α : Type} {x : D} {f : Ste → Res α} : (Vl.d x).held S f = f S := rfl
@[simp] theorem held_r {α : Type} {n : Nat} {f : Ste → Res α} : (Vl.r n).held S f = f S := rfl
@[simp] theorem held_w {α : Type} {x : D} {f : Ste → Res α} : (Vl.w x).held S f = f S := rfl
@[simp] theorem held_k {α : Type} {x : D} {f : Ste → Res α} : (Vl.k x).held S f = f S := rfl
@[simp] theorem held_pk {α : Type} {t : Rt} {p : List Nat} {f : Ste → Res α} : (Vl.pk t p).held S f = S.held t f := rfl
@[simp] theorem held_st {α : Type} {t : Rt} {f : Ste → Res α} : S.held t f = (f (S.lock t)).map (fun s => s.unlock t (S.free t)) id := rfl
@[simp] theorem lock_s {i : Nat} {rho : List Slot} {hp : List Cell} : (⟨rho, hp⟩ : Ste).lock (.s i) = match rho[i]? with
    | some (.own sh x) => ⟨rho.set i (.lck sh x), hp⟩
    | _ => ⟨rho, hp⟩ := rfl
@[simp] theorem lock_c {n : Nat} {rho : List Slot} {hp : List Cell} : (⟨rho, hp⟩ : Ste).lock (.c n) = match hp[n]? with
    | some (.live sh x) => ⟨rho, hp.set n (.lk sh x)⟩
    | _ => ⟨rho, hp⟩ := rfl
@[simp] theorem unlock_f {t : Rt} : S.unlock t false = S := rfl
@[simp] theorem unlock_s {i : Nat} {rho : List Slot} {hp : List Cell} : (⟨rho, hp⟩ : Ste).unlock (.s i) true = match rho[i]? with
    | some (.lck sh x) => ⟨rho.set i (.own sh x), hp⟩
    | _ => ⟨rho, hp⟩ := rfl
@[simp] theorem unlock_c {n : Nat} {rho : List Slot} {hp : List Cell} : (⟨rho, hp⟩ : Ste).unlock (.c n) true = match hp[n]? with
    | some (.lk sh x) => ⟨rho, hp.set n (.live sh x)⟩
    | _ => ⟨rho, hp⟩ := rfl
@[simp] theorem free_sl {i : Nat} {rho : List Slot} {hp : List Cell} : (⟨rho, hp⟩ : Ste).free (.s i) = match rho[i]? with
    | some (.own _ _) => true
    | _ => false := rfl
@[simp] theorem free_cl {n : Nat} {rho : List Slot} {hp : List Cell} : (⟨rho, hp⟩ : Ste).free (.c n) = match hp[n]? with
    | some (.live _ _) => true
    | _ => false := rfl
@[simp] theorem get_sl {i : Nat} {rho : List Slot} {hp : List Cell} : (⟨rho, hp⟩ : Ste).get (.s i) = match rho[i]? with
    | some (.own sh x) => some (sh, x)
    | some (.lck sh x) => some (sh, x)
    | _ => none := rfl
@[simp] theorem get_cl {n : Nat} {rho : List Slot} {hp : List Cell} : (⟨rho, hp⟩ : Ste).get (.c n) = match hp[n]? with
    | some (.live sh x) => some (sh, x)
    | some (.lk sh x) => some (sh, x)
    | _ => none := rfl
@[simp] theorem put_sl {i : Nat} {x : D} {rho : List Slot} {hp : List Cell} : (⟨rho, hp⟩ : Ste).putR (.s i) x = match rho[i]? with
    | some (.own sh _) => ⟨rho.set i (.own sh x), hp⟩
    | _ => ⟨rho, hp⟩ := rfl
@[simp] theorem put_cl {n : Nat} {x : D} {rho : List Slot} {hp : List Cell} : (⟨rho, hp⟩ : Ste).putR (.c n) x = match hp[n]? with
    | some (.live sh _) => ⟨rho, hp.set n (.live sh x)⟩
    | _ => ⟨rho, hp⟩ := rfl
@[simp] theorem at_st {t : Rt} {p : List Nat} : S.at t p = (S.get t).bind fun q => nav q.1 q.2 p := rfl
@[simp] theorem nav_nil {sh : Sh} {x : D} : nav sh x [] = some (sh, x) := rfl
@[simp] theorem setAt_nil {x y : D} : setAt x [] y = y := rfl
@[simp] theorem unl_none {S0 : Ste} : Ste.unl S0 S none = S := rfl
@[simp] theorem unl_some {S0 : Ste} {t : Rt} : Ste.unl S0 S (some t) = S.unlock t (S0.free t) := rfl
@[simp] theorem vl_at {t : Rt} {p : List Nat} : (Lc.at t p).vl = .pk t p := rfl
@[simp] theorem vl_val {x : Vl} : (Lc.val x).vl = x := rfl
@[simp] theorem in_at {t : Rt} {p : List Nat} : (Lc.at t p).in = some (t, p) := rfl
@[simp] theorem in_r {n : Nat} : (Lc.val (.r n)).in = some (.c n, []) := rfl
/-! how much a value is looked at -/
@[simp] theorem tnt_d {x : D} : (Vl.d x).tnt = 0 := rfl
@[simp] theorem tnt_w {x : D} : (Vl.w x).tnt = 1 := rfl
@[simp] theorem tnt_r {n : Nat} : (Vl.r n).tnt = 2 := rfl
@[simp] theorem tnt_k {x : D} : (Vl.k x).tnt = 2 := rfl
@[simp] theorem tnt_pk {t : Rt} {p : List Nat} : (Vl.pk t p).tnt = 2 := rfl
@[simp] theorem tnts_nil : tnts [] = 0 := rfl
@[simp] theorem tnts_cons {x : Vl} {r : List Vl} : tnts (x :: r) = max x.tnt (tnts r) := rfl
@[simp] theorem mkv_0 {fr : Bool} {d : D} : mkv fr 0 d = some (.d d) := rfl
@[simp] theorem mkv_i {fr : Bool} {t : Nat} {i : Int} : mkv fr t (.int i) = some (.d (.int i)) := by unfold mkv; split <;> rfl
@[simp] theorem mkv_b {fr : Bool} {t : Nat} {i : Bool} : mkv fr t (.bool i) = some (.d (.bool i)) := by unfold mkv; split <;> rfl
@[simp] theorem mkv_s {fr : Bool} {t : Nat} {z : Str} : mkv fr t (.str z) = some (.d (.str z)) := by unfold mkv; split <;> rfl
@[simp] theorem mkv_n {fr : Bool} {t : Nat} : mkv fr t .none = some (.d .none) := by unfold mkv; split <;> rfl
/-! terms -/
@[simp] theorem x_var {i : Nat} : ev P (.var i) S = match S.rho[i]? with
    | some (.v x) => .ok x S
    | some (.own _ x) => if noRf x then .ok (.d x) { S with rho := S.rho.set i (.v (.d x)) } else .stuck
    | _ => .stuck := by rw [ev] <;> rfl
@[simp] theorem x_take {i : Nat} {sh : Sh} : ev P (.take i sh) S = match S.rho[i]? with
    | some (.own sh' x) => if sh' = sh then .ok (.d x) { S with rho := S.rho.set i .non } else .stuck
    | _ => .stuck := by rw [ev] <;> rfl
@[simp] theorem x_peek {p : Plc} : ev P (.peek p) S = (evP P p S).bind fun l s => .ok l.vl s := by rw [ev]
@[simp] theorem x_sl {i : Nat} : evP P (.sl i) S = match S.rho[i]? with
    | some (.v x) => .ok (.val x) S
    | some (.own _ _) => .ok (.at (.s i) []) S
    | some (.lck _ _) => .ok (.at (.s i) []) S
    | _ => .stuck := by rw [evP] <;> rfl
@[simp] theorem x_kst {x : D} : ev P (.kst x) S = .ok (.d x) S := by rw [ev]
@[simp] theorem x_glob {j : Nat} : ev P (.glob j) S = match P.consts[j]? with
    | some x => .ok (gv x) S
    | none => .stuck := by rw [ev] <;> rfl
@[simp] theorem gv_s {z : Str} : gv (.str z) = .d (.str z) := rfl
@[simp] theorem gv_i {z : Int} : gv (.int z) = .d (.int z) := rfl
@[simp] theorem x_op {o : Op} {as : Cs} : ev P (.op o as) S = (evs P as S).bind fun xs s => Res.of (((s.ress xs).bind o.fn).bind (mkv o.fresh (tnts xs))) s := by rw [ev]
@[simp] theorem x_chain {o1 o2 : Op} {a b c : C} : ev P (.chain o1 o2 a b c) S = (ev P a S).bind fun x s => (ev P b s).bind fun y s => if isPk x || isPk y then .stuck else match (s.ress [x, y]).bind o1.fn with
    | some (.bool true) => (ev P c s).bind fun z s => Res.of (((s.ress [y, z]).bind o2.fn).bind (mkv o2.fresh (tnts [y, z]))) s
    | some (.bool false) => .ok (.d (.bool false)) s
    | _ => .stuck := chain_ev
@[simp] theorem x_tup {as : Cs} : ev P (.tup as) S = (evs P as S).bind fun xs s => if xs.length ≤ lim then (match dats xs, wits xs with
    | some ds, _ => .ok (.d (.tuple ds)) s
    | none, some ds => .ok (.w (.tuple ds)) s
    | none, none => .stuck) else .stuck := tup_ev
@[simp] theorem x_lst {as : Cs} : ev P (.lst as) S = (evs P as S).bind fun xs s => if xs.length ≤ lim then (match dats xs with
    | some ds => .ok (.d (.list ds)) s
    | none => .stuck) else .stuck := lst_ev
@[simp] theorem x_dct {kvs : List (L2.Key × D)} : ev P (.dct kvs) S = .ok (.d (.dict (kvs.map fun p => (keyD p.1, p.2)))) S := by rw [ev]
@[simp] theorem x_cell {sh : Sh} {a : C} : ev P (.cell sh a) S = (ev P a S).bind fun x s => match x with
    | .d x => if okC x then .ok (.r s.hp.length) { s with hp := s.hp ++ [.live sh x] } else .stuck
    | _ => .stuck := cell_ev
@[simp] theorem x_own {a : C} : ev P (.own a) S = (ev P a S).bind fun x s => match x with
    | .d x => if isC x || atom x then .ok (.d x) s else .stuck
    | _ => .stuck := by rw [ev] <;> rfl
@[simp] theorem x_dd {a : C} : ev P (.dd a) S = (ev P a S).bind fun x s => match x with
    | .d x => .ok (.d x) s
    | _ => .stuck := by rw [ev] <;> rfl
@[simp] theorem x_tupN {as : Cs} : ev P (.tupN as) S = (evs P as S).bind fun xs s => if xs.length ≤ lim then (match parts (.o .z) xs with
    | some ds => .ok (.d (.tuple ds)) s
    | none => .stuck) else .stuck := tupN_ev
@[simp] theorem x_ix {p : Plc} {k : C} : evP P (.ix p k) S = (evP P p S).bind fun l s => match l.in with
    | some (t, q) => if (s.at t q).isSome then (s.held t fun s => ev P k s).bind fun x s => (match x.dat with
      | some k => Res.of (s.kid t q fun x => ixOf x k) s
      | none => .stuck) else .stuck
    | none => .stuck := by rw [evP] <;> rfl
@[simp] theorem x_atm {a : C} : ev P (.atm a) S = (ev P a S).bind fun x s => match x with
    | .d x => if atom x then .ok (.d x) s else .stuck
    | _ => .stuck := by rw [ev] <;> rfl
@[simp] theorem x_frz {a : C} : ev P (.frz a) S = (ev P a S).bind fun x s => match x with
    | .d x => if noRf x then .ok (.d x) s else .stuck
    | _ => .stuck := by rw [ev] <;> rfl
@[simp] theorem x_not {a : C} : ev P (.not a) S = (ev P a S).bind fun x s => match s.res x with
    | some (.bool b) => .ok (.d (.bool (!b))) s
    | _ => .stuck := by rw [ev] <;> rfl
@[simp] theorem x_and {a b : C} : ev P (.and a b) S = (ev P a S).bind fun x s => match s.res x with
    | some (.bool true) => ev P b s
    | some (.bool false) => .ok (.d (.bool false)) s
    | _ => .stuck := by rw [ev] <;> rfl
@[simp] theorem x_or {a b : C} : ev P (.or a b) S = (ev P a S).bind fun x s => match s.res x with
    | some (.bool true) => .ok (.d (.bool true)) s
    | some (.bool false) => ev P b s
    | _ => .stuck := by rw [ev] <;> rfl
@[simp] theorem x_iteC {t a b : C} : ev P (.ite t a b) S = (ev P t S).bind fun x s => match (s.res x).bind truth with
    | some true => ev P a s
    | some false => ev P b s
    | none => .stuck := by rw [ev] <;> rfl
@[simp] theorem x_call {f : Nat} {as : Cs} : ev P (.call f as) S = (evs P as S).bind fun xs s => P.go f xs s := call_ev
@[simp] theorem x_go {f : Nat} {xs : List Vl} : P.go f xs S = match S.args xs with
    | some ys => backV S xs (P.call f ys (hide xs S.hp))
    | none => .stuck := rfl
@[simp] theorem args_nil : S.args [] = some [] := rfl
@[simp] theorem args_cons {x : Vl} {r : List Vl} : S.args (x :: r) = match S.arg x, S.args r with
    | some y, some ys => some (y :: ys)
    | _, _ => none := rfl
@[simp] theorem arg_d {x : D} : S.arg (.d x) = some (.d x) := rfl
@[simp] theorem arg_w {x : D} : S.arg (.w x) = some (.w x) := rfl
@[simp] theorem arg_r {n : Nat} : S.arg (.r n) = some (.r n) := rfl
@[simp] theorem arg_pk {t : Rt} {p : List Nat} : S.arg (.pk t p) = (pure? (S.at t p)).map .w := rfl
@[simp] theorem hide_nil {h : List Cell} : hide [] h = h := rfl
@[simp] theorem hide_d {x : D} {r : List Vl} {h : List Cell} : hide (.d x :: r) h = hide r h := rfl
@[simp] theorem hide_w {x : D} {r : List Vl} {h : List Cell} : hide (.w x :: r) h = hide r h := rfl
@[simp] theorem hide_r {n : Nat} {r : List Vl} {h : List Cell} : hide (.r n :: r) h = hide r h := rfl
@[simp] theorem hide_s {i : Nat} {p : List Nat} {r : List Vl} {h : List Cell} : hide (.pk (.s i) p :: r) h = hide r h := rfl
@[simp] theorem unh_nil {h0 h : List Cell} : unhide h0 [] h = h := rfl
@[simp] theorem unh_d {x : D} {r : List Vl} {h0 h : List Cell} : unhide h0 (.d x :: r) h = unhide h0 r h := rfl
@[simp] theorem unh_w {x : D} {r : List Vl} {h0 h : List Cell} : unhide h0 (.w x :: r) h = unhide h0 r h := rfl
@[simp] theorem unh_r {n : Nat} {r : List Vl} {h0 h : List Cell} : unhide h0 (.r n :: r) h = unhide h0 r h := rfl
@[simp] theorem unh_s {i : Nat} {p : List Nat} {r : List Vl} {h0 h : List Cell} : unhide h0 (.pk (.s i) p :: r) h = unhide h0 r h := rfl
@[simp] theorem back_d {xs : List Vl} {x : D} {h : List Cell} : backV S xs (.ok (.d x) h) = .ok (.d x) { S with hp := unhide S.hp xs h } := rfl
@[simp] theorem back_r {xs : List Vl} {n : Nat} {h : List Cell} : backV S xs (.ok (.r n) h) = .ok (.r n) { S with hp := unhide S.hp xs h } := rfl
@[simp] theorem back_er {xs : List Vl} {c : Nat} {h : List Cell} : backV S xs (.er c h) = .er c { S with hp := unhide S.hp xs h } := rfl
@[simp] theorem x_mut {p : Plc} {sh : Sh} {m : Mu} {as : Cs} : ev P (.mut p sh m as) S = (evP P p S).bind fun l s => match l.in with
    | some (t, q) => (match s.at t q with
      | some (.o _, y0) => if m.ty y0 then (s.held t fun s => evs P as s).bind fun xs s => (if s.free t then (match s.get t, s.at t q, parts sh xs with
        | some (_, x), some (.o sh', y), some ds => if sh' = sh then (match m.fn y ds with
          | some (u, y') => (if sh = .z then .ok (.d u) (s.putR t (setAt x q y')) else .stuck)
          | none => .stuck) else .stuck
        | _, _, _ => .stuck) else .stuck) else .stuck
      | _ => .stuck)
    | none => .stuck := mut_ev
@[simp] theorem parts_nil {s : Sh} : parts s [] = some [] := rfl
@[simp] theorem parts_cons {s : Sh} {x : Vl} {r : List Vl} : parts s (x :: r) = match part s x, parts s r with
    | some d, some ds => some (d :: ds)
    | _, _ => none := rfl
@[simp] theorem part_zd {x : D} : part .z (.d x) = some x := rfl
@[simp] theorem part_od {s : Sh} {x : D} : part (.o s) (.d x) = some x := rfl
@[simp] theorem part_rd {x : D} : part .r (.d x) = some x := rfl
@[simp] theorem part_rr {n : Nat} : part .r (.r n) = some (refD n) := rfl
@[simp] theorem x_meth {o : Op} {a : C} {as : Cs} : ev P (.meth o a as) S = (ev P a S).bind fun x s => match s.res x with
    | some d => if o.ty d then (x.held s fun s => evs P as s).bind fun xs s => Res.of (((s.ress (x :: xs)).bind o.fn).bind (mkv o.fresh (tnts (x :: xs)))) s else .stuck
    | none => .stuck := meth_ev
@[simp] theorem x_lc {vs : List Nat} {tg : Tg} {it : It} {cs : Cs} {e : C} : ev P (.lc vs tg it cs e) S = (evIt P it S).bind fun xs s1 => if frees vs s1.rho then
      match lcLoop (lcTurn P vs tg cs e xs.2.1) xs.1 [] { s1 with rho := wipeR s1.rho vs } with
      | .ok ys s2 => if ys.length ≤ lim then .ok (.d (.list ys)) (Ste.unl S { s2 with rho := backR s1.rho s2.rho vs } xs.2.2) else .stuck
      | _ => .stuck
    else .stuck := lc_ev
@[simp] theorem x_extF {p : Plc} {a : C} : ev P (.extF p a) S = (evP P p S).bind fun l s => match l.in with
    | some (t, q) => (match s.at t q with
      | some (.o .z, .list _) => (s.held t fun s => ev P a s).bind fun y s => (if s.free t then (match s.get t, s.at t q, y with
        | some (_, x), some (.o .z, .list xs), .d (.list ys) => if xs.length + ys.length < lim then .ok (.d .none) (s.putR t (setAt x q (.list (xs ++ ys)))) else .stuck
        | _, _, _ => .stuck) else .stuck)
      | _ => .stuck)
    | none => .stuck := extF_ev
@[simp] theorem x_nil : evs P .nil S = .ok [] S := by rw [evs]
@[simp] theorem x_cons {a : C} {as : Cs} : evs P (.cons a as) S = (ev P a S).bind fun x s => (x.held s fun s => evs P as s).bind fun xs s => .ok (x :: xs) s := by rw [evs]
@[simp] theorem x_tnil : evTs P .nil S = .ok true S := evTs_nil
@[simp] theorem x_tone {c : C} : evTs P (.cons c .nil) S = evB P c S := by rw [evTs_one]
@[simp] theorem x_evB {c : C} : evB P c S = (ev P c S).bind fun x s => Res.of ((s.res x).bind truth) s := rfl
@[simp] theorem x_seq {a : C} : evIt P (.seq a) S = (ev P a S).bind seqIt := it_seq
@[simp] theorem si_d {x : D} : seqIt (.d x) S = Res.of ((seqItems x).map fun xs => (xs, false, none)) S := rfl
@[simp] theorem si_w {x : D} : seqIt (.w x) S = Res.of ((seqItems x).map fun xs => (xs, true, none)) S := rfl
@[simp] theorem si_pk {t : Rt} : seqIt (.pk t []) S = lockIt t S := rfl
@[simp] theorem si_r {n : Nat} : seqIt (.r n) S = lockIt (.c n) S := rfl
@[simp] theorem x_lockIt {t : Rt} : lockIt t S = match S.get t with
  | some (.o .z, x) => Res.of ((seqItems x).map fun xs => (xs, false, some t)) (S.lock t)
  | _ => .stuck := rfl
@[simp] theorem x_rng {as : Cs} : evIt P (.rng as) S = (evs P as S).bind fun xs s => Res.of (((s.ress xs).bind rngItems).map fun xs => (xs, false, none)) s := it_rng
@[simp] theorem x_enum {a : C} : evIt P (.enum a) S = (ev P a S).bind enumIt := it_enum
@[simp] theorem en_d {xs : List D} : enumIt (.d (.list xs)) S = .ok (enumD 0 xs, false, none) S := rfl
@[simp] theorem x_zip {as : Cs} : evIt P (.zip as) S = (evs P as S).bind fun xs s => Res.of (((dats xs).bind zipD).map fun xs => (xs, false, none)) s := it_zip
@[simp] theorem x_set {i : Nat} {e : C} : exS P (.set i e) S = (ev P e S).out fun x s => match x with
    | .pk _ _ => .stuck
    | .k _ => .stuck
    | x => if Slot.open s.rho[i]? then .nx { s with rho := s.rho.set i (.v x) } else .stuck := set_ev
@[simp] theorem x_setO {i : Nat} {sh : Sh} {e : C} : exS P (.setO i sh e) S = (ev P e S).out fun x s => match x with
    | .d x => if Slot.open s.rho[i]? then .nx { s with rho := s.rho.set i (.own sh x) } else .stuck
    | _ => .stuck := setO_ev
@[simp] theorem x_setT {ts : List Tg} {e : C} : exS P (.setT ts e) S = (ev P e S).out fun x s => match x.wd with
    | some (w, x) => (match bindT w (.tp ts) x s.rho with
      | some rho => .nx { s with rho := rho }
      | none => .stuck)
    | none => .stuck := setT_ev
@[simp] theorem wd_d {x : D} : (Vl.d x).wd = some (false, x) := rfl
@[simp] theorem wd_w {x : D} : (Vl.w x).wd = some (true, x) := rfl
@[simp] theorem x_put {p : Plc} {sh : Sh} {k v : C} : exS P (.put p sh k v) S = (ev P v S).out fun y s => putP P p k (putFin sh (part sh y)) s := put_ev
@[simp] theorem x_putP {p : Plc} {k : C} {g : Rt → List Nat → Vl → Ste → Out} : putP P p k g S = (evP P p S).out fun l s => match l.in with
  | some (t, q) => if (s.at t q).isSome then ((Vl.pk t q).held s fun s => ev P k s).out fun x s => g t q x s else .stuck
  | none => .stuck := rfl
@[simp] theorem x_putFin {sh : Sh} {oy : Option D} {t : Rt} {q : List Nat} {x : Vl} : putFin sh oy t q x S = if S.free t then (match S.get t, S.at t q, x.dat, oy with
        | some (_, z), some (.o sh', o), some k, some y => if sh' = sh then (match putD o k y with
          | some o' => .nx (S.putR t (setAt z q o'))
          | none => .stuck) else .stuck
        | _, _, _, _ => .stuck) else .stuck := rfl
@[simp] theorem x_expr {e : C} : exS P (.expr e) S = (ev P e S).out fun _ s => .nx s := expr_ev
@[simp] theorem x_ret {e : C} : exS P (.ret e) S = (ev P e S).out fun x s => match x with
    | .d x => .rt (.d x) s
    | .r n => .rt (.r n) s
    | .w x => if flat x then .rt (.d x) s else .stuck
    | _ => .stuck := ret_ev
@[simp] theorem x_retN : exS P .retN S = .rt (.d .none) S := by rw [exS]
@[simp] theorem x_pass : exS P .pass S = .nx S := by rw [exS]
@[simp] theorem x_brk : exS P .brk S = .bk S := by rw [exS]
@[simp] theorem x_cnt : exS P .cnt S = .ct S := by rw [exS]
@[simp] theorem x_raise {c : Nat} : exS P (.raise c) S = .er c S := by rw [exS]
@[simp] theorem x_ite {t : C} {a b : CSs} : exS P (.ite t a b) S = (evB P t S).out fun c s => if c then exs P a s else exs P b s := ite_evS
@[simp] theorem x_for {tg : Tg} {it : It} {b : CSs} : exS P (.for tg it b) S = (evIt P it S).out fun xs s => (forLoop (forTurn P tg b xs.2.1) xs.1 s).after S xs.2.2 := for_ev
@[simp] theorem x_while {t : C} {b : CSs} : exS P (.while t b) S = whileLoop (evB P t) (exs P b) wfuel S := while_ev
@[simp] theorem x_snil : exs P .nil S = .nx S := by rw [exs]
@[simp] theorem x_scons {c : CS} {r : CSs} : exs P (.cons c r) S = match exS P c S with
    | .nx s => exs P r s
    | o => o := by rw [exs] <;> rfl
@[simp] theorem after_nx {S0 s : Ste} {lk : Option Rt} : Out.after S0 lk (.nx s) = .nx (Ste.unl S0 s lk) := rfl
@[simp] theorem after_rt {S0 : Ste} {lk : Option Rt} {x : Vl} {s : Ste} : Out.after S0 lk (.rt x s) = .rt x s := rfl
@[simp] theorem after_er {S0 : Ste} {lk : Option Rt} {c : Nat} {s : Ste} : Out.after S0 lk (.er c s) = .er c s := rfl
@[simp] theorem ress_nil : S.ress [] = some [] := rfl
@[simp] theorem ress_cons {x : Vl} {r : List Vl} : S.ress (x :: r) = match S.res x, S.ress r with
    | some d, some ds => some (d :: ds)
    | _, _ => none := rfl
@[simp] theorem res_d {x : D} : S.res (.d x) = some x := rfl
@[simp] theorem res_w {x : D} : S.res (.w x) = some x := rfl
@[simp] theorem res_k {x : D} : S.res (.k x) = some x := rfl
@[simp] theorem res_r {n : Nat} : S.res (.r n) = pure? (S.get (.c n)) := rfl
@[simp] theorem res_pk {t : Rt} {p : List Nat} : S.res (.pk t p) = pure? (S.at t p) := rfl
@[simp] theorem pure_some {sh : Sh} {x : D} : pure? (some (sh, x)) = if noRf x then some x else none := rfl
@[simp] theorem dat_d {x : D} : (Vl.d x).dat = some x := rfl
@[simp] theorem dat_w {x : D} : (Vl.w x).dat = if flat x then some x else none := rfl
@[simp] theorem dats_nil : dats [] = some [] := rfl
@[simp] theorem dats_cons {x : Vl} {r : List Vl} : dats (x :: r) = match x.dat, dats r with
    | some d, some ds => some (d :: ds)
    | _, _ => none := rfl
@[simp] theorem wits_nil : wits [] = some [] := rfl
@[simp] theorem isPk_d {x : D} : isPk (.d x) = false := rfl
@[simp] theorem isPk_w {x : D} : isPk (.w x) = false := rfl
@[simp] theorem isPk_r {n : Nat} : isPk (.r n) = false := rfl
@[simp] theorem op1 {v : Vl} : Slot.open (some (.v v)) = true := rfl
@[simp] theorem op2 : Slot.open (some .non) = true := rfl
@[simp] theorem op3 {sh : Sh} {x : D} : Slot.open (some (.own sh x)) = true := rfl
@[simp] theorem ato_i {i : Int} : atom (.int i) = true := rfl
@[simp] theorem okC_l {xs : List D} : okC (.list xs) = true := rfl
@[simp] theorem nrf_nil : noRfs [] = true := rfl
@[simp] theorem nrf_cons {x : D} {r : List D} : noRfs (x :: r) = (noRf x && noRfs r) := rfl
@[simp] theorem nrf_i {i : Int} : noRf (.int i) = true := rfl
@[simp] theorem nrf_s {i : Str} : noRf (.str i) = true := rfl
@[simp] theorem nrf_b {i : Bool} : noRf (.bool i) = true := rfl
@[simp] theorem nrf_l {xs : List D} : noRf (.list xs) = noRfs xs := by rw [noRf]
@[simp] theorem nrf_t {xs : List D} : noRf (.tuple xs) = noRfs xs := by rw [noRf]
@[simp] theorem ty_app : Mu.app.ty = isLst := rfl
@[simp] theorem ty_pop : Mu.pop.ty = isLst := rfl
@[simp] theorem ty_popAt : Mu.popAt.ty = isLst := rfl
@[simp] theorem ty_rev : Mu.rev.ty = isLst := rfl
@[simp] theorem ty_clr : Mu.clr.ty = isLst := rfl
@[simp] theorem isLst_l {xs : List D} : isLst (.list xs) = true := rfl
@[simp] theorem fn_app : Mu.app.fn = mApp := rfl
@[simp] theorem fn_pop : Mu.pop.fn = mPop := rfl
@[simp] theorem fn_popAt : Mu.popAt.fn = mPopAt := rfl
@[simp] theorem fn_revM : Mu.rev.fn = mRev := rfl
@[simp] theorem fn_clr : Mu.clr.fn = mClr := rfl
@[simp] theorem tr_b {b : Bool} : truth (.bool b) = some b := rfl
@[simp] theorem tr_i {i : Int} : truth (.int i) = some (i != 0) := rfl
@[simp] theorem tr_n : truth .none = some false := rfl
@[simp] theorem tr_l {xs : List D} : truth (.list xs) = some (!xs.isEmpty) := rfl
@[simp] theorem tr_t {xs : List D} : truth (.tuple xs) = some (!xs.isEmpty) := rfl
@[simp] theorem isC_l {xs : List D} : isC (.list xs) = true := rfl
@[simp] theorem isC_d {xs : List (D × D)} : isC (.dict xs) = true := rfl
@[simp] theorem seq_l {xs : List D} : seqItems (.list xs) = some xs := rfl
@[simp] theorem seq_t {xs : List D} : seqItems (.tuple xs) = some xs := rfl
@[simp] theorem seq_s {z : Str} : seqItems (.str z) = some (z.cps.toList.map fun c => .str ⟨#[c]⟩) := rfl
@[simp] theorem fn_add : Op.fn .add = fAdd := rfl
@[simp] theorem fn_sub : Op.fn .sub = fSub := rfl
@[simp] theorem fn_mul : Op.fn .mul = fMul := rfl
@[simp] theorem fn_fdiv : Op.fn .fdiv = fDiv := rfl
@[simp] theorem fn_mod : Op.fn .mod = fMod := rfl
@[simp] theorem fn_pow : Op.fn .pow = fPow := rfl
@[simp] theorem fn_neg : Op.fn .neg = fNeg := rfl
@[simp] theorem fn_eq : Op.fn .eq = fEq := rfl
@[simp] theorem fn_ne : Op.fn .ne = fNe := rfl
@[simp] theorem fn_lt : Op.fn .lt = fLt := rfl
@[simp] theorem fn_le : Op.fn .le = fLe := rfl
@[simp] theorem fn_gt : Op.fn .gt = fGt := rfl
@[simp] theorem fn_ge : Op.fn .ge = fGe := rfl
@[simp] theorem fn_is : Op.fn .is_ = fIs := rfl
@[simp] theorem fn_isnt : Op.fn .isnt = fIsnt := rfl
@[simp] theorem fn_in : Op.fn .in_ = fIn := rfl
@[simp] theorem fn_notin : Op.fn .notin = fNotin := rfl
@[simp] theorem fn_idx : Op.fn .idx = fIdx := rfl
@[simp] theorem fn_slice : Op.fn .slice = fSlice := rfl
@[simp] theorem fn_len : Op.fn .len = fLen := rfl
@[simp] theorem fn_isinst {t : Ty} : Op.fn (.isinst t) = fIsinst t := rfl
@[simp] theorem fn_isLT : Op.fn .isLT = fIsLT := rfl
@[simp] theorem fn_all : Op.fn .all = fAll := rfl
@[simp] theorem fn_any : Op.fn .any = fAny := rfl
@[simp] theorem fn_abs : Op.fn .abs = fAbs := rfl
@[simp] theorem fn_max2 : Op.fn .max2 = fMax2 := rfl
@[simp] theorem fn_min2 : Op.fn .min2 = fMin2 := rfl
@[simp] theorem fn_repr : Op.fn .repr = fRepr := rfl
@[simp] theorem fn_strip : Op.fn .strip = fStrip := rfl
@[simp] theorem fn_ofList : Op.fn .ofList = fOfList := rfl
@[simp] theorem fn_int1 : Op.fn .int1 = fInt := rfl
@[simp] theorem fn_ofTuple : Op.fn .ofTuple = fOfTuple := rfl
@[simp] theorem fn_setlen : Op.fn .setlen = fSetlen := rfl
@[simp] theorem fn_sorted : Op.fn .sorted = fSorted := rfl
@[simp] theorem fn_rev : Op.fn .rev = fRev := rfl
@[simp] theorem fn_dIn {kvs : List (Str × Str)} {no : Bool} : Op.fn (.dIn kvs no) = fDin kvs no := rfl
@[simp] theorem fn_dAt {kvs : List (Str × Str)} : Op.fn (.dAt kvs) = fDat kvs := rfl
@[simp] theorem fn_join : Op.fn .join = fJoin := rfl
@[simp] theorem fn_split : Op.fn .split = fSplit := rfl
@[simp] theorem fn_str1 : Op.fn .str1 = fStr1 := rfl
@[simp] theorem fn_toi : Op.fn .toi = fToi := rfl
@[simp] theorem d_zip {x y : D} : zipD [x, y] = match seqItems x, seqItems y with
  | some xs, some ys => some (List.zipWith (fun a b => .tuple [a, b]) xs ys)
  | _, _ => none := rfl
@[simp] theorem d_add {i j : Int} : fAdd [.int i, .int j] = some (.int (i + j)) := rfl
@[simp] theorem d_sub {i j : Int} : fSub [.int i, .int j] = some (.int (i - j)) := rfl
@[simp] theorem d_mod {i j : Int} : fMod [.int i, .int j] = if 0 < j then some (.int (i % j)) else none := rfl
@[simp] theorem d_div {i j : Int} : fDiv [.int i, .int j] = if 0 < j ∧ j < 1073741824 then some (.int (i / j)) else none := rfl
@[simp] theorem d_neg {i : Int} : fNeg [.int i] = some (.int (-i)) := rfl
@[simp] theorem d_lt {i j : Int} : fLt [.int i, .int j] = some (.bool (decide (i < j))) := rfl
@[simp] theorem d_le {i j : Int} : fLe [.int i, .int j] = some (.bool (decide (i ≤ j))) := rfl
@[simp] theorem d_gt {i j : Int} : fGt [.int i, .int j] = some (.bool (decide (j < i))) := rfl
@[simp] theorem d_ge {i j : Int} : fGe [.int i, .int j] = some (.bool (decide (j ≤ i))) := rfl
@[simp] theorem d_abs {i : Int} : fAbs [.int i] = some (.int (if i < 0 then -i else i)) := rfl
@[simp] theorem d_max2 {i j : Int} : fMax2 [.int i, .int j] = some (.int (if j > i then j else i)) := rfl
@[simp] theorem d_min2 {i j : Int} : fMin2 [.int i, .int j] = some (.int (if j < i then j else i)) := rfl
@[simp] theorem d_isinst {t : Ty} {x : D} : fIsinst t [x] = some (.bool (isTy t x)) := rfl
@[simp] theorem d_isLT {x : D} : fIsLT [x] = some (.bool (isTy .list x || isTy .tuple x)) := rfl
@[simp] theorem d_lenl {xs : List D} : fLen [.list xs] = some (.int xs.length) := rfl
@[simp] theorem d_lent {xs : List D} : fLen [.tuple xs] = some (.int xs.length) := rfl
@[simp] theorem d_idxl {xs : List D} {i : Int} : fIdx [.list xs, .int i] = nth xs i := rfl
@[simp] theorem d_idxt {xs : List D} {i : Int} : fIdx [.tuple xs, .int i] = nth xs i := rfl
@[simp] theorem d_toi {i : Int} : fToi [.int i] = some (.int i) := rfl
@[simp] theorem d_ofl {xs : List D} : fOfList [.list xs] = some (.list xs) := rfl
@[simp] theorem d_oft {xs : List D} : fOfList [.tuple xs] = some (.list xs) := rfl
@[simp] theorem fresh_add : Op.fresh .add = true := rfl
@[simp] theorem fresh_sub : Op.fresh .sub = true := rfl
@[simp] theorem fresh_mul : Op.fresh .mul = true := rfl
@[simp] theorem fresh_fdiv : Op.fresh .fdiv = true := rfl
@[simp] theorem fresh_mod : Op.fresh .mod = true := rfl
@[simp] theorem fresh_pow : Op.fresh .pow = true := rfl
@[simp] theorem fresh_neg : Op.fresh .neg = true := rfl
@[simp] theorem fresh_eq : Op.fresh .eq = true := rfl
@[simp] theorem fresh_ne : Op.fresh .ne = true := rfl
@[simp] theorem fresh_lt : Op.fresh .lt = true := rfl
@[simp] theorem fresh_le : Op.fresh .le = true := rfl
@[simp] theorem fresh_gt : Op.fresh .gt = true := rfl
@[simp] theorem fresh_ge : Op.fresh .ge = true := rfl
@[simp] theorem fresh_is_ : Op.fresh .is_ = true := rfl
@[simp] theorem fresh_isnt : Op.fresh .isnt = true := rfl
@[simp] theorem fresh_in_ : Op.fresh .in_ = true := rfl
@[simp] theorem fresh_notin : Op.fresh .notin = true := rfl
@[simp] theorem fresh_idx : Op.fresh .idx = false := rfl
@[simp] theorem fresh_slice : Op.fresh .slice = true := rfl
@[simp] theorem fresh_len : Op.fresh .len = true := rfl
@[simp] theorem fresh_isLT : Op.fresh .isLT = true := rfl
@[simp] theorem fresh_all : Op.fresh .all = true := rfl
@[simp] theorem fresh_any : Op.fresh .any = true := rfl
@[simp] theorem fresh_abs : Op.fresh .abs = true := rfl
@[simp] theorem fresh_max2 : Op.fresh .max2 = true := rfl
@[simp] theorem fresh_min2 : Op.fresh .min2 = true := rfl
@[simp] theorem fresh_repr : Op.fresh .repr = true := rfl
@[simp] theorem fresh_strip : Op.fresh .strip = true := rfl
@[simp] theorem fresh_ofList : Op.fresh .ofList = true := rfl
@[simp] theorem fresh_ofTuple : Op.fresh .ofTuple = false := rfl
@[simp] theorem fresh_int1 : Op.fresh .int1 = true := rfl
@[simp] theorem fresh_toi : Op.fresh .toi = true := rfl
@[simp] theorem fresh_setlen : Op.fresh .setlen = true := rfl
@[simp] theorem fresh_sorted : Op.fresh .sorted = true := rfl
@[simp] theorem fresh_rev : Op.fresh .rev = true := rfl
@[simp] theorem fresh_join : Op.fresh .join = true := rfl
@[simp] theorem fresh_split : Op.fresh .split = true := rfl
@[simp] theorem fresh_str1 : Op.fresh .str1 = true := rfl
@[simp] theorem tyo_strip : Op.ty .strip = isStr := rfl
@[simp] theorem tyo_join : Op.ty .join = isStr := rfl
@[simp] theorem tyo_split : Op.ty .split = isStr := rfl
@[simp] theorem isStr_s {z : Str} : isStr (.str z) = true := rfl
@[simp] theorem fresh_isinst {t : Ty} : Op.fresh (.isinst t) = true := rfl
theorem mkv_fl {t : Nat} {xs : List D} (h : flats xs = true) : mkv true t (.list xs) = some (.d (.list xs)) := by
  unfold mkv
  split
  · rfl
  · simp [flat1, h]
theorem mkv_ff {fr : Bool} {t : Nat} {x : D} (h : flat x = true) : mkv fr t x = some (.d x) := by
  unfold mkv
  split
  · rfl
  · simp [h]
theorem noRfs_mem : ∀ {L : List D}, noRfs L = true → ∀ y ∈ L, noRf y = true
  | x :: L, h, y, m => by
    rw [noRfs, Bool.and_eq_true] at h
    rcases List.mem_cons.mp m with rfl | m
    · exact h.1
    · exact noRfs_mem h.2 y m
theorem noRfs_of : ∀ {L : List D}, (∀ y ∈ L, noRf y = true) → noRfs L = true
  | [], _ => rfl
  | x :: L, h => by
    rw [noRfs, h x List.mem_cons_self, noRfs_of fun y hy => h y (List.mem_cons_of_mem _ hy)]
    rfl
theorem flats_of : ∀ {L : List D}, (∀ y ∈ L, flat y = true) → flats L = true
  | [], _ => rfl
  | x :: L, h => by
    rw [flats, h x List.mem_cons_self, flats_of fun y hy => h y (List.mem_cons_of_mem _ hy)]
    rfl
theorem flats_noRfs {L : List D} (h : flats L = true) : noRfs L = true := flats_noRf L h
@[simp] theorem fr_nil {rho : List Slot} : frees [] rho = true := rfl
@[simp] theorem fr_cons {i : Nat} {r : List Nat} {rho : List Slot} : frees (i :: r) rho = ((match rho[i]? with | some (.own _ _) => false | some (.lck _ _) => false | _ => true) && frees r rho) := rfl
@[simp] theorem wi_nil {rho : List Slot} : wipeR rho [] = rho := rfl
@[simp] theorem wi_cons {v : Nat} {vs : List Nat} {rho : List Slot} : wipeR rho (v :: vs) = (wipeR rho vs).set v .non := rfl
@[simp] theorem ba_nil {rho0 rho : List Slot} : backR rho0 rho [] = rho := rfl
@[simp] theorem ba_cons {v : Nat} {vs : List Nat} {rho0 rho : List Slot} : backR rho0 rho (v :: vs) = match rho0[v]? with
  | some x => (backR rho0 rho vs).set v x
  | none => backR rho0 rho vs := rfl
@[simp] theorem wv_f {x : D} : wv false x = .d x := rfl
@[simp] theorem bi_nm {w : Bool} {i : Nat} {x : D} {rho : List Slot} : bindT w (.nm i) x rho = if Slot.open rho[i]? then some (rho.set i (.v (wv w x))) else none := by rw [bindT] <;> rfl
@[simp] theorem bi_tp {w : Bool} {ts : List Tg} {xs : List D} {rho : List Slot} : bindT w (.tp ts) (.tuple xs) rho = bindTs w ts xs rho := by rw [bindT]
@[simp] theorem bi_tl {w : Bool} {ts : List Tg} {xs : List D} {rho : List Slot} : bindT w (.tp ts) (.list xs) rho = bindTs w ts xs rho := by rw [bindT]
@[simp] theorem bis_nil {w : Bool} {rho : List Slot} : bindTs w [] [] rho = some rho := by rw [bindTs]
@[simp] theorem bis_cons {w : Bool} {t : Tg} {ts : List Tg} {x : D} {xs : List D} {rho : List Slot} : bindTs w (t :: ts) (x :: xs) rho = (bindT w t x rho).bind (bindTs w ts xs) := by rw [bindTs]
end
def bScoop : CSs := (ss [
  (.ite (.op .gt (cs [(.op .idx (cs [(.peek (.sl 0)), (.kst (.int 0))])), (.kst (.int 0))])) (ss [
    (.set 2 (.op .mod (cs [(.op .idx (cs [(.peek (.sl 0)), (.kst (.int 0))])), (.peek (.sl 1))]))),
    (.put (.sl 0) .z (.kst (.int 0)) (.op .fdiv (cs [(.op .idx (cs [(.peek (.sl 0)), (.kst (.int 0))])), (.peek (.sl 1))]))),
    (.ret (.var 2))]) (ss [])),
  (.put (.sl 0) .z (.kst (.int 2)) (.op .add (cs [(.op .idx (cs [(.peek (.sl 0)), (.kst (.int 2))])), (.kst (.int 1))]))),
  (.set 3 (.op .mod (cs [(.op .pow (cs [(.op .add (cs [(.op .idx (cs [(.peek (.sl 0)), (.kst (.int 1))])), (.op .mul (cs [(.kst (.int 15485863)), (.op .idx (cs [(.peek (.sl 0)), (.kst (.int 2))]))]))])), (.kst (.int 3))])), (.kst (.int 618970019642690137449562111))]))),
  (.set 3 (.op .mod (cs [(.op .pow (cs [(.op .add (cs [(.peek (.sl 3)), (.op .mul (cs [(.kst (.int 257)), (.op .pow (cs [(.op .idx (cs [(.peek (.sl 0)), (.kst (.int 2))])), (.kst (.int 2))]))]))])), (.kst (.int 3))])), (.kst (.int 162259276829213363391578010288127))]))),
  (.ret (.op .mod (cs [(.op .fdiv (cs [(.peek (.sl 3)), (.kst (.int 65537))])), (.peek (.sl 1))])))])
theorem bits_le {x : Int} {n : Nat} (h : x.natAbs < 2 ^ n) : Builtin.Int.intBits x ≤ n := PySem.intBits_le_iff.mpr h
theorem big_ok {n : Nat} (h : n < 2 ^ 300) : n < bigB := Nat.lt_of_lt_of_le h (Nat.pow_le_pow_right (by decide) (by decide))
def pot (f b c : Int) : D := .list [.int f, .int b, .int c]
theorem pow_ok {x : Int} {n : Nat} (j : Nat) (h : x.natAbs < 2 ^ n) (hj : n * j ≤ 2 ^ 27) : fPow [.int x, .int (j : Nat)] = some (.int (x ^ j)) := by
  have h1 := bits_le h
  have h2 : (Builtin.Int.intBits x : Int) * (j : Nat) ≤ 2 ^ 27 := by
    have h3 : Builtin.Int.intBits x * j ≤ 2 ^ 27 := Nat.le_trans (Nat.mul_le_mul_right j h1) hj
    exact_mod_cast h3
  unfold fPow
  simp only [Int.natCast_nonneg, true_and, h2, if_true, Int.toNat_natCast]
/-- the pot, as a shared thing -/
def pc (d : D) : Cell := .live (.o .z) d
theorem pc_at {hp : List Cell} {p : Nat} {d : D} (h : hp[p]? = some (pc d)) : hp[p]? = some (.live (.o .z) d) := h
theorem scoop_hi {P : Env} {p : Nat} {hp : List Cell} {f b c m : Int} (h : hp[p]? = some (pc (pot f b c))) (hf : 0 < f) (hm : 0 < m) (hm2 : m < 2 ^ 30) :
    exs P bScoop ⟨[.v (.r p), .v (.d (.int m)), .non, .non], hp⟩ = .rt (.d (.int (f % m))) ⟨[.v (.r p), .v (.d (.int m)), .v (.d (.int (f % m))), .non], hp.set p (pc (pot (f / m) b c))⟩ := by
  have hl : p < hp.length := (List.getElem?_eq_some_iff.mp h).1
  have h30 : m < 1073741824 := hm2
  have self : ∀ x : Cell, (hp.set p x)[p]? = some x := fun x => List.getElem?_set_self hl
  unfold pc at h ⊢
  simp [bScoop, nth, L2.atI, h, pot, truth, hf, hm, h30, Slot.open, putD, L2.ixN, HT.sIx, self]
theorem pow3_ok {x : Int} (h : x.natAbs < 2 ^ 250) : fPow [.int x, .int 3] = some (.int (x ^ 3)) := pow_ok 3 h (by decide)
theorem pow2_ok {x : Int} (h : x.natAbs < 2 ^ 250) : fPow [.int x, .int 2] = some (.int (x ^ 2)) := pow_ok 2 h (by decide)
theorem mul_ok {x y : Int} (h : x.natAbs < 2 ^ 250) (h2 : y.natAbs < 2 ^ 250) : fMul [.int x, .int y] = some (.int (x * y)) := by
  have e : (2 : Nat) ^ 250 ≤ 2 ^ 300 := Nat.pow_le_pow_right (by decide) (by decide)
  unfold fMul
  exact if_pos ⟨big_ok (Nat.lt_of_lt_of_le h e), big_ok (Nat.lt_of_lt_of_le h2 e)⟩
def lo1 (b c : Int) : Int := (b + 15485863 * c) ^ 3 % 618970019642690137449562111
def lo2 (b c : Int) : Int := (lo1 b c + 257 * c ^ 2) ^ 3 % 162259276829213363391578010288127
theorem scoop_lo {P : Env} {p : Nat} {hp : List Cell} {f b c m : Int} (h : hp[p]? = some (pc (pot f b c))) (hf : ¬ 0 < f) (hm : 0 < m) (hb : 0 ≤ b ∧ b < 2 ^ 200) (hc : 0 ≤ c ∧ c < 2 ^ 60) :
    exs P bScoop ⟨[.v (.r p), .v (.d (.int m)), .non, .non], hp⟩ = .rt (.d (.int (lo2 b (c + 1) / 65537 % m))) ⟨[.v (.r p), .v (.d (.int m)), .non, .v (.d (.int (lo2 b (c + 1))))], hp.set p (pc (pot f b (c + 1)))⟩ := by
  have hl : p < hp.length := (List.getElem?_eq_some_iff.mp h).1
  have self : ∀ x : Cell, (hp.set p x)[p]? = some x := fun x => List.getElem?_set_self hl
  have e1 : fMul [.int 15485863, .int (c + 1)] = some (.int (15485863 * (c + 1))) := mul_ok (by omega) (by omega)
  have e2 : fPow [.int (b + 15485863 * (c + 1)), .int 3] = some (.int ((b + 15485863 * (c + 1)) ^ 3)) := pow3_ok (by omega)
  have e3 : fPow [.int (c + 1), .int 2] = some (.int ((c + 1) ^ 2)) := pow2_ok (by omega)
  have q : (c + 1) ^ 2 ≤ 2 ^ 60 * 2 ^ 60 ∧ 0 ≤ (c + 1) ^ 2 := by
    rw [Int.pow_succ, Int.pow_succ, Int.pow_zero, Int.one_mul]
    exact ⟨Int.mul_le_mul (by omega) (by omega) (by omega) (by decide), Int.mul_nonneg (by omega) (by omega)⟩
  have e4 : fMul [.int 257, .int ((c + 1) ^ 2)] = some (.int (257 * (c + 1) ^ 2)) := mul_ok (by decide) (by omega)
  have r1 : 0 ≤ lo1 b (c + 1) ∧ lo1 b (c + 1) < 618970019642690137449562111 := ⟨Int.emod_nonneg _ (by decide), Int.emod_lt_of_pos _ (by decide)⟩
  have e5 : fPow [.int (lo1 b (c + 1) + 257 * (c + 1) ^ 2), .int 3] = some (.int ((lo1 b (c + 1) + 257 * (c + 1) ^ 2) ^ 3)) := pow3_ok (by omega)
  unfold lo1 at e5
  unfold pc at h ⊢
  simp [bScoop, nth, L2.atI, h, pot, truth, hf, hm, Slot.open, putD, L2.ixN, self, e1, e2, e3, e4, e5, lo1, lo2]
def PotOk (n : Nat) (d : D) : Prop := ∃ f b c : Int, d = pot f b c ∧ 0 ≤ f ∧ (0 ≤ b ∧ b < 2 ^ 200) ∧ 0 ≤ c ∧ c ≤ n
theorem PotOk.mono {m n : Nat} {d : D} (h : m ≤ n) (o : PotOk m d) : PotOk n d := by
  obtain ⟨f, b, c, e, h1, h2, h3, h4⟩ := o
  exact ⟨f, b, c, e, h1, h2, h3, by omega⟩
theorem scoop_call {fs : List FunI} {meth : Nat → Nat → Option Nat} {consts : List D} {k j p n : Nat} {hp : List Cell} {d : D} {m : Int} (hj : fs[j]? = some ⟨4, 2, bScoop⟩) (h : hp[p]? = some (pc d)) (ho : PotOk n d) (hn : n < 2 ^ 59) (hm : 0 < m) (hm2 : m < 2 ^ 30) :
    ∃ (r : Int) (d' : D), 0 ≤ r ∧ r < m ∧ PotOk (n + 1) d' ∧ callF fs meth consts (k + 1) j [.r p, .d (.int m)] hp = .ok (.d (.int r)) (hp.set p (pc d')) := by
  obtain ⟨f, b, c, rfl, h1, h2, h3, h4⟩ := ho
  by_cases hf : 0 < f
  · refine ⟨f % m, pot (f / m) b c, Int.emod_nonneg _ (by omega), Int.emod_lt_of_pos _ hm, ⟨_, _, _, rfl, Int.ediv_nonneg h1 (by omega), h2, h3, by omega⟩, ?_⟩
    unfold callF
    rw [hj]
    simp [noPk, scoop_hi h hf hm hm2]
  · refine ⟨lo2 b (c + 1) / 65537 % m, pot f b (c + 1), Int.emod_nonneg _ (by omega), Int.emod_lt_of_pos _ hm, ⟨_, _, _, rfl, h1, h2, by omega, by omega⟩, ?_⟩
    unfold callF
    rw [hj]
    simp [noPk, scoop_lo h hf hm h2 ⟨h3, by omega⟩]
end EV
end
section
set_option Elab.async false
set_option linter.all false
set_option maxRecDepth 100000
set_option maxHeartbeats 4000000
set_option autoImplicit false
/-! GS: the pot of figures; loops -/
namespace EV
open PySem
def potBody : CSs := (ss [
    (.set 1 (.op .add (cs [(.op .mul (cs [(.peek (.sl 1)), (.op .pow (cs [(.op .pow (cs [(.kst (.int 10)), (.kst (.int 40))])), (.kst (.int 10))]))])), (.op .mod (cs [(.op .max2 (cs [(.kst (.int 0)), (.op .sub (cs [(.op .abs (cs [(.peek (.sl 3))])), (.op .pow (cs [(.kst (.int 10)), (.kst (.int 18))]))]))])), (.op .pow (cs [(.op .pow (cs [(.kst (.int 10)), (.kst (.int 40))])), (.kst (.int 10))]))]))]))),
    (.set 2 (.op .mod (cs [(.op .add (cs [(.op .add (cs [(.op .mul (cs [(.peek (.sl 2)), (.kst (.int 48271))])), (.peek (.sl 3))])), (.kst (.int 131))])), (.kst (.int 170141183460469231731687303715884105727))])))])
def bPotA : CSs := (ss [
  (.set 1 (.kst (.int 0))),
  (.set 2 (.kst (.int 161803))),
  (.for (.nm 3) (.seq (.op .slice (cs [(.peek (.sl 0)), (.kst .none), (.op .toi (cs [(.kst (.int 50))]))]))) potBody),
  (.ret (.cell (.o .z) (.lst (cs [(.var 1), (.var 2), (.kst (.int 0))]))))])
def en : Nat := (10 ^ 40) ^ 10
def e400 : Int := (en : Nat)
theorem en_le : en ≤ 2 ^ 1400 := by
  have h : (10 ^ 40 : Nat) ≤ 2 ^ 140 := by decide
  have h2 := Nat.pow_le_pow_left h 10
  rw [← Nat.pow_mul] at h2
  exact h2
theorem en_pos : 0 < en := Nat.pow_pos (Nat.pow_pos (by decide))
theorem e400_pos : 0 < e400 := by
  unfold e400
  exact_mod_cast en_pos
def F4 (n : Nat) : Int := ((en ^ n : Nat) : Int)
theorem F4_succ (n : Nat) : F4 (n + 1) = F4 n * e400 := by
  unfold F4 e400
  rw [Nat.pow_succ]
  push_cast
  rfl
theorem F4_big {n : Nat} (hn : n ≤ 50) {f : Int} (h0 : 0 ≤ f) (h : f < F4 n) : f.natAbs < bigB := by
  have h1 : en ^ n ≤ 2 ^ (1400 * n) := by
    rw [Nat.pow_mul]
    exact Nat.pow_le_pow_left en_le n
  have h2 : (2 : Nat) ^ (1400 * n) ≤ 2 ^ 400000 := Nat.pow_le_pow_right (by decide) (by omega)
  have h3 : f.natAbs < en ^ n := by
    unfold F4 at h
    omega
  exact Nat.lt_of_lt_of_le h3 (Nat.le_trans h1 h2)
theorem e400_big : e400.natAbs < bigB := by
  have h1 : en < 2 ^ 1401 := Nat.lt_of_le_of_lt en_le (Nat.pow_lt_pow_right (by decide) (by decide))
  have h2 : (2 : Nat) ^ 1401 ≤ 2 ^ 400000 := Nat.pow_le_pow_right (by decide) (by decide)
  exact Nat.lt_of_lt_of_le h1 h2
theorem p10_40 : fPow [.int 10, .int 40] = some (.int 10000000000000000000000000000000000000000) := by
  rw [show fPow [.int 10, .int 40] = some (.int ((10 : Int) ^ 40)) from pow_ok (n := 4) 40 (by decide) (by decide)]
  rfl
theorem p10_400 : fPow [.int 10000000000000000000000000000000000000000, .int 10] = some (.int e400) := by
  rw [show fPow [.int 10000000000000000000000000000000000000000, .int 10] = some (.int ((10000000000000000000000000000000000000000 : Int) ^ 10)) from pow_ok (n := 140) 10 (by decide) (by decide)]
  have e : (10000000000000000000000000000000000000000 : Int) ^ 10 = e400 := by
    unfold e400 en
    decide +kernel
  rw [e]
theorem p10_18 : fPow [.int 10, .int 18] = some (.int 1000000000000000000) := by
  rw [show fPow [.int 10, .int 18] = some (.int ((10 : Int) ^ 18)) from pow_ok (n := 4) 18 (by decide) (by decide)]
  rfl
theorem d_mul {i j : Int} (h : i.natAbs < bigB) (h2 : j.natAbs < bigB) : fMul [.int i, .int j] = some (.int (i * j)) := by
  unfold fMul
  exact if_pos ⟨h, h2⟩
theorem d_slice0 {xs : List D} {l h : Option Int} {lo hi : D} (e1 : part? lo = some l) (e2 : part? hi = some h) : fSlice [.list xs, lo, hi] = some (.list (cut xs l h)) := by
  unfold fSlice
  simp only [e1, e2]
theorem pot_turn {P : Env} {hp : List Cell} {a : Vl} {f b c : Int} {s3 : Slot} (h3 : s3 = .non ∨ ∃ x, s3 = .v x) {n : Nat} (hn : n < 50) (h0 : 0 ≤ f) (h1 : f < F4 n) (hb : 0 ≤ b ∧ b < 2 ^ 130) :
    ∃ f' b' : Int, 0 ≤ f' ∧ f' < F4 (n + 1) ∧ (0 ≤ b' ∧ b' < 2 ^ 130) ∧ forTurn P (.nm 3) potBody false (.int c) ⟨[.v a, .v (.d (.int f)), .v (.d (.int b)), s3], hp⟩ = .nx ⟨[.v a, .v (.d (.int f')), .v (.d (.int b')), .v (.d (.int c))], hp⟩ := by
  have e1 : fMul [.int f, .int e400] = some (.int (f * e400)) := d_mul (F4_big (Nat.le_of_lt hn) h0 h1) e400_big
  have e2 : fMul [.int b, .int 48271] = some (.int (b * 48271)) := mul_ok (by omega) (by decide)
  have hE := e400_pos
  have q : ∀ x : Int, 0 ≤ x % e400 ∧ x % e400 < e400 := fun x => ⟨Int.emod_nonneg _ (by omega), Int.emod_lt_of_pos _ hE⟩
  have h5 : f * e400 ≤ (F4 n - 1) * e400 := Int.mul_le_mul_of_nonneg_right (by omega) (by omega)
  have h6 : (F4 n - 1) * e400 = F4 n * e400 - e400 := by rw [Int.sub_mul, Int.one_mul]
  have h7 : 0 ≤ f * e400 := Int.mul_nonneg h0 (by omega)
  refine ⟨f * e400 + (if (if c < 0 then -c else c) - 1000000000000000000 > 0 then (if c < 0 then -c else c) - 1000000000000000000 else 0) % e400, (b * 48271 + c + 131) % 170141183460469231731687303715884105727, ?_, ?_, ⟨Int.emod_nonneg _ (by decide), ?_⟩, ?_⟩
  · have := (q (if (if c < 0 then -c else c) - 1000000000000000000 > 0 then (if c < 0 then -c else c) - 1000000000000000000 else 0)).1
    omega
  · have := (q (if (if c < 0 then -c else c) - 1000000000000000000 > 0 then (if c < 0 then -c else c) - 1000000000000000000 else 0)).2
    rw [F4_succ]
    omega
  · have := Int.emod_lt_of_pos (b * 48271 + c + 131) (show (0 : Int) < 170141183460469231731687303715884105727 by decide)
    omega
  · rcases h3 with rfl | ⟨x, rfl⟩
    · simp [forTurn, potBody, p10_40, p10_400, p10_18, e1, e2, hE]
    · simp [forTurn, potBody, p10_40, p10_400, p10_18, e1, e2, hE]
theorem pot_loop {P : Env} {hp : List Cell} {a : Vl} : ∀ (cells : List Int) (n : Nat) (f b : Int) (s3 : Slot), (s3 = .non ∨ ∃ x, s3 = .v x) → n + cells.length ≤ 50 → 0 ≤ f → f < F4 n → (0 ≤ b ∧ b < 2 ^ 130) →
    ∃ (f' b' : Int) (s3' : Slot), 0 ≤ f' ∧ (0 ≤ b' ∧ b' < 2 ^ 130) ∧ forLoop (forTurn P (.nm 3) potBody false) (cells.map PyData.int) ⟨[.v a, .v (.d (.int f)), .v (.d (.int b)), s3], hp⟩ = .nx ⟨[.v a, .v (.d (.int f')), .v (.d (.int b')), s3'], hp⟩
  | [], n, f, b, s3, _, _, h0, _, hb => ⟨f, b, s3, h0, hb, rfl⟩
  | c :: r, n, f, b, s3, h3, hl, h0, h1, hb => by
    rw [List.length_cons] at hl
    obtain ⟨f1, b1, g0, g1, gb, e⟩ := pot_turn (P := P) (hp := hp) (a := a) (c := c) h3 (n := n) (by omega) h0 h1 hb
    obtain ⟨f2, b2, s2, k0, kb, e2⟩ := pot_loop (P := P) (hp := hp) (a := a) r (n + 1) f1 b1 (.v (.d (.int c))) (.inr ⟨_, rfl⟩) (by omega) g0 g1 gb
    refine ⟨f2, b2, s2, k0, kb, ?_⟩
    rw [List.map_cons, forLoop, e]
    exact e2
theorem cut_take (xs : List D) : cut xs none (some 50) = xs.take 50 := by
  unfold cut
  simp only [HT.sIx_none]
  rw [show HT.sIx xs.length xs.length (some 50) = min 50 xs.length from HT.sIx_nat xs.length _ 50, List.drop_zero]
  simp [List.take_eq_take_iff]
theorem potA_call {fs : List FunI} {meth : Nat → Nat → Option Nat} {consts : List D} {k j : Nat} (hj : fs[j]? = some ⟨4, 1, bPotA⟩) (ns : List Int) :
    ∃ d : D, PotOk 0 d ∧ callF fs meth consts (k + 1) j [.d (.list (ns.map .int))] [] = .ok (.r 0) [pc d] := by
  obtain ⟨f, b, s3, h0, hb, e⟩ := pot_loop (P := ⟨consts, callF fs meth consts k, callF fs meth consts (k - 1), meth⟩) (hp := []) (a := .d (.list (ns.map .int))) (ns.take 50) 0 0 161803 .non (.inl rfl) (by rw [List.length_take]; omega) (by decide) (by unfold F4; decide) (by decide)
  have e2 : fSlice [.list (ns.map .int), .none, .int 50] = some (.list ((ns.take 50).map .int)) := by
    rw [d_slice0 (l := none) (h := some 50) rfl rfl, cut_take, List.map_take]
  refine ⟨pot f b 0, ⟨f, b, 0, rfl, h0, ⟨hb.1, by omega⟩, by decide, by decide⟩, ?_⟩
  rw [List.map_take] at e e2
  unfold callF
  rw [hj]
  simp [noPk, bPotA, e2, e, lim, pot, pc]
end EV
end
section
set_option Elab.async false
set_option linter.all false
set_option maxRecDepth 100000
set_option maxHeartbeats 4000000
set_option autoImplicit false
/-! GW: plain facts for the laws -/
namespace EV
open PySem
/-! ### loops of like turns -/
theorem lcLoop_map {turn : D → Ste → Res (Option D)} {f : D → D} {s : Ste} : ∀ (xs acc : List D), (∀ x ∈ xs, turn x s = .ok (some (f x)) s) → lcLoop turn xs acc s = .ok (acc ++ xs.map f) s
  | [], acc, _ => by simp [lcLoop]
  | x :: xs, acc, h => by
    rw [lcLoop, h x List.mem_cons_self]
    show lcLoop turn xs (acc ++ [f x]) s = _
    rw [lcLoop_map xs _ fun y hy => h y (List.mem_cons_of_mem _ hy)]
    simp
theorem bools_map {α : Type} {f : α → Bool} : ∀ xs : List α, bools? (xs.map fun x => .bool (f x)) = some (xs.map f)
  | [] => rfl
  | x :: xs => by simp [bools?, bools_map xs]
theorem d_allb {α : Type} {f : α → Bool} (xs : List α) : fAll [.list (xs.map fun x => .bool (f x))] = some (.bool (xs.all f)) := by
  show (match bools? (xs.map fun x => .bool (f x)) with
      | some bs => some (PyData.bool (bs.all id))
      | none => none) = _
  rw [bools_map]
  simp [List.all_map]
theorem d_in1 {c : Nat} {z : Str} : fIn [.str ⟨#[c]⟩, .str z] = some (.bool (decide (c ∈ z.cps.toList))) := by
  show some (PyData.bool (occIn ⟨#[c]⟩ z)) = _
  unfold occIn
  rw [PySem.StrLaws.found_one]
theorem d_lens {z : Str} (h : z.length ≤ lim) : fLen [.str z] = some (.int z.length) := by
  show (if z.length ≤ lim then _ else none) = _
  rw [if_pos h]
theorem takeWhile_len {α : Type} {p : α → Bool} : ∀ {l : List α} {a : α} {r : List α}, l.dropWhile p = a :: r → (l.takeWhile p).length + (r.length + 1) = l.length
  | [], _, _, h => by simp at h
  | x :: l, a, r, h => by
    rw [List.dropWhile_cons] at h
    rw [List.takeWhile_cons]
    by_cases hx : p x = true
    · rw [if_pos hx] at h ⊢
      have := takeWhile_len h
      simp only [List.length_cons]
      omega
    · rw [if_neg hx] at h ⊢
      cases h
      simp
theorem drop_takeWhile {α : Type} {p : α → Bool} : ∀ (l : List α), l.drop (l.takeWhile p).length = l.dropWhile p
  | [] => rfl
  | x :: l => by
    rw [List.takeWhile_cons, List.dropWhile_cons]
    by_cases hx : p x = true
    · rw [if_pos hx, if_pos hx]
      exact drop_takeWhile l
    · rw [if_neg hx, if_neg hx]
      rfl
theorem takeWhile_stop {α : Type} {p : α → Bool} : ∀ (l : List α) (a : α), p a = false → (l ++ [a]).takeWhile p = l.takeWhile p
  | [], a, h => by simp [h]
  | x :: l, a, h => by
    rw [List.cons_append, List.takeWhile_cons, List.takeWhile_cons, takeWhile_stop l a h]
theorem dropWhile_head {α : Type} {p : α → Bool} : ∀ {l : List α} {a : α} {r : List α}, l.dropWhile p = a :: r → p a = false
  | [], _, _, h => by simp at h
  | x :: l, a, r, h => by
    rw [List.dropWhile_cons] at h
    by_cases hx : p x = true
    · rw [if_pos hx] at h; exact dropWhile_head h
    · rw [if_neg hx] at h
      cases h
      simpa using hx
theorem dropWhile_nil {α : Type} {p : α → Bool} : ∀ {l : List α}, l.dropWhile p = [] → l.all p = true
  | [], _ => rfl
  | x :: l, h => by
    rw [List.dropWhile_cons] at h
    by_cases hx : p x = true
    · rw [if_pos hx] at h
      rw [List.all_cons, hx, dropWhile_nil h]
      rfl
    · rw [if_neg hx] at h; cases h
theorem dropWhile_all {α : Type} {p : α → Bool} : ∀ {l : List α}, l.all p = true → l.dropWhile p = []
  | [], _ => rfl
  | x :: l, h => by
    rw [List.all_cons, Bool.and_eq_true] at h
    rw [List.dropWhile_cons, if_pos h.1]
    exact dropWhile_all h.2
theorem str_nil {z : Str} : (z == "") = z.cps.toList.isEmpty := by
  obtain ⟨⟨l⟩⟩ := z
  cases l with
  | nil => rfl
  | cons a r =>
    show ((⟨⟨a :: r⟩⟩ : Str) == (⟨⟨[]⟩⟩ : Str)) = false
    rw [beq_eq_false_iff_ne]
    intro h
    have h2 : (⟨a :: r⟩ : Array Nat) = ⟨[]⟩ := by injection h
    have h3 : a :: r = [] := by injection h2
    cases h3
/-- stripped of these signs nothing is left -/
theorem strip_none (z y : Str) : (Txt.stripChars z y == "") = z.cps.toList.all fun c => decide (c ∈ y.cps.toList) := by
  have hp : (fun c => decide (c ∈ y.cps.toList)) = y.cps.contains := by
    funext c
    rw [← Array.contains_toList]
    simp
  rw [hp, str_nil]
  unfold Txt.stripChars
  rw [PyProof.Rows.stripBy_eq]
  unfold Builtin.Str.strSub PySem.stripLo PySem.stripHi
  simp only [if_true]
  rw [Array.toList_extract, drop_takeWhile]
  have hz : z.length = z.cps.toList.length := by simp [Str.length]
  cases h : z.cps.toList.dropWhile y.cps.contains with
  | nil =>
    rw [dropWhile_nil h]
    have hl : (z.cps.toList.takeWhile y.cps.contains).length = z.length := by
      have := drop_takeWhile (p := y.cps.contains) z.cps.toList
      rw [h] at this
      have h2 := List.drop_eq_nil_iff.mp this
      have h3 := (List.takeWhile_sublist (l := z.cps.toList) y.cps.contains).length_le
      omega
    simp [List.extract_eq_take_drop, h, hl, drop_takeWhile]
  | cons a r =>
    have hall : z.cps.toList.all y.cps.contains = false := by
      cases hc : z.cps.toList.all y.cps.contains with
      | false => rfl
      | true => rw [dropWhile_all hc] at h; cases h
    rw [hall]
    have ha := dropWhile_head h
    have hl := takeWhile_len h
    have h5 : ((a :: r).reverse.takeWhile y.cps.contains).length ≤ r.length := by
      rw [List.reverse_cons, takeWhile_stop _ _ ha]
      have := (List.takeWhile_sublist (l := r.reverse) y.cps.contains).length_le
      rw [List.length_reverse] at this
      exact this
    rw [List.extract_eq_take_drop, drop_takeWhile, h]
    have : z.length - ((a :: r).reverse.takeWhile y.cps.contains).length - (z.cps.toList.takeWhile y.cps.contains).length = (z.length - ((a :: r).reverse.takeWhile y.cps.contains).length - (z.cps.toList.takeWhile y.cps.contains).length - 1) + 1 := by omega
    rw [this]
    rfl
theorem lim_ge {n : Nat} (h : n ≤ 1000) : n ≤ lim := Nat.le_trans h (by decide)
theorem d_strip {z y : Str} (h : z.length ≤ lim) : fStrip [.str z, .str y] = some (.str (Txt.stripChars z y)) := by
  show (if z.length ≤ lim then _ else none) = _
  rw [if_pos h]
theorem pl_str (z : Str) : plainD (.str z) = true := by simp [plainD, PyData.plain, PyData.depth]
theorem pl_int (z : Int) : plainD (.int z) = true := by simp [plainD, PyData.plain, PyData.depth]
theorem d_eqs (z y : Str) : fEq [.str z, .str y] = some (.bool (z == y)) := by simp [fEq, pl_str, PyData.eqv]
theorem d_nes (z y : Str) : fNe [.str z, .str y] = some (.bool (!(z == y))) := by simp [fNe, pl_str, PyData.eqv]
theorem d_eqi (z y : Int) : fEq [.int z, .int y] = some (.bool (z == y)) := by simp [fEq, pl_int, PyData.eqv]
theorem d_nei (z y : Int) : fNe [.int z, .int y] = some (.bool (!(z == y))) := by simp [fNe, pl_int, PyData.eqv]
theorem rng_one {n : Int} (h : -(2 ^ 60) < n ∧ n < 2 ^ 60) : rngItems [.int n] = some (iran 0 n.toNat) := by
  show (if -(2 ^ 60) < n ∧ n < 2 ^ 60 then some (iran 0 n.toNat) else none) = _
  rw [if_pos h]
theorem len_app (a b : Str) : (a ++ b).length = a.length + b.length := by
  show (a.cps ++ b.cps).size = _
  rw [Array.size_append]
  rfl
theorem len_cut (z : Str) (l h : Option Int) : (L2.cutS z l h).length ≤ z.length := by
  show ((z.cps.toList.drop (HT.sIx z.length 0 l)).take (HT.sIx z.length z.length h - HT.sIx z.length 0 l)).toArray.size ≤ z.length
  rw [List.size_toArray, List.length_take, List.length_drop]
  have : z.cps.toList.length = z.length := by simp [Str.length]
  omega
theorem len_rep (z : Str) (n : Nat) : (repS z n).length = n * z.length := by
  show ((List.replicate n z.cps.toList).flatten.toArray).size = _
  rw [List.size_toArray, List.length_flatten, List.map_replicate, List.sum_replicate_nat]
  simp [Str.length]
theorem d_adds {a b : Str} (h : a.length + b.length ≤ 1000) : fAdd [.str a, .str b] = some (.str (a ++ b)) := if_pos (lim_ge h)
theorem d_cut {z : Str} {lo hi : D} {l h : Option Int} (hz : z.length ≤ 1000) (e1 : part? lo = some l) (e2 : part? hi = some h) : fSlice [.str z, lo, hi] = some (.str (L2.cutS z l h)) := by
  unfold fSlice
  simp only [e1, e2]
  rw [if_pos (lim_ge hz)]
theorem nth_ok {xs : List D} {i : Int} (h0 : 0 ≤ i) (h1 : i < xs.length) : ∃ x ∈ xs, nth xs i = some x := by
  have hi : i.toNat < xs.length := by omega
  refine ⟨xs[i.toNat], List.getElem_mem hi, ?_⟩
  simp [nth, L2.atI, L2.ixN, h0, h1, hi]
theorem d_idxs {z : Str} {i : Int} (hz : z.length ≤ 1000) (h0 : 0 ≤ i) (h1 : i < z.length) : ∃ c, fIdx [.str z, .int i] = some (.str ⟨#[c]⟩) := by
  have hl : z.cps.toList.length = z.length := by simp [Str.length]
  have hi : i.toNat < z.cps.toList.length := by omega
  refine ⟨z.cps.toList[i.toNat], ?_⟩
  show (if z.length ≤ lim then (L2.atI z.cps.toList i).map fun c => PyData.str ⟨#[c]⟩ else none) = _
  rw [if_pos (lim_ge hz)]
  have e : L2.atI z.cps.toList i = some z.cps.toList[i.toNat] := by
    unfold L2.atI L2.ixN
    rw [if_pos h0, if_pos (by omega)]
    simp [List.getElem?_eq_getElem hi]
  rw [e]
  rfl
theorem bi_open {i : Nat} {x : D} {rho : List Slot} : bindT false (.nm i) x rho = if Slot.open rho[i]? = true then some (rho.set i (.v (.d x))) else none := by
  rw [bi_nm]
  rfl
theorem forLoop_inv {turn : D → Ste → Out} (I : Nat → Ste → Prop) : ∀ (xs : List D) (i : Nat) (s : Ste), (∀ (j : Nat) (x : D) (s : Ste), x ∈ xs → I j s → ∃ s', turn x s = .nx s' ∧ I (j + 1) s') → I i s → ∃ s', forLoop turn xs s = .nx s' ∧ I (i + xs.length) s'
  | [], i, s, _, h => ⟨s, rfl, h⟩
  | x :: xs, i, s, t, h => by
    obtain ⟨s1, e1, h1⟩ := t i x s List.mem_cons_self h
    obtain ⟨s2, e2, h2⟩ := forLoop_inv I xs (i + 1) s1 (fun j y s hy => t j y s (List.mem_cons_of_mem _ hy)) h1
    refine ⟨s2, by rw [forLoop, e1]; exact e2, ?_⟩
    rw [List.length_cons, Nat.add_comm xs.length 1, ← Nat.add_assoc]
    exact h2
theorem forLoop_invB {turn : D → Ste → Out} (I : Nat → Ste → Prop) (N : Nat) : ∀ (xs : List D) (i : Nat) (s : Ste), i + xs.length ≤ N → (∀ (j : Nat) (x : D) (s : Ste), x ∈ xs → j < N → I j s → ∃ s', turn x s = .nx s' ∧ I (j + 1) s') → I i s → ∃ s', forLoop turn xs s = .nx s' ∧ I (i + xs.length) s'
  | [], i, s, _, _, h => ⟨s, rfl, h⟩
  | x :: xs, i, s, hN, t, h => by
    rw [List.length_cons] at hN
    obtain ⟨s1, e1, h1⟩ := t i x s List.mem_cons_self (by omega) h
    obtain ⟨s2, e2, h2⟩ := forLoop_invB I N xs (i + 1) s1 (by omega) (fun j y s hy => t j y s (List.mem_cons_of_mem _ hy)) h1
    refine ⟨s2, by rw [forLoop, e1]; exact e2, ?_⟩
    rw [List.length_cons, Nat.add_comm xs.length 1, ← Nat.add_assoc]
    exact h2
theorem rep_b (b : Bool) : fRepr [.bool b] = some (.str (if b then "True" else "False")) := by cases b <;> kernel_rfl
/-! ### is_name, wherever it stands -/
def letters : Str := "abcdefghijklmnopqrstuvwxyz"
def isNm : D → Bool
  | .str z => decide (1 ≤ z.length) && (decide (z.length ≤ 8) && z.cps.toList.all fun c => decide (c ∈ letters.cps.toList))
  | _ => false
def Sm : D → Prop
  | .str z => z.length ≤ 1000
  | _ => True
def bName (gl gm : Nat) : CSs := (ss [
  (.ret (.and (.op (.isinst .str) (cs [(.peek (.sl 0))])) (.and (.chain .le .le (.kst (.int 1)) (.op .len (cs [(.peek (.sl 0))])) (.glob gm)) (.op .all (cs [(.lc [1] (.nm 1) (.seq (.peek (.sl 0))) (cs []) (.op .in_ (cs [(.peek (.sl 1)), (.glob gl)])))])))))])
theorem name_call {fs : List FunI} {meth : Nat → Nat → Option Nat} {consts : List D} {k j gl gm : Nat} {hp : List Cell} (hj : fs[j]? = some ⟨2, 1, bName gl gm⟩) (hl : consts[gl]? = some (.str letters)) (hm : consts[gm]? = some (.int 8)) : ∀ {x : D}, Sm x → callF fs meth consts (k + 1) j [.d x] hp = .ok (.d (.bool (isNm x))) hp := by
  intro x h
  rw [callF, hj]
  cases x with
  | str z =>
    have hz1 : z.length ≤ lim := lim_ge h
    have lp : lcLoop (lcTurn ⟨consts, callF fs meth consts k, callF fs meth consts (k - 1), meth⟩ [1] (.nm 1) .nil (.op .in_ (.cons (.peek (.sl 1)) (.cons (.glob gl) .nil))) false) (z.cps.toList.map fun c => .str ⟨#[c]⟩) [] ⟨[.v (.d (.str z)), .non], hp⟩ = .ok ((z.cps.toList.map fun c => PyData.bool (decide (c ∈ letters.cps.toList)))) ⟨[.v (.d (.str z)), .non], hp⟩ := by
      rw [lcLoop_map (f := fun d => match d with | .str y => .bool (decide (∀ c ∈ y.cps.toList, c ∈ letters.cps.toList)) | d => d)]
      · simp
      · intro x hx
        obtain ⟨c, _, rfl⟩ := List.mem_map.mp hx
        simp [lcTurn, hl, d_in1]
    have hs : z.cps.size ≤ lim := hz1
    by_cases h1 : (1 : Int) ≤ z.length
    · have h1' : 1 ≤ z.length := by omega
      by_cases h2 : (z.length : Int) ≤ 8
      · have h2' : z.length ≤ 8 := by omega
        simp [noPk, bName, isTy, d_lens hz1, hm, h1, h2, h1', h2', lp, hs, isNm, d_allb]
      · have h2' : ¬ z.length ≤ 8 := by omega
        simp [noPk, bName, isTy, d_lens hz1, hm, h1, h2, h1', h2', isNm]
    · have h1' : ¬ 1 ≤ z.length := by omega
      simp [noPk, bName, isTy, d_lens hz1, hm, h1, h1', isNm]
  | _ => simp [noPk, bName, isTy, isNm]
end EV
end
section
set_option Elab.async false
set_option linter.all false
set_option maxRecDepth 100000
set_option maxHeartbeats 4000000
set_option autoImplicit false
/-! GX: worlds judged, wherever the defs stand -/
namespace EV
open PySem
section
variable {fs : List FunI} {meth : Nat → Nat → Option Nat} {consts : List D} {k j : Nat} {hp : List Cell}
def isCt : D → Bool
  | .int i => decide (0 ≤ i)
  | _ => false
def bCount : CSs := (ss [
  (.ret (.and (.op (.isinst .int) (cs [(.peek (.sl 0))])) (.and (.not (.op (.isinst .bool) (cs [(.peek (.sl 0))]))) (.op .ge (cs [(.peek (.sl 0)), (.kst (.int 0))])))))])
theorem count_call (hj : fs[j]? = some ⟨1, 1, bCount⟩) (x : D) : callF fs meth consts (k + 1) j [.d x] hp = .ok (.d (.bool (isCt x))) hp := by
  rw [callF, hj]
  cases x with
  | int i => simp [noPk, bCount, isTy, isCt]
  | _ => simp [noPk, bCount, isTy, isCt]
def isB : D → Bool
  | .bool _ => true
  | _ => false
def isGr : D → Bool
  | .tuple [a, b] => isNm a && isB b
  | _ => false
def bGrow (n : Nat) : CSs := (ss [
  (.ret (.and (.op (.isinst .tuple) (cs [(.peek (.sl 0))])) (.and (.op .eq (cs [(.op .len (cs [(.peek (.sl 0))])), (.kst (.int 2))])) (.and (.call n (cs [(.op .idx (cs [(.peek (.sl 0)), (.kst (.int 0))]))])) (.op (.isinst .bool) (cs [(.op .idx (cs [(.peek (.sl 0)), (.kst (.int 1))]))]))))))])
theorem grow_call {n gl gm : Nat} (hj : fs[j]? = some ⟨1, 1, bGrow n⟩) (hn : fs[n]? = some ⟨2, 1, bName gl gm⟩) (hl : consts[gl]? = some (.str letters)) (hm : consts[gm]? = some (.int 8)) {x : D} (hx : ∀ xs, x = .tuple xs → ∀ y ∈ xs, Sm y) :
    callF fs meth consts (k + 2) j [.d x] hp = .ok (.d (.bool (isGr x))) hp := by
  rw [callF, hj]
  cases x with
  | tuple xs =>
    by_cases h2 : xs.length = 2
    · match xs, h2 with
      | [a, b], _ =>
        have ha := name_call (meth := meth) (k := k) (hp := hp) hn hl hm (x := a) (hx _ rfl a (by simp))
        cases e1 : isNm a with
        | true =>
          rw [e1] at ha
          cases b <;> simp [noPk, bGrow, isTy, d_eqi, nth, L2.atI, L2.ixN, ha, e1, isGr, isB]
        | false =>
          rw [e1] at ha
          simp [noPk, bGrow, isTy, d_eqi, nth, L2.atI, L2.ixN, ha, e1, isGr]
    · have h2' : ((xs.length : Int) == 2) = false := by
        rw [beq_eq_false_iff_ne]
        omega
      have e : isGr (.tuple xs) = false := by
        match xs, h2 with
        | [], _ => rfl
        | [_], _ => rfl
        | [_, _], h2 => exact (h2 rfl).elim
        | _ :: _ :: _ :: _, _ => rfl
      simp [noPk, bGrow, isTy, d_eqi, h2', e]
  | _ => simp [noPk, bGrow, isTy, isGr]
def diffS (xs : List D) : Bool := match strs? xs with
  | some ts => cntS ts ts.length == ts.length
  | none => false
def isOr (gs : List D) : D → Bool
  | .list xs => xs.all isNm && (diffS xs && xs.all fun x => inD x gs)
  | _ => false
theorem strs_nm : ∀ {xs : List D}, xs.all isNm = true → ∃ ts, strs? xs = some ts ∧ ts.length = xs.length
  | [], _ => ⟨[], rfl, rfl⟩
  | x :: xs, h => by
    rw [List.all_cons, Bool.and_eq_true] at h
    obtain ⟨ts, e, l⟩ := strs_nm h.2
    cases x with
    | str z => exact ⟨z :: ts, by simp [strs?, e], by simp [l]⟩
    | _ => cases h.1
theorem nm_plain {x : D} (h : isNm x = true) : plainD x = true := by
  cases x with
  | str z => exact pl_str z
  | _ => cases h
def bOrder (n : Nat) : CSs := (ss [
  (.ite (.or (.not (.op (.isinst .list) (cs [(.peek (.sl 0))]))) (.not (.op .all (cs [(.lc [2] (.nm 2) (.seq (.peek (.sl 0))) (cs []) (.call n (cs [(.var 2)])))])))) (ss [
    (.ret (.kst (.bool false)))]) (ss [])),
  (.ret (.and (.op .eq (cs [(.op .setlen (cs [(.peek (.sl 0))])), (.op .len (cs [(.peek (.sl 0))]))])) (.op .all (cs [(.lc [2] (.nm 2) (.seq (.peek (.sl 0))) (cs []) (.op .in_ (cs [(.peek (.sl 2)), (.peek (.sl 1))])))]))))])
theorem order_call {n gl gm : Nat} {gs : List D} (hj : fs[j]? = some ⟨3, 2, bOrder n⟩) (hn : fs[n]? = some ⟨2, 1, bName gl gm⟩) (hl : consts[gl]? = some (.str letters)) (hm : consts[gm]? = some (.int 8)) {x : D} (hx : ∀ xs, x = .list xs → xs.length ≤ 1000 ∧ ∀ y ∈ xs, Sm y) (hg : gs.all plainD = true) :
    callF fs meth consts (k + 2) j [.d x, .d (.list gs)] hp = .ok (.d (.bool (isOr gs x))) hp := by
  rw [callF, hj]
  cases x with
  | list xs =>
    obtain ⟨few, small⟩ := hx xs rfl
    have c1 : xs.length ≤ lim := lim_ge few
    have l1 : lcLoop (lcTurn ⟨consts, callF fs meth consts (k + 1), callF fs meth consts k, meth⟩ [2] (.nm 2) .nil (.call n (.cons (.var 2) .nil)) false) xs [] ⟨[.v (.d (.list xs)), .v (.d (.list gs)), .non], hp⟩ = .ok (xs.map fun d => PyData.bool (isNm d)) ⟨[.v (.d (.list xs)), .v (.d (.list gs)), .non], hp⟩ := by
      rw [lcLoop_map (f := fun d => .bool (isNm d))]
      · simp
      · intro y hy
        simp [lcTurn, name_call hn hl hm (small y hy)]
    cases e1 : xs.all isNm with
    | false => simp [noPk, bOrder, isTy, l1, c1, d_allb, e1, isOr]
    | true =>
      obtain ⟨ts, et, lt⟩ := strs_nm e1
      have l2 : lcLoop (lcTurn ⟨consts, callF fs meth consts (k + 1), callF fs meth consts k, meth⟩ [2] (.nm 2) .nil (.op .in_ (.cons (.peek (.sl 2)) (.cons (.peek (.sl 1)) .nil))) false) xs [] ⟨[.v (.d (.list xs)), .v (.d (.list gs)), .non], hp⟩ = .ok (xs.map fun d => PyData.bool (inD d gs)) ⟨[.v (.d (.list xs)), .v (.d (.list gs)), .non], hp⟩ := by
        rw [lcLoop_map (f := fun d => .bool (inD d gs))]
        · simp
        · intro y hy
          have py := nm_plain (List.all_eq_true.mp e1 y hy)
          have fi : fIn [y, .list gs] = some (.bool (inD y gs)) := by
            cases y with
            | str z => show (if plainD (.str z) && gs.all plainD then some (PyData.bool (inD (.str z) gs)) else none) = _; rw [hg, py]; rfl
            | _ => cases List.all_eq_true.mp e1 _ hy
          simp [lcTurn, fi]
      have sl : fSetlen [.list xs] = some (.int (cntS ts ts.length)) := by
        show (match strs? xs with
          | some ts => if ts.length < 4000 then some (PyData.int (cntS ts ts.length)) else none
          | none => none) = _
        rw [et]
        exact if_pos (by omega)
      have dd : diffS xs = (cntS ts ts.length == ts.length) := by unfold diffS; rw [et]
      have ei : ((cntS ts ts.length : Int) == (xs.length : Int)) = (cntS ts ts.length == ts.length) := by
        rw [lt, Bool.eq_iff_iff, beq_iff_eq, beq_iff_eq]
        omega
      cases e2 : (cntS ts ts.length == ts.length) with
      | false => rw [e2] at ei dd; simp [noPk, bOrder, isTy, l1, c1, d_allb, e1, isOr, sl, d_eqi, ei, dd]
      | true => rw [e2] at ei dd; simp [noPk, bOrder, isTy, l1, l2, c1, d_allb, e1, isOr, sl, d_eqi, ei, dd]
  | _ => simp [noPk, bOrder, isTy, isOr]
def isHr (gs : List D) : D → Bool
  | .tuple [a, b, c] => isNm a && (isCt b && isOr gs c)
  | _ => false
def bHrow (n ct o : Nat) : CSs := (ss [
  (.ite (.or (.not (.op (.isinst .tuple) (cs [(.peek (.sl 0))]))) (.or (.op .ne (cs [(.op .len (cs [(.peek (.sl 0))])), (.kst (.int 3))])) (.not (.call n (cs [(.op .idx (cs [(.peek (.sl 0)), (.kst (.int 0))]))]))))) (ss [
    (.ret (.kst (.bool false)))]) (ss [])),
  (.ret (.and (.call ct (cs [(.op .idx (cs [(.peek (.sl 0)), (.kst (.int 1))]))])) (.call o (cs [(.op .idx (cs [(.peek (.sl 0)), (.kst (.int 2))])), (.var 1)]))))])
theorem hrow_call {n ct o gl gm : Nat} {gs : List D} (hj : fs[j]? = some ⟨2, 2, bHrow n ct o⟩) (hn : fs[n]? = some ⟨2, 1, bName gl gm⟩) (hc : fs[ct]? = some ⟨1, 1, bCount⟩) (ho : fs[o]? = some ⟨3, 2, bOrder n⟩) (hl : consts[gl]? = some (.str letters)) (hm : consts[gm]? = some (.int 8)) {x : D}
    (hx : ∀ a b c, x = .tuple [a, b, c] → Sm a ∧ ∀ xs, c = .list xs → xs.length ≤ 1000 ∧ ∀ y ∈ xs, Sm y) (hg : gs.all plainD = true) :
    callF fs meth consts (k + 3) j [.d x, .d (.list gs)] hp = .ok (.d (.bool (isHr gs x))) hp := by
  rw [callF, hj]
  cases x with
  | tuple xs =>
    by_cases h2 : xs.length = 3
    · match xs, h2 with
      | [a, b, c], _ =>
        obtain ⟨sa, sc⟩ := hx a b c rfl
        have ha := name_call (meth := meth) (k := k + 1) (hp := hp) hn hl hm (x := a) sa
        have hb := count_call (meth := meth) (k := k + 1) (hp := hp) (consts := consts) hc b
        have hcc := order_call (meth := meth) (k := k) (hp := hp) ho hn hl hm (x := c) sc hg
        cases e1 : isNm a with
        | false =>
          rw [e1] at ha
          simp [noPk, bHrow, isTy, d_nei, nth, L2.atI, L2.ixN, ha, e1, isHr]
        | true =>
          rw [e1] at ha
          cases e2 : isCt b with
          | false =>
            rw [e2] at hb
            simp [noPk, bHrow, isTy, d_nei, nth, L2.atI, L2.ixN, ha, hb, e1, e2, isHr]
          | true =>
            rw [e2] at hb
            simp [noPk, bHrow, isTy, d_nei, nth, L2.atI, L2.ixN, ha, hb, hcc, e1, e2, isHr]
    · have h2' : ((xs.length : Int) == 3) = false := by
        rw [beq_eq_false_iff_ne]
        omega
      have e : isHr gs (.tuple xs) = false := by
        match xs, h2 with
        | [], _ => rfl
        | [_], _ => rfl
        | [_, _], _ => rfl
        | [_, _, _], h2 => exact (h2 rfl).elim
        | _ :: _ :: _ :: _ :: _, _ => rfl
      simp [noPk, bHrow, isTy, d_nei, h2', e]
  | _ => simp [noPk, bHrow, isTy, isHr]
/-- the first part of a row -/
def fst1 : D → D
  | .tuple (a :: _) => a
  | d => d
def isWd : D → Bool
  | .tuple [.list hs, .list gs] => gs.all isGr && (hs.all (isHr (gs.map fst1)) && diffS (gs.map fst1 ++ hs.map fst1))
  | _ => false
theorem gr_at {x : D} (h : isGr x = true) : ∃ a b, x = .tuple [a, b] ∧ isNm a = true := by
  match x, h with
  | .tuple [a, b], h =>
    rw [isGr, Bool.and_eq_true] at h
    exact ⟨a, b, rfl, h.1⟩
theorem hr_at {gs : List D} {x : D} (h : isHr gs x = true) : ∃ a b c, x = .tuple [a, b, c] ∧ isNm a = true := by
  match x, h with
  | .tuple [a, b, c], h =>
    rw [isHr, Bool.and_eq_true] at h
    exact ⟨a, b, c, rfl, h.1⟩
def bWorld (gr hr : Nat) : CSs := (ss [
  (.ite (.or (.not (.op (.isinst .tuple) (cs [(.peek (.sl 0))]))) (.or (.op .ne (cs [(.op .len (cs [(.peek (.sl 0))])), (.kst (.int 2))])) (.not (.op .all (cs [(.lc [1] (.nm 1) (.seq (.peek (.sl 0))) (cs []) (.op (.isinst .list) (cs [(.peek (.sl 1))])))]))))) (ss [
    (.ret (.kst (.bool false)))]) (ss [])),
  (.setT [(.nm 2), (.nm 3)] (.var 0)),
  (.ite (.not (.op .all (cs [(.lc [4] (.nm 4) (.seq (.peek (.sl 3))) (cs []) (.call gr (cs [(.var 4)])))]))) (ss [
    (.ret (.kst (.bool false)))]) (ss [])),
  (.set 5 (.lc [6, 7] (.tp [(.nm 6), (.nm 7)]) (.seq (.peek (.sl 3))) (cs []) (.var 6))),
  (.ite (.not (.op .all (cs [(.lc [4] (.nm 4) (.seq (.peek (.sl 2))) (cs []) (.call hr (cs [(.var 4), (.var 5)])))]))) (ss [
    (.ret (.kst (.bool false)))]) (ss [])),
  (.set 5 (.op .add (cs [(.peek (.sl 5)), (.lc [4] (.nm 4) (.seq (.peek (.sl 2))) (cs []) (.op .idx (cs [(.peek (.sl 4)), (.kst (.int 0))])))]))),
  (.ret (.op .eq (cs [(.op .setlen (cs [(.peek (.sl 5))])), (.op .len (cs [(.peek (.sl 5))]))])))])
theorem nms_plain : ∀ {gs : List D}, gs.all isGr = true → (gs.map fst1).all plainD = true ∧ (gs.map fst1).all isNm = true
  | [], _ => ⟨rfl, rfl⟩
  | g :: gs, h => by
    rw [List.all_cons, Bool.and_eq_true] at h
    obtain ⟨h1, h2⟩ := nms_plain h.2
    obtain ⟨a, b, rfl, ha⟩ := gr_at h.1
    simp only [List.map_cons, List.all_cons, h1, h2, Bool.and_true]
    exact ⟨nm_plain ha, ha⟩
theorem setlen_of {xs : List D} (h : xs.all isNm = true) (hl : xs.length < 4000) : ∃ c : Nat, fSetlen [.list xs] = some (.int c) ∧ ((c : Int) == (xs.length : Int)) = diffS xs := by
  obtain ⟨ts, et, lt⟩ := strs_nm h
  refine ⟨cntS ts ts.length, ?_, ?_⟩
  · show (match strs? xs with
      | some ts => if ts.length < 4000 then some (PyData.int (cntS ts ts.length)) else none
      | none => none) = _
    rw [et]
    exact if_pos (by omega)
  · unfold diffS
    rw [et, ← lt, Bool.eq_iff_iff]
    show _ ↔ (cntS ts ts.length == ts.length) = true
    rw [beq_iff_eq, beq_iff_eq]
    omega
theorem lim_ge2 {n : Nat} (h : n ≤ 100000) : n ≤ lim := Nat.le_trans h (by decide)
theorem world_call {gr hr n ct o gl gm : Nat} (hj : fs[j]? = some ⟨8, 1, bWorld gr hr⟩) (hgr : fs[gr]? = some ⟨1, 1, bGrow n⟩) (hhr : fs[hr]? = some ⟨2, 2, bHrow n ct o⟩) (hn : fs[n]? = some ⟨2, 1, bName gl gm⟩) (hc : fs[ct]? = some ⟨1, 1, bCount⟩) (ho : fs[o]? = some ⟨3, 2, bOrder n⟩) (hl : consts[gl]? = some (.str letters)) (hm : consts[gm]? = some (.int 8))
    {hs gs : List D} (fh : hs.length ≤ 1000) (fg : gs.length ≤ 1000) (sg : ∀ x ∈ gs, ∀ xs, x = .tuple xs → ∀ y ∈ xs, Sm y) (sh : ∀ x ∈ hs, ∀ a b c, x = .tuple [a, b, c] → Sm a ∧ ∀ xs, c = .list xs → xs.length ≤ 1000 ∧ ∀ y ∈ xs, Sm y) :
    callF fs meth consts (k + 4) j [.d (.tuple [.list hs, .list gs])] hp = .ok (.d (.bool (isWd (.tuple [.list hs, .list gs])))) hp := by
  rw [callF, hj]
  have ch : hs.length ≤ 1000000 := lim_ge fh
  have cg : gs.length ≤ 1000000 := lim_ge fg
  have l0 : ∀ w, lcLoop (lcTurn ⟨consts, callF fs meth consts (k + 3), callF fs meth consts (k + 2), meth⟩ [1] (.nm 1) .nil (.op (.isinst .list) (.cons (.peek (.sl 1)) .nil)) false) [.list hs, .list gs] [] ⟨[.v (.d w), .non, .non, .non, .non, .non, .non, .non], hp⟩ = .ok [.bool true, .bool true] ⟨[.v (.d w), .non, .non, .non, .non, .non, .non, .non], hp⟩ := fun w => by
    rw [lcLoop_map (f := fun _ => .bool true)]
    · simp
    · intro y hy
      simp only [List.mem_cons, List.not_mem_nil, or_false] at hy
      rcases hy with rfl | rfl <;> simp [lcTurn, isTy]
  have a0 : fAll [.list [.bool true, .bool true]] = some (.bool true) := rfl
  have l1 : ∀ w, lcLoop (lcTurn ⟨consts, callF fs meth consts (k + 3), callF fs meth consts (k + 2), meth⟩ [4] (.nm 4) .nil (.call gr (.cons (.var 4) .nil)) false) gs [] ⟨[.v (.d w), .non, .v (.d (.list hs)), .v (.d (.list gs)), .non, .non, .non, .non], hp⟩ = .ok (gs.map fun d => PyData.bool (isGr d)) ⟨[.v (.d w), .non, .v (.d (.list hs)), .v (.d (.list gs)), .non, .non, .non, .non], hp⟩ := fun w => by
    rw [lcLoop_map (f := fun d => .bool (isGr d))]
    · simp
    · intro y hy
      simp [lcTurn, grow_call (k := k + 1) (hp := hp) hgr hn hl hm (sg y hy)]
  cases e1 : gs.all isGr with
  | false => simp [noPk, bWorld, isTy, d_nei, l0, a0, l1, ch, cg, d_allb, e1, isWd, lim]
  | true =>
    obtain ⟨pn, nn⟩ := nms_plain e1
    have cn : (gs.map fst1).length ≤ 1000000 := by rw [List.length_map]; exact cg
    have l2 : ∀ w, lcLoop (lcTurn ⟨consts, callF fs meth consts (k + 3), callF fs meth consts (k + 2), meth⟩ [6, 7] (.tp [.nm 6, .nm 7]) .nil (.var 6) false) gs [] ⟨[.v (.d w), .non, .v (.d (.list hs)), .v (.d (.list gs)), .non, .non, .non, .non], hp⟩ = .ok (gs.map fst1) ⟨[.v (.d w), .non, .v (.d (.list hs)), .v (.d (.list gs)), .non, .non, .non, .non], hp⟩ := fun w => by
      rw [lcLoop_map (f := fst1)]
      · simp
      · intro y hy
        obtain ⟨a, b, rfl, _⟩ := gr_at (List.all_eq_true.mp e1 y hy)
        simp [lcTurn, fst1]
    have l3 : ∀ w, lcLoop (lcTurn ⟨consts, callF fs meth consts (k + 3), callF fs meth consts (k + 2), meth⟩ [4] (.nm 4) .nil (.call hr (.cons (.var 4) (.cons (.var 5) .nil))) false) hs [] ⟨[.v (.d w), .non, .v (.d (.list hs)), .v (.d (.list gs)), .non, .v (.d (.list (gs.map fst1))), .non, .non], hp⟩ = .ok (hs.map fun d => PyData.bool (isHr (gs.map fst1) d)) ⟨[.v (.d w), .non, .v (.d (.list hs)), .v (.d (.list gs)), .non, .v (.d (.list (gs.map fst1))), .non, .non], hp⟩ := fun w => by
      rw [lcLoop_map (f := fun d => .bool (isHr (gs.map fst1) d))]
      · simp
      · intro y hy
        simp [lcTurn, hrow_call (k := k) (hp := hp) hhr hn hc ho hl hm (sh y hy) pn]
    cases e2 : hs.all (isHr (gs.map fst1)) with
    | false => simp [noPk, bWorld, isTy, d_nei, l0, a0, l1, l2, l3, ch, cg, cn, d_allb, e1, e2, isWd, lim]
    | true =>
      have l4 : ∀ w, lcLoop (lcTurn ⟨consts, callF fs meth consts (k + 3), callF fs meth consts (k + 2), meth⟩ [4] (.nm 4) .nil (.op .idx (.cons (.peek (.sl 4)) (.cons (.kst (.int 0)) .nil))) false) hs [] ⟨[.v (.d w), .non, .v (.d (.list hs)), .v (.d (.list gs)), .non, .v (.d (.list (gs.map fst1))), .non, .non], hp⟩ = .ok (hs.map fst1) ⟨[.v (.d w), .non, .v (.d (.list hs)), .v (.d (.list gs)), .non, .v (.d (.list (gs.map fst1))), .non, .non], hp⟩ := fun w => by
        rw [lcLoop_map (f := fst1)]
        · simp
        · intro y hy
          obtain ⟨a, b, c, rfl, _⟩ := hr_at (List.all_eq_true.mp e2 y hy)
          simp [lcTurn, fst1, nth, L2.atI, L2.ixN]
      have nh : (hs.map fst1).all isNm = true := by
        rw [List.all_eq_true]
        intro y hy
        obtain ⟨x, hx, rfl⟩ := List.mem_map.mp hy
        obtain ⟨a, b, c, rfl, ha⟩ := hr_at (List.all_eq_true.mp e2 x hx)
        exact ha
      have na : (gs.map fst1 ++ hs.map fst1).all isNm = true := by rw [List.all_append, nn, nh]; rfl
      have fa : fAdd [.list (gs.map fst1), .list (hs.map fst1)] = some (.list (gs.map fst1 ++ hs.map fst1)) := if_pos (by rw [List.length_map, List.length_map]; exact lim_ge2 (by omega))
      obtain ⟨c, es, ec⟩ := setlen_of na (by rw [List.length_append, List.length_map, List.length_map]; omega)
      have ec' : ((c : Int) == (gs.length : Int) + (hs.length : Int)) = diffS (gs.map fst1 ++ hs.map fst1) := by rw [← ec, List.length_append, List.length_map, List.length_map]; rfl
      simp [noPk, bWorld, isTy, d_nei, l0, a0, l1, l2, l3, l4, ch, cg, cn, d_allb, e1, e2, isWd, lim, fa, es, d_eqi, ec']
end
end EV
end
section
set_option Elab.async false
set_option linter.all false
set_option maxRecDepth 100000
set_option maxHeartbeats 4000000
set_option autoImplicit false
/-! GY: plain facts on pairs of texts in order, unlike names, drawn orders -/
namespace EV
open PySem
/-! ### pairs of texts -/
def prS (p : Str × Str) : D := .tuple [.str p.1, .str p.2]
def isPr : D → Bool
  | .tuple [.str _, .str _] => true
  | _ => false
def unPr : D → Str × Str
  | .tuple [.str a, .str b] => (a, b)
  | _ => (Str.empty, Str.empty)
theorem pr_un {x : D} (h : isPr x = true) : prS (unPr x) = x := by
  match x, h with
  | .tuple [.str _, .str _], _ => rfl
theorem prs_un : ∀ {l : List D}, l.all isPr = true → (l.map unPr).map prS = l
  | [], _ => rfl
  | x :: l, h => by
    rw [List.all_cons, Bool.and_eq_true] at h
    rw [List.map_cons, List.map_cons, prs_un h.2, pr_un h.1]
def leP (p q : Str × Str) : Bool := PySem.W.dataLe false id (prS p) (prS q)
theorem leP_lt (p q : Str × Str) : leP p q = !PySem.W.dataLt (prS q) (prS p) := rfl
theorem str_ext {a b : Str} (h : a.cps.toList = b.cps.toList) : a = b := by
  obtain ⟨⟨x⟩⟩ := a
  obtain ⟨⟨y⟩⟩ := b
  cases h
  rfl
theorem str_lt2 {a b : Str} (h1 : ¬ a.cps.toList < b.cps.toList) (h2 : ¬ b.cps.toList < a.cps.toList) : a = b :=
  str_ext (List.le_antisymm (List.not_lt.mp h2) (List.not_lt.mp h1))
theorem leP_anti (p q : Str × Str) (h1 : leP p q = true) (h2 : leP q p = true) : p = q := by
  rw [leP_lt, Bool.not_eq_true'] at h1 h2
  unfold prS at h1 h2
  rw [PySem.W.dataLt_pair (by simp [PySem.W.alike]) (by simp [PySem.W.alike]), PySem.W.dataLt_str, PySem.W.dataLt_str] at h1 h2
  have e1 : p.1 = q.1 := by
    cases e : PyData.eqv (.str q.1) (.str p.1) with
    | true => simpa [PyData.eqv] using (by simpa [PyData.eqv] using e : q.1 = p.1).symm
    | false =>
      have e' : PyData.eqv (.str p.1) (.str q.1) = false := by
        simp only [PyData.eqv, beq_eq_false_iff_ne] at e ⊢
        exact fun h => e h.symm
      rw [e] at h1
      rw [e'] at h2
      simp only [Bool.false_eq_true, if_false, decide_eq_false_iff_not] at h1 h2
      exact str_lt2 h2 h1
  have e2 : p.2 = q.2 := by
    have t1 : PyData.eqv (.str q.1) (.str p.1) = true := by simp [PyData.eqv, e1]
    have t2 : PyData.eqv (.str p.1) (.str q.1) = true := by simp [PyData.eqv, e1]
    rw [if_pos t1] at h1
    rw [if_pos t2] at h2
    cases e : PyData.eqv (.str q.2) (.str p.2) with
    | true => exact (by simpa [PyData.eqv] using e : q.2 = p.2).symm
    | false =>
      have e' : PyData.eqv (.str p.2) (.str q.2) = false := by
        simp only [PyData.eqv, beq_eq_false_iff_ne] at e ⊢
        exact fun h => e h.symm
      rw [e] at h1
      rw [e'] at h2
      simp only [Bool.false_eq_true, if_false, decide_eq_false_iff_not] at h1 h2
      exact str_lt2 h2 h1
  exact Prod.ext e1 e2
theorem leP_total : PySem.W.TotalLe leP := PySem.W.sortLe_total (PyProof.Rows.listOrd PyProof.Rows.itemOrd) false fun p : Str × Str => PySem.W.keyToks (prS p)
theorem sortP_perm {l m : List (Str × Str)} (h : l.Perm m) : l.mergeSort leP = m.mergeSort leP :=
  PySem.W.Srt.the_of_perm leP leP_total.trans (fun x y => Bool.or_eq_true_iff.mpr (leP_total.total x y)) leP_anti ((List.mergeSort_perm l _).trans h) (PySem.W.sort_pairwise leP_total l)
theorem sort_prs (l : List (Str × Str)) : (l.map prS).mergeSort (PySem.W.dataLe false id) = (l.mergeSort leP).map prS :=
  (PySem.W.sort_maps prS fun _ _ _ _ => rfl).symm
def srt (l : List D) : List D := l.mergeSort (PySem.W.dataLe false id)
theorem srt_perm {l m : List D} (hl : l.all isPr = true) (h : l.Perm m) : srt l = srt m := by
  have hm : m.all isPr = true := by
    rw [List.all_eq_true] at hl ⊢
    exact fun x hx => hl x (h.mem_iff.mpr hx)
  unfold srt
  rw [← prs_un hl, ← prs_un hm, sort_prs, sort_prs, sortP_perm (h.map unPr)]
theorem srt_mem {l : List D} : (srt l).Perm l := List.mergeSort_perm _ _
theorem srt_pr {l : List D} (hl : l.all isPr = true) : (srt l).all isPr = true := by
  rw [List.all_eq_true] at hl ⊢
  exact fun x hx => hl x (srt_mem.mem_iff.mp hx)
theorem srt_app {l m : List D} (hl : l.all isPr = true) (hm : m.all isPr = true) : srt (srt l ++ m) = srt (l ++ m) := by
  refine srt_perm ?_ (List.Perm.append_right _ srt_mem)
  rw [List.all_append, srt_pr hl, hm]
  rfl
theorem pr_alike {a b : D} (h : isPr a = true) (h' : isPr b = true) : PySem.W.alike a b = true := by
  match a, h, b, h' with
  | .tuple [.str _, .str _], _, .tuple [.str _, .str _], _ => simp [PySem.W.alike, PySem.W.alikeAll]
theorem pr_plain {a : D} (h : isPr a = true) : a.plain = true ∧ a.depth = 1 := by
  match a, h with
  | .tuple [.str _, .str _], _ => exact ⟨by simp [PyData.plain, PyData.plainAll], by simp [PyData.depth, PyData.depthAll]⟩
theorem prs_plain : ∀ {l : List D}, l.all isPr = true → PyData.plainAll l = true ∧ PyData.depthAll l ≤ 1
  | [], _ => ⟨by simp [PyData.plainAll], by simp [PyData.depthAll]⟩
  | x :: l, h => by
    rw [List.all_cons, Bool.and_eq_true] at h
    obtain ⟨h1, h2⟩ := prs_plain h.2
    obtain ⟨h3, h4⟩ := pr_plain h.1
    exact ⟨by simp [PyData.plainAll, h1, h3], by simp only [PyData.depthAll, h4]; omega⟩
theorem pl_prs {l : List D} (h : l.all isPr = true) : plainD (.list l) = true := by
  obtain ⟨h1, h2⟩ := prs_plain h
  unfold plainD
  rw [show (PyData.list l).plain = true by rw [PyData.plain]; exact h1, show (PyData.list l).depth = PyData.depthAll l + 1 by rw [PyData.depth], Bool.true_and, decide_eq_true_eq]
  omega
theorem pr_pl {a : D} (h : isPr a = true) : plainD a = true := by
  obtain ⟨h1, h2⟩ := pr_plain h
  unfold plainD
  simp only [h1, h2, Bool.true_and, decide_eq_true_eq]
  omega
theorem sort_ok {l : List D} (h : l.all isPr = true) (hl : l.length ≤ lim) : sortOk l = true := by
  have h' := List.all_eq_true.mp h
  unfold sortOk
  rw [Bool.and_eq_true, Bool.and_eq_true, Bool.and_eq_true]
  refine ⟨⟨⟨?_, ?_⟩, ?_⟩, decide_eq_true hl⟩
  · exact List.all_eq_true.mpr fun a ha => List.all_eq_true.mpr fun b hb => pr_alike (h' a ha) (h' b hb)
  · rw [Bool.or_eq_true]
    refine .inl (List.all_eq_true.mpr fun a ha => ?_)
    have := h' a ha
    match a, this with
    | .tuple [.str _, .str _], _ => rfl
  · exact List.all_eq_true.mpr fun a ha => pr_pl (h' a ha)
theorem d_srt {l : List D} (h : l.all isPr = true) (hl : l.length ≤ lim) : fSorted [.list l] = some (.list (srt l)) := if_pos (sort_ok h hl)
theorem ne_self {a : D} (h : plainD a = true) : fNe [a, a] = some (.bool false) := by
  have h1 : a.plain = true := (Bool.and_eq_true _ _ ▸ h : _ ∧ _).1
  unfold fNe
  simp only [h, Bool.and_self, if_true, PySem.SeqAt.eqv_refl_plain a h1, Bool.not_true]
/-! ### unlike names -/
theorem any_take {xs : List Str} {i : Nat} : (xs.take i).any (· == xs.getD i Str.empty) = decide (xs.getD i Str.empty ∈ xs.take i) := by
  rw [Bool.eq_iff_iff, List.any_eq_true, decide_eq_true_iff]
  constructor
  · rintro ⟨x, hx, e⟩
    rw [← eq_of_beq e]
    exact hx
  · exact fun h => ⟨_, h, beq_self_eq_true _⟩
theorem cnt_le (xs : List Str) : ∀ i, cntS xs i ≤ i
  | 0 => Nat.le_refl _
  | i + 1 => by
    rw [cntS]
    have := cnt_le xs i
    split <;> omega
theorem cnt_iff (xs : List Str) : ∀ i, i ≤ xs.length → (cntS xs i = i ↔ (xs.take i).Nodup)
  | 0, _ => by simp [cntS]
  | i + 1, h => by
    have ih := cnt_iff xs i (by omega)
    have le := cnt_le xs i
    have hi : i < xs.length := by omega
    have e : xs.take (i + 1) = xs.take i ++ [xs.getD i Str.empty] := by
      rw [List.take_succ, List.getElem?_eq_getElem hi]
      simp [List.getD, List.getElem?_eq_getElem hi]
    rw [cntS, any_take, e, List.nodup_append]
    by_cases hm : xs.getD i Str.empty ∈ xs.take i
    · rw [if_pos (decide_eq_true hm)]
      constructor
      · intro h; omega
      · rintro ⟨_, _, h3⟩
        exact (h3 _ hm _ (List.mem_singleton.mpr rfl) rfl).elim
    · rw [if_neg (by simpa using hm)]
      constructor
      · intro h
        refine ⟨ih.mp (by omega), by simp, fun a ha b hb => ?_⟩
        rw [List.mem_singleton.mp hb]
        exact fun e => hm (e ▸ ha)
      · rintro ⟨h1, _, _⟩
        rw [ih.mpr h1]
theorem strs_map : ∀ {xs : List D} {ts : List Str}, strs? xs = some ts → xs = ts.map .str
  | [], ts, h => by cases h; rfl
  | x :: xs, ts, h => by
    cases x with
    | str z =>
      rw [strs?] at h
      cases e : strs? xs with
      | none => rw [e] at h; cases h
      | some r =>
        rw [e] at h
        cases h
        rw [strs_map e]
        rfl
    | _ => cases h
theorem diff_nodup {xs : List D} (h : diffS xs = true) : xs.Nodup := by
  unfold diffS at h
  cases e : strs? xs with
  | none => rw [e] at h; cases h
  | some ts =>
    rw [e] at h
    have h2 := (cnt_iff ts ts.length (Nat.le_refl _)).mp (eq_of_beq h)
    rw [List.take_length] at h2
    rw [strs_map e]
    rw [List.nodup_iff_pairwise_ne] at h2 ⊢
    exact List.Pairwise.map _ (fun a b hab he => hab (by injection he)) h2
theorem nodup_diff {xs : List D} (hn : xs.all isNm = true) (h : xs.Nodup) : diffS xs = true := by
  obtain ⟨ts, e, _⟩ := strs_nm hn
  unfold diffS
  rw [e]
  have e2 := strs_map e
  subst e2
  have h2 : ts.Nodup := by
    rw [List.nodup_iff_pairwise_ne] at h ⊢
    rw [List.pairwise_map] at h
    exact h.imp fun hab he => hab (congrArg _ he)
  have := (cnt_iff ts ts.length (Nat.le_refl _)).mpr (by rw [List.take_length]; exact h2)
  exact beq_iff_eq.mpr this
theorem ind_nm {x : D} {gs : List D} (hx : isNm x = true) : inD x gs = true ↔ x ∈ gs := by
  cases x with
  | str z =>
    unfold inD
    rw [List.any_eq_true]
    constructor
    · rintro ⟨y, hy, e⟩
      cases y with
      | str w =>
        have : w = z := by simpa [PyData.eqv] using e
        rw [← this]; exact hy
      | _ => simp [PyData.eqv] at e
    · exact fun h => ⟨_, h, by simp [PyData.eqv]⟩
  | _ => cases hx
theorem or_iff {gs xs : List D} : isOr gs (.list xs) = true ↔ (xs.all isNm = true ∧ xs.Nodup ∧ ∀ x ∈ xs, x ∈ gs) := by
  unfold isOr
  rw [Bool.and_eq_true, Bool.and_eq_true]
  constructor
  · rintro ⟨h1, h2, h3⟩
    exact ⟨h1, diff_nodup h2, fun x hx => (ind_nm (List.all_eq_true.mp h1 x hx)).mp (List.all_eq_true.mp h3 x hx)⟩
  · rintro ⟨h1, h2, h3⟩
    exact ⟨h1, nodup_diff h1 h2, List.all_eq_true.mpr fun x hx => (ind_nm (List.all_eq_true.mp h1 x hx)).mpr (h3 x hx)⟩
/-! ### letters -/
theorem iran_map (f : D → D) (g : Nat → D) (h : ∀ i : Nat, f (.int i) = g i) : ∀ (n lo : Nat), (iran lo n).map f = (List.range' lo n).map g
  | 0, _ => rfl
  | n + 1, lo => by
    rw [iran, List.range'_succ, List.map_cons, List.map_cons, h, show ((lo : Int) + 1) = ((lo + 1 : Nat) : Int) from rfl, iran_map f g h n]
theorem letters_list : letters.cps.toList = (List.range 26).map (97 + ·) := by decide +kernel
theorem let_at {i : Nat} (h : i < 26) : fIdx [.str letters, .int i] = some (.str ⟨#[97 + i]⟩) := by
  show (if letters.length ≤ lim then (L2.atI letters.cps.toList i).map fun c => PyData.str ⟨#[c]⟩ else none) = _
  rw [if_pos (by decide +kernel), letters_list]
  have : L2.atI ((List.range 26).map (97 + ·)) (i : Int) = some (97 + i) := by
    unfold L2.atI L2.ixN
    rw [if_pos (by omega), if_pos (by simp; omega)]
    simp [h]
  rw [this]
  rfl
theorem let_mem {c : Nat} : c ∈ letters.cps.toList ↔ 97 ≤ c ∧ c < 123 := by
  rw [letters_list, List.mem_map]
  constructor
  · rintro ⟨a, ha, rfl⟩
    have := List.mem_range.mp ha
    omega
  · exact fun h => ⟨c - 97, List.mem_range.mpr (by omega), by omega⟩
/-- a letter, and two by a number -/
def nm3 (p i : Nat) : D := .str ⟨#[p, 97 + i / 26, 97 + i % 26]⟩
theorem nm3_nm {p i : Nat} (hp : 97 ≤ p ∧ p < 123) (hi : i < 676) : isNm (nm3 p i) = true := by
  show (decide (1 ≤ 3) && (decide (3 ≤ 8) && [p, 97 + i / 26, 97 + i % 26].all fun c => decide (c ∈ letters.cps.toList))) = true
  simp only [List.all_cons, List.all_nil, let_mem]
  have : 97 ≤ 97 + i / 26 ∧ 97 + i / 26 < 123 := by omega
  have : 97 ≤ 97 + i % 26 ∧ 97 + i % 26 < 123 := by omega
  simp [*]
theorem nm3_inj {p q i j : Nat} (h : nm3 p i = nm3 q j) : p = q ∧ i = j := by
  unfold nm3 at h
  have h1 : (⟨#[p, 97 + i / 26, 97 + i % 26]⟩ : Str) = ⟨#[q, 97 + j / 26, 97 + j % 26]⟩ := by injection h
  have h2 : #[p, 97 + i / 26, 97 + i % 26] = #[q, 97 + j / 26, 97 + j % 26] := by injection h1
  have h3 : [p, 97 + i / 26, 97 + i % 26] = [q, 97 + j / 26, 97 + j % 26] := by injection h2
  simp only [List.cons.injEq, and_true] at h3
  omega
def crowd (p n : Nat) : List D := (List.range' 0 n).map (nm3 p)
theorem crowd_len {p n : Nat} : (crowd p n).length = n := by simp [crowd]
theorem crowd_nm {p n : Nat} (hp : 97 ≤ p ∧ p < 123) (hn : n ≤ 676) : (crowd p n).all isNm = true := by
  rw [List.all_eq_true]
  intro x hx
  obtain ⟨i, hi, rfl⟩ := List.mem_map.mp hx
  have := List.mem_range'_1.mp hi
  exact nm3_nm hp (by omega)
theorem crowd_nodup {p n : Nat} : (crowd p n).Nodup := by
  rw [List.nodup_iff_pairwise_ne]
  refine List.Pairwise.map _ (fun a b hab he => hab (nm3_inj he).2) (List.nodup_iff_pairwise_ne.mp (List.nodup_range'))
theorem crowd_apart {p q n m : Nat} (h : p ≠ q) {x : D} (h1 : x ∈ crowd p n) (h2 : x ∈ crowd q m) : False := by
  obtain ⟨i, _, rfl⟩ := List.mem_map.mp h1
  obtain ⟨j, _, e⟩ := List.mem_map.mp h2
  exact h (nm3_inj e).1.symm
end EV
end
section
set_option Elab.async false
set_option linter.all false
set_option maxRecDepth 100000
set_option maxHeartbeats 4000000
set_option autoImplicit false
/-! GZ1: places told, names and orders drawn, wherever the defs stand -/
namespace EV
open PySem
theorem forLoop_ix {turn : D → Ste → Out} (I : Nat → Ste → Prop) : ∀ (xs : List D) (i : Nat) (s : Ste), (∀ (j : Nat) (x : D) (s : Ste), xs[j]? = some x → I (i + j) s → ∃ s', turn x s = .nx s' ∧ I (i + j + 1) s') → I i s → ∃ s', forLoop turn xs s = .nx s' ∧ I (i + xs.length) s'
  | [], i, s, _, h => ⟨s, rfl, h⟩
  | x :: xs, i, s, t, h => by
    obtain ⟨s1, e1, h1⟩ := t 0 x s rfl h
    obtain ⟨s2, e2, h2⟩ := forLoop_ix I xs (i + 1) s1 (fun j y s hy hs => by
      have := t (j + 1) y s hy (by rw [show i + (j + 1) = i + 1 + j by omega]; exact hs)
      rw [show i + (j + 1) + 1 = i + 1 + j + 1 by omega] at this
      exact this) h1
    refine ⟨s2, by rw [forLoop, e1]; exact e2, ?_⟩
    rw [List.length_cons, show i + (xs.length + 1) = i + 1 + xs.length by omega]
    exact h2
theorem perm_erase : ∀ (L : List D) (r : Nat) (h : r < L.length), (L[r] :: L.eraseIdx r).Perm L
  | [], _, h => absurd h (Nat.not_lt_zero _)
  | x :: L, 0, _ => List.Perm.refl _
  | x :: L, r + 1, h => by
    rw [List.getElem_cons_succ, List.eraseIdx_cons_succ]
    exact (List.Perm.swap _ _ _).trans (List.Perm.cons _ (perm_erase L r (by simpa using h)))
theorem pop_loop {turn : D → Ste → Res (Option D)} {st : List D → D → Ste} (ht : ∀ (x : D) (L : List D) (n : Nat) (d : D), noRfs L = true → 0 < L.length → L.length ≤ 1000 → n < 2 ^ 58 → PotOk n d → ∃ (r : Nat) (h : r < L.length) (d' : D), PotOk (n + 1) d' ∧ turn x (st L d) = .ok (some L[r]) (st (L.eraseIdx r) d')) :
    ∀ (xs acc L : List D) (n : Nat) (d : D), noRfs L = true → xs.length ≤ L.length → L.length ≤ 1000 → n + xs.length < 2 ^ 58 → PotOk n d →
    ∃ ys L' d', ys.length = xs.length ∧ (ys ++ L').Perm L ∧ PotOk (n + xs.length) d' ∧ lcLoop turn xs acc (st L d) = .ok (acc ++ ys) (st L' d')
  | [], acc, L, n, d, _, _, _, _, ho => ⟨[], L, d, rfl, List.Perm.refl _, ho, by simp [lcLoop]⟩
  | x :: xs, acc, L, n, d, h0, h1, h2, h3, ho => by
    rw [List.length_cons] at h1 h3
    obtain ⟨r, hr, d1, o1, e1⟩ := ht x L n d h0 (by omega) h2 (by omega) ho
    have hl := List.length_eraseIdx_of_lt hr
    obtain ⟨ys, L', d2, y1, y2, y3, y4⟩ := pop_loop ht xs (acc ++ [L[r]]) (L.eraseIdx r) (n + 1) d1 (noRfs_of fun y hy => noRfs_mem h0 y (List.mem_of_mem_eraseIdx hy)) (by omega) (by omega) (by omega) o1
    refine ⟨L[r] :: ys, L', d2, by simp [y1], ?_, by rw [List.length_cons, show n + (xs.length + 1) = n + 1 + xs.length by omega]; exact y3, ?_⟩
    · rw [List.cons_append]
      exact (List.Perm.cons _ y2).trans (perm_erase L r hr)
    · rw [lcLoop, e1]
      show lcLoop turn xs (acc ++ [L[r]]) _ = _
      rw [y4]
      simp
section
variable {fs : List FunI} {meth : Nat → Nat → Option Nat} {consts : List D} {k j : Nat}
theorem pop_turn {sc : Nat} (hsc : fs[sc]? = some ⟨4, 2, bScoop⟩) {L : List D} {n : Nat} {d : D} (h0 : 0 < L.length) (h1 : L.length ≤ 1000) (hn : n < 2 ^ 58) (ho : PotOk n d) :
    ∃ (r : Int) (d' : D), 0 ≤ r ∧ r < 4611686018427387904 ∧ r.toNat < L.length ∧ PotOk (n + 1) d' ∧ callF fs meth consts (k + 1) sc [.r 0, .d (.int (L.length : Int))] [pc d] = .ok (.d (.int r)) [pc d'] := by
  obtain ⟨r, d', r0, r1, ho', e⟩ := scoop_call (meth := meth) (k := k) (consts := consts) (p := 0) (hp := [pc d]) (m := (L.length : Int)) hsc rfl ho (by omega) (by omega) (by omega)
  exact ⟨r, d', r0, by omega, by omega, ho', e⟩
def bDrawn (sc : Nat) : CSs := (ss [
  (.setO 3 (.o .z) (.own (.op .ofList (cs [(.peek (.sl 1))])))),
  (.ret (.lc [4] (.nm 4) (.rng (cs [(.op .min2 (cs [(.op .len (cs [(.peek (.sl 3))])), (.call sc (cs [(.var 0), (.op .add (cs [(.peek (.sl 2)), (.kst (.int 1))]))]))]))])) (cs []) (.mut (.sl 3) .z .popAt (cs [(.call sc (cs [(.var 0), (.op .len (cs [(.peek (.sl 3))]))]))]))))])
theorem drawn_turn {sc : Nat} (hsc : fs[sc]? = some ⟨4, 2, bScoop⟩) {a b : Vl} (x : D) (L : List D) (n : Nat) (d : D) (a0 : noRfs L = true) (a1 : 0 < L.length) (a2 : L.length ≤ 1000) (a3 : n < 2 ^ 58) (a4 : PotOk n d) :
    ∃ (r : Nat) (h : r < L.length) (d' : D), PotOk (n + 1) d' ∧ lcTurn ⟨consts, callF fs meth consts (k + 1), callF fs meth consts k, meth⟩ [4] (.nm 4) .nil (.mut (.sl 3) .z .popAt (.cons (.call sc (.cons (.var 0) (.cons (.op .len (.cons (.peek (.sl 3)) .nil)) .nil))) .nil)) false x ⟨[.v (.r 0), .v a, .v b, .own (.o .z) (.list L), .non], [pc d]⟩ = .ok (some L[r]) ⟨[.v (.r 0), .v a, .v b, .own (.o .z) (.list (L.eraseIdx r)), .non], [pc d']⟩ := by
  obtain ⟨r, d', r0, r2, hr, o', e⟩ := pop_turn (meth := meth) (k := k) (consts := consts) hsc a1 a2 a3 a4
  exact ⟨r.toNat, hr, d', o', by simp [lcTurn, e, mPopAt, r0, r2, hr, a0]⟩
theorem names_turn {sc : Nat} (hsc : fs[sc]? = some ⟨4, 2, bScoop⟩) {a b : Vl} (x : D) (L : List D) (n : Nat) (d : D) (a0 : noRfs L = true) (a1 : 0 < L.length) (a2 : L.length ≤ 1000) (a3 : n < 2 ^ 58) (a4 : PotOk n d) :
    ∃ (r : Nat) (h : r < L.length) (d' : D), PotOk (n + 1) d' ∧ lcTurn ⟨consts, callF fs meth consts (k + 1), callF fs meth consts k, meth⟩ [4] (.nm 4) .nil (.mut (.sl 2) .z .popAt (.cons (.call sc (.cons (.var 0) (.cons (.op .len (.cons (.peek (.sl 2)) .nil)) .nil))) .nil)) false x ⟨[.v (.r 0), .v a, .own (.o .z) (.list L), .v b, .non], [pc d]⟩ = .ok (some L[r]) ⟨[.v (.r 0), .v a, .own (.o .z) (.list (L.eraseIdx r)), .v b, .non], [pc d']⟩ := by
  obtain ⟨r, d', r0, r2, hr, o', e⟩ := pop_turn (meth := meth) (k := k) (consts := consts) hsc a1 a2 a3 a4
  exact ⟨r.toNat, hr, d', o', by simp [lcTurn, e, mPopAt, r0, r2, hr, a0]⟩
theorem drawn_call {sc : Nat} (hj : fs[j]? = some ⟨5, 3, bDrawn sc⟩) (hsc : fs[sc]? = some ⟨4, 2, bScoop⟩) {G : List D} {most : Int} {n : Nat} {d : D} (hG0 : noRfs G = true) (hG : G.length ≤ 1000) (h0 : 0 ≤ most) (h1 : most < 2 ^ 29) (hn : n < 2 ^ 57) (ho : PotOk n d) :
    ∃ ys L' d', (ys ++ L').Perm G ∧ (ys.length : Int) ≤ most ∧ PotOk (n + 1001) d' ∧ callF fs meth consts (k + 2) j [.r 0, .d (.list G), .d (.int most)] [pc d] = .ok (.d (.list ys)) [pc d'] := by
  obtain ⟨r, d1, r0, r1, o1, e⟩ := scoop_call (meth := meth) (k := k) (consts := consts) (p := 0) (hp := [pc d]) (m := most + 1) hsc rfl ho (by omega) (by omega) (by omega)
  have e' : callF fs meth consts (k + 1) sc [.r 0, .d (.int (most + 1))] [pc d] = .ok (.d (.int r)) [pc d1] := e
  obtain ⟨c, hc, hr⟩ : ∃ c : Nat, (c ≤ G.length ∧ (c : Int) ≤ most) ∧ rngItems [.int (if r < (G.length : Int) then r else (G.length : Int))] = some (iran 0 c) := by
    by_cases h : r < (G.length : Int)
    · refine ⟨r.toNat, by omega, ?_⟩
      rw [if_pos h, rng_one (by omega)]
    · refine ⟨G.length, by omega, ?_⟩
      rw [if_neg h, rng_one (by omega)]
      rfl
  obtain ⟨ys, L', d2, y1, y2, y3, y4⟩ := pop_loop (turn := lcTurn ⟨consts, callF fs meth consts (k + 1), callF fs meth consts k, meth⟩ [4] (.nm 4) .nil (.mut (.sl 3) .z .popAt (.cons (.call sc (.cons (.var 0) (.cons (.op .len (.cons (.peek (.sl 3)) .nil)) .nil))) .nil)) false)
    (st := fun L d => ⟨[.v (.r 0), .v (.d (.list G)), .v (.d (.int most)), .own (.o .z) (.list L), .non], [pc d]⟩) (drawn_turn hsc) (iran 0 c) [] G (n + 1) d1 hG0 (by rw [iran_len]; omega) hG (by rw [iran_len]; omega) o1
  rw [iran_len] at y1 y3
  have q : ys.length ≤ lim := lim_ge (by omega)
  have q2 : ys.length ≤ 1000000 := q
  refine ⟨ys, L', d2, y2, by omega, y3.mono (by omega), ?_⟩
  rw [callF, hj]
  simp [noPk, bDrawn, e', hr, y4, q, q2, hG0]
def base : List D := [.str "in", .str "out", .str "clear", .str "barred", .str "open", .str "heard", .str "chair", .str "back", .str "wishes", .str "house", .str "guest", .str "wish", .str "a", .str "an", .str "ann", .str "anna", .str "bo", .str "zzzzzzzz", .str "z", .str "eightlet"]
theorem base_diff : diffS base = true := by decide +kernel
theorem base_nm : base.all isNm = true := by decide +kernel
def bNames (sc : Nat) : CSs := (ss [
  (.setO 2 (.o .z) (.lst (cs [(.kst (.str "in")), (.kst (.str "out")), (.kst (.str "clear")), (.kst (.str "barred")), (.kst (.str "open")), (.kst (.str "heard")), (.kst (.str "chair")), (.kst (.str "back")), (.kst (.str "wishes")), (.kst (.str "house")), (.kst (.str "guest")), (.kst (.str "wish")), (.kst (.str "a"))]))),
  (.setO 2 (.o .z) (.own (.op .add (cs [(.peek (.sl 2)), (.lst (cs [(.kst (.str "an")), (.kst (.str "ann")), (.kst (.str "anna")), (.kst (.str "bo")), (.kst (.str "zzzzzzzz")), (.kst (.str "z")), (.kst (.str "eightlet"))]))])))),
  (.set 3 (.kst (.str "abcdefghijklmnopqrstuvwxyz"))),
  (.setO 2 (.o .z) (.own (.op .add (cs [(.peek (.sl 2)), (.lc [4] (.nm 4) (.rng (cs [(.op .max2 (cs [(.kst (.int 0)), (.op .sub (cs [(.peek (.sl 1)), (.kst (.int 20))]))]))])) (cs []) (.op .add (cs [(.op .add (cs [(.op .idx (cs [(.peek (.sl 3)), (.op .fdiv (cs [(.peek (.sl 4)), (.kst (.int 26))]))])), (.kst (.str "q"))])), (.op .idx (cs [(.peek (.sl 3)), (.op .mod (cs [(.peek (.sl 4)), (.kst (.int 26))]))]))])))])))),
  (.ret (.lc [4] (.nm 4) (.rng (cs [(.peek (.sl 1))])) (cs []) (.mut (.sl 2) .z .popAt (cs [(.call sc (cs [(.var 0), (.op .len (cs [(.peek (.sl 2))]))]))]))))])
theorem names_call {sc : Nat} (hj : fs[j]? = some ⟨5, 2, bNames sc⟩) (hsc : fs[sc]? = some ⟨4, 2, bScoop⟩) {m : Int} {n : Nat} {d : D} (h0 : 0 ≤ m) (hm : m ≤ 20) (hn : n < 2 ^ 57) (ho : PotOk n d) :
    ∃ ys d', (ys.length : Int) = m ∧ ys.all isNm = true ∧ ys.Nodup ∧ (∀ y ∈ ys, y ∈ base) ∧ PotOk (n + 20) d' ∧ callF fs meth consts (k + 2) j [.r 0, .d (.int m)] [pc d] = .ok (.d (.list ys)) [pc d'] := by
  obtain ⟨ys, L', d2, y1, y2, y3, y4⟩ := pop_loop (turn := lcTurn ⟨consts, callF fs meth consts (k + 1), callF fs meth consts k, meth⟩ [4] (.nm 4) .nil (.mut (.sl 2) .z .popAt (.cons (.call sc (.cons (.var 0) (.cons (.op .len (.cons (.peek (.sl 2)) .nil)) .nil))) .nil)) false)
    (st := fun L d => ⟨[.v (.r 0), .v (.d (.int m)), .own (.o .z) (.list L), .v (.d (.str letters)), .non], [pc d]⟩) (names_turn hsc) (iran 0 m.toNat) [] base n d (by decide) (by rw [iran_len]; show m.toNat ≤ 20; omega) (by decide) (by rw [iran_len]; omega) ho
  rw [iran_len] at y1 y3
  have bn := List.all_eq_true.mp base_nm
  have nd : (ys ++ L').Nodup := y2.nodup_iff.mpr (diff_nodup base_diff)
  have q : ys.length ≤ lim := lim_ge (by omega)
  have q2 : ys.length ≤ 1000000 := q
  refine ⟨ys, d2, by omega, List.all_eq_true.mpr fun y hy => bn y (y2.mem_iff.mp (List.mem_append_left _ hy)), (List.nodup_append.mp nd).1, fun y hy => y2.mem_iff.mp (List.mem_append_left _ hy), y3.mono (by omega), ?_⟩
  have hm1 : ¬ (m - 20 > 0) := by omega
  have hm2 : ¬ (20 < m) := by omega
  have rg := rng_one (n := m) ⟨by omega, by omega⟩
  have rg0 := rng_one (n := 0) ⟨by omega, by omega⟩
  rw [callF, hj]
  simp only [letters, base] at y4
  simp [noPk, bNames, lim, fAdd, hm1, hm2, rg, rg0, iran, lcLoop, y4, q2, mkv, flat1, flats, flat]
/-! ### places -/
def bNeed (wd e : Nat) : CSs := (ss [
  (.ite (.not (.call wd (cs [(.var 0)]))) (ss [
    (.raise e)]) (ss []))])
theorem need_ok {wd e : Nat} {x : D} {hp : List Cell} (hj : fs[j]? = some ⟨1, 1, bNeed wd e⟩) (hw : callF fs meth consts k wd [.d x] hp = .ok (.d (.bool true)) hp) : callF fs meth consts (k + 1) j [.d x] hp = .ok (.d .none) hp := by
  rw [callF, hj]
  simp [noPk, bNeed, hw]
theorem need_er {wd e : Nat} {x : D} {hp : List Cell} (hj : fs[j]? = some ⟨1, 1, bNeed wd e⟩) (hw : callF fs meth consts k wd [.d x] hp = .ok (.d (.bool false)) hp) : callF fs meth consts (k + 1) j [.d x] hp = .er e hp := by
  rw [callF, hj]
  simp [noPk, bNeed, hw]
def bPlaces (nw : Nat) : CSs := (ss [
  (.expr (.call nw (cs [(.var 0)]))),
  (.setT [(.nm 1), (.nm 2)] (.var 0)),
  (.setO 3 (.o .z) (.lc [4, 5] (.tp [(.nm 4), (.nm 5)]) (.seq (.peek (.sl 2))) (cs []) (.tup (cs [(.var 4), (.var 4)])))),
  (.for (.tp [(.nm 4), (.nm 6), (.nm 7)]) (.seq (.peek (.sl 1))) (ss [
    (.expr (.extF (.sl 3) (.lc [8] (.nm 8) (.seq (.peek (.sl 7))) (cs []) (.tup (cs [(.var 4), (.var 8)])))))])),
  (.ret (.op .sorted (cs [(.peek (.sl 3))])))])
def dup (x : D) : D := .tuple [x, x]
def rowP : D → List D
  | .tuple [a, _, .list c] => c.map fun y => .tuple [a, y]
  | _ => []
def plcs (hs gs : List D) : List D := gs.map (fun g => dup (fst1 g)) ++ (hs.map rowP).flatten
theorem nm_str {x : D} (h : isNm x = true) : ∃ z, x = .str z := by
  cases x with
  | str z => exact ⟨z, rfl⟩
  | _ => cases h
theorem hr_form {gs : List D} {x : D} (h : isHr gs x = true) : ∃ a b c, x = .tuple [a, .int b, .list c] ∧ isNm a = true ∧ 0 ≤ b ∧ isOr gs (.list c) = true := by
  obtain ⟨a, b, c, rfl, ha⟩ := hr_at h
  rw [isHr, Bool.and_eq_true, Bool.and_eq_true] at h
  obtain ⟨_, h2, h3⟩ := h
  cases b with
  | int b =>
    cases c with
    | list c => exact ⟨a, b, c, rfl, ha, by simpa [isCt] using h2, h3⟩
    | _ => cases h3
  | _ => cases h2
theorem dup_pr {x : D} (h : isNm x = true) : isPr (dup x) = true := by
  obtain ⟨z, rfl⟩ := nm_str h
  rfl
theorem row_pr {gs : List D} {x : D} (h : isHr gs x = true) : (rowP x).all isPr = true := by
  obtain ⟨a, b, c, rfl, ha, _, ho⟩ := hr_form h
  obtain ⟨z, rfl⟩ := nm_str ha
  obtain ⟨h1, _, _⟩ := or_iff.mp ho
  rw [List.all_eq_true] at h1 ⊢
  intro y hy
  obtain ⟨w, hw, rfl⟩ := List.mem_map.mp hy
  obtain ⟨u, rfl⟩ := nm_str (h1 w hw)
  rfl
theorem flat_pr {ns hs : List D} (h : hs.all (isHr ns) = true) : (hs.map rowP).flatten.all isPr = true := by
  rw [List.all_eq_true] at h ⊢
  intro y hy
  obtain ⟨l, hl, hy⟩ := List.mem_flatten.mp hy
  obtain ⟨x, hx, rfl⟩ := List.mem_map.mp hl
  exact List.all_eq_true.mp (row_pr (h x hx)) y hy
theorem dups_pr {gs : List D} (h : gs.all isGr = true) : (gs.map fun g => dup (fst1 g)).all isPr = true := by
  have h2 := List.all_eq_true.mp (nms_plain h).2
  rw [List.all_eq_true]
  intro y hy
  obtain ⟨x, hx, rfl⟩ := List.mem_map.mp hy
  exact dup_pr (h2 _ (List.mem_map.mpr ⟨x, hx, rfl⟩))
theorem pr_flat {x : D} (h : isPr x = true) : flat x = true := by
  unfold isPr at h
  split at h
  · rfl
  · cases h
theorem plcs_pr {ns hs gs : List D} (h : hs.all (isHr ns) = true) (h2 : gs.all isGr = true) : (plcs hs gs).all isPr = true := by
  unfold plcs
  rw [List.all_append, dups_pr h2, flat_pr h]
  rfl
def Few (x : D) : Prop := ∀ a b c, x = .tuple [a, b, .list c] → c.length ≤ 1000
theorem row_few {x : D} (h : Few x) : (rowP x).length ≤ 1000 := by
  unfold rowP
  split
  · rw [List.length_map]
    exact h _ _ _ rfl
  · simp
theorem flat_few : ∀ {hs : List D}, (∀ x ∈ hs, Few x) → (hs.map rowP).flatten.length ≤ 1000 * hs.length
  | [], _ => by simp
  | x :: hs, h => by
    have h1 := row_few (h x List.mem_cons_self)
    have h2 := flat_few (hs := hs) fun y hy => h y (List.mem_cons_of_mem _ hy)
    simp only [List.map_cons, List.flatten_cons, List.length_append, List.length_cons]
    omega
theorem places_call {nw : Nat} {hs gs : List D} {hp : List Cell} (hj : fs[j]? = some ⟨9, 1, bPlaces nw⟩) (hn : callF fs meth consts k nw [.d (.tuple [.list hs, .list gs])] hp = .ok (.d .none) hp) (hw : isWd (.tuple [.list hs, .list gs]) = true) (fh : hs.length ≤ 900) (fg : gs.length ≤ 1000) (few : ∀ x ∈ hs, Few x) :
    callF fs meth consts (k + 1) j [.d (.tuple [.list hs, .list gs])] hp = .ok (.d (.list (srt (plcs hs gs)))) hp := by
  rw [isWd, Bool.and_eq_true, Bool.and_eq_true] at hw
  obtain ⟨hg, hh, _⟩ := hw
  have cg : gs.length ≤ lim := lim_ge fg
  have l1 : ∀ w, lcLoop (lcTurn ⟨consts, callF fs meth consts k, callF fs meth consts (k - 1), meth⟩ [4, 5] (.tp [.nm 4, .nm 5]) .nil (.tup (.cons (.var 4) (.cons (.var 4) .nil))) false) gs [] ⟨[.v (.d w), .v (.d (.list hs)), .v (.d (.list gs)), .non, .non, .non, .non, .non, .non], hp⟩ = .ok (gs.map fun g => dup (fst1 g)) ⟨[.v (.d w), .v (.d (.list hs)), .v (.d (.list gs)), .non, .non, .non, .non, .non, .non], hp⟩ := fun w => by
    rw [lcLoop_map (f := fun g => dup (fst1 g))]
    · simp
    · intro y hy
      obtain ⟨a, b, rfl, _⟩ := gr_at (List.all_eq_true.mp hg y hy)
      simp [lcTurn, fst1, dup, lim]
  have l2 : ∀ (w : D) (hs' acc : List D) (s4 s6 s7 : Slot), Slot.open (some s4) = true → Slot.open (some s6) = true → Slot.open (some s7) = true → (∀ x ∈ hs', isHr (gs.map fst1) x = true ∧ Few x) → acc.length + 1000 * hs'.length < lim →
      ∃ s4' s6' s7', forLoop (forTurn ⟨consts, callF fs meth consts k, callF fs meth consts (k - 1), meth⟩ (.tp [.nm 4, .nm 6, .nm 7]) (.cons (.expr (.extF (.sl 3) (.lc [8] (.nm 8) (.seq (.peek (.sl 7))) .nil (.tup (.cons (.var 4) (.cons (.var 8) .nil)))))) .nil) false) hs' ⟨[.v (.d w), .v (.d (.list hs)), .v (.d (.list gs)), .own (.o .z) (.list acc), s4, .non, s6, s7, .non], hp⟩ =
        .nx ⟨[.v (.d w), .v (.d (.list hs)), .v (.d (.list gs)), .own (.o .z) (.list (acc ++ (hs'.map rowP).flatten)), s4', .non, s6', s7', .non], hp⟩ := by
    intro w hs'
    induction hs' with
    | nil => exact fun acc s4 s6 s7 _ _ _ _ _ => ⟨s4, s6, s7, by simp [forLoop]⟩
    | cons x hs' ih =>
      intro acc s4 s6 s7 o4 o6 o7 hx hl
      obtain ⟨h1, h2⟩ := hx x List.mem_cons_self
      obtain ⟨a, b, c, rfl, _, _, _⟩ := hr_form h1
      have hc := h2 _ _ _ rfl
      have cc : c.length ≤ lim := lim_ge hc
      rw [List.length_cons] at hl
      have e : lcLoop (lcTurn ⟨consts, callF fs meth consts k, callF fs meth consts (k - 1), meth⟩ [8] (.nm 8) .nil (.tup (.cons (.var 4) (.cons (.var 8) .nil))) false) c [] ⟨[.v (.d w), .v (.d (.list hs)), .v (.d (.list gs)), .lck (.o .z) (.list acc), .v (.d a), .non, .v (.d (.int b)), .v (.d (.list c)), .non], hp⟩ =
          .ok (c.map fun y => .tuple [a, y]) ⟨[.v (.d w), .v (.d (.list hs)), .v (.d (.list gs)), .lck (.o .z) (.list acc), .v (.d a), .non, .v (.d (.int b)), .v (.d (.list c)), .non], hp⟩ := by
        rw [lcLoop_map (f := fun y => .tuple [a, y])]
        · simp
        · intro y hy
          simp [lcTurn, lim]
      have hlen : acc.length + c.length < lim := by omega
      obtain ⟨t4, t6, t7, q⟩ := ih (acc ++ c.map fun y => .tuple [a, y]) (.v (.d a)) (.v (.d (.int b))) (.v (.d (.list c))) rfl rfl rfl (fun y hy => hx y (List.mem_cons_of_mem _ hy)) (by rw [List.length_append, List.length_map]; omega)
      refine ⟨t4, t6, t7, ?_⟩
      rw [forLoop]
      have et : forTurn ⟨consts, callF fs meth consts k, callF fs meth consts (k - 1), meth⟩ (.tp [.nm 4, .nm 6, .nm 7]) (.cons (.expr (.extF (.sl 3) (.lc [8] (.nm 8) (.seq (.peek (.sl 7))) .nil (.tup (.cons (.var 4) (.cons (.var 8) .nil)))))) .nil) false (.tuple [a, .int b, .list c]) ⟨[.v (.d w), .v (.d (.list hs)), .v (.d (.list gs)), .own (.o .z) (.list acc), s4, .non, s6, s7, .non], hp⟩ =
          .nx ⟨[.v (.d w), .v (.d (.list hs)), .v (.d (.list gs)), .own (.o .z) (.list (acc ++ c.map fun y => .tuple [a, y])), .v (.d a), .non, .v (.d (.int b)), .v (.d (.list c)), .non], hp⟩ := by
        simp [-bi_nm, bi_open, forTurn, o4, o6, o7, e, cc, hlen]
      rw [et]
      simp only []
      rw [q]
      simp [rowP]
  have tot : (plcs hs gs).length ≤ lim := by
    have := flat_few few
    unfold plcs
    rw [List.length_append, List.length_map]
    unfold lim
    omega
  have so := d_srt (plcs_pr hh hg) tot
  unfold plcs at so
  obtain ⟨s4, s6, s7, q⟩ := l2 (.tuple [.list hs, .list gs]) hs (gs.map fun g => dup (fst1 g)) .non .non .non rfl rfl rfl (fun x hx => ⟨List.all_eq_true.mp hh x hx, few x hx⟩) (by rw [List.length_map]; unfold lim; omega)
  have fl0 : flats (plcs hs gs) = true := flats_of fun y hy => pr_flat (List.all_eq_true.mp (plcs_pr hh hg) y hy)
  have fl : flats (srt (plcs hs gs)) = true := flats_of fun y hy => pr_flat (List.all_eq_true.mp (plcs_pr hh hg) y (List.mem_mergeSort.mp hy))
  have nf := flats_noRfs fl0
  have mk := mkv_fl (t := 2) fl
  unfold plcs at nf mk
  rw [callF, hj]
  simp [noPk, bPlaces, hn, l1, cg, q, so, plcs, nf, mk]
end
end EV
end
section
set_option Elab.async false
set_option linter.all false
set_option maxRecDepth 100000
set_option maxHeartbeats 4000000
set_option autoImplicit false
/-! GZ2: loops with draws, worlds, cuts: plain facts for the laws of worlds -/
namespace EV
open PySem
inductive Ea (R : D → D → Prop) : List D → List D → Prop
  | nil : Ea R [] []
  | cons {x y : D} {xs ys : List D} : R x y → Ea R xs ys → Ea R (x :: xs) (y :: ys)
theorem lcLoop_ex {turn : D → Ste → Res (Option D)} {st : D → Ste} {R : D → D → Prop} {c : Nat} : ∀ (xs acc : List D) (n : Nat) (d : D), (∀ (x : D) (n : Nat) (d : D), x ∈ xs → n < 2 ^ 57 → PotOk n d → ∃ y d', R x y ∧ PotOk (n + c) d' ∧ turn x (st d) = .ok (some y) (st d')) → n + c * xs.length < 2 ^ 57 → PotOk n d →
    ∃ ys d', Ea R xs ys ∧ PotOk (n + c * xs.length) d' ∧ lcLoop turn xs acc (st d) = .ok (acc ++ ys) (st d')
  | [], acc, n, d, _, _, ho => ⟨[], d, .nil, ho, by simp [lcLoop]⟩
  | x :: xs, acc, n, d, ht, hn, ho => by
    have q : n + c * (x :: xs).length = n + c + c * xs.length := by rw [List.length_cons, Nat.mul_add]; omega
    rw [q] at hn
    obtain ⟨y, d1, r1, o1, e1⟩ := ht x n d List.mem_cons_self (by omega) ho
    obtain ⟨ys, d2, r2, o2, e2⟩ := lcLoop_ex xs (acc ++ [y]) (n + c) d1 (fun z m e hz => ht z m e (List.mem_cons_of_mem _ hz)) hn o1
    refine ⟨y :: ys, d2, .cons r1 r2, by rw [q]; exact o2, ?_⟩
    rw [lcLoop, e1]
    show lcLoop turn xs (acc ++ [y]) _ = _
    rw [e2]
    simp
theorem Ea.len {R : D → D → Prop} {xs ys : List D} (h : Ea R xs ys) : ys.length = xs.length := by
  induction h with
  | nil => rfl
  | cons _ _ ih => simp [ih]
theorem Ea.all {R : D → D → Prop} {p : D → Prop} {xs ys : List D} (h : Ea R xs ys) (hp : ∀ x ∈ xs, ∀ y, R x y → p y) : ∀ y ∈ ys, p y := by
  induction h with
  | nil => intro y hy; cases hy
  | cons r _ ih =>
    intro y hy
    rcases List.mem_cons.mp hy with rfl | hy
    · exact hp _ List.mem_cons_self _ r
    · exact ih (fun x hx => hp x (List.mem_cons_of_mem _ hx)) y hy
theorem Ea.map {R : D → D → Prop} {f : D → D} {xs ys : List D} (h : Ea R xs ys) (hp : ∀ x y, R x y → f y = x) : ys.map f = xs := by
  induction h with
  | nil => rfl
  | cons r _ ih => rw [List.map_cons, hp _ _ r, ih]
theorem iran_mem : ∀ {n : Nat} {lo : Int} {x : D}, x ∈ iran lo n → ∃ i : Nat, x = .int (lo + i) ∧ i < n
  | 0, _, _, h => by cases h
  | n + 1, lo, x, h => by
    rw [iran] at h
    rcases List.mem_cons.mp h with rfl | h
    · exact ⟨0, by simp, by omega⟩
    · obtain ⟨i, rfl, hi⟩ := iran_mem h
      exact ⟨i + 1, by congr 1; omega, by omega⟩
theorem rng_lt {n : Int} (h0 : 0 ≤ n) (h : n < 100000) : rngItems [.int n] = some (iran 0 n.toNat) := rng_one ⟨by omega, by omega⟩
/-! ### worlds -/
def wld (hs gs : List D) : D := .tuple [.list hs, .list gs]
def GSm (x : D) : Prop := ∀ xs, x = .tuple xs → ∀ y ∈ xs, Sm y
def HSm (x : D) : Prop := ∀ a b c, x = .tuple [a, b, c] → Sm a ∧ ∀ xs, c = .list xs → xs.length ≤ 1000 ∧ ∀ y ∈ xs, Sm y
structure Wok (hs gs : List D) : Prop where
  fh : hs.length ≤ 900
  fg : gs.length ≤ 1000
  sg : ∀ x ∈ gs, GSm x
  sh : ∀ x ∈ hs, HSm x
theorem HSm.few {x : D} (h : HSm x) : Few x := fun a b c e => ((h a b (.list c) e).2 c rfl).1
theorem Wok.few {hs gs : List D} (w : Wok hs gs) : ∀ x ∈ hs, Few x := fun x hx => (w.sh x hx).few
theorem nm_sm {x : D} (h : isNm x = true) : Sm x := by
  obtain ⟨z, rfl⟩ := nm_str h
  show z.length ≤ 1000
  have h2 : (decide (1 ≤ z.length) && (decide (z.length ≤ 8) && z.cps.toList.all fun c => decide (c ∈ letters.cps.toList))) = true := h
  simp only [Bool.and_eq_true, decide_eq_true_eq] at h2
  omega
theorem gr_sm {x : D} (h : isGr x = true) : GSm x := by
  intro xs e y hy
  subst e
  match xs, h, hy with
  | [a, b], h, hy =>
    rw [isGr, Bool.and_eq_true] at h
    rcases List.mem_cons.mp hy with rfl | hy
    · exact nm_sm h.1
    · rw [List.mem_singleton.mp hy]
      cases b <;> first | trivial | (exact absurd h.2 (by simp [isB]))
theorem wd_iff {hs gs : List D} : isWd (wld hs gs) = true ↔ gs.all isGr = true ∧ hs.all (isHr (gs.map fst1)) = true ∧ (gs.map fst1 ++ hs.map fst1).Nodup := by
  unfold wld
  rw [isWd, Bool.and_eq_true, Bool.and_eq_true]
  constructor
  · exact fun ⟨h1, h2, h3⟩ => ⟨h1, h2, diff_nodup h3⟩
  · refine fun ⟨h1, h2, h3⟩ => ⟨h1, h2, nodup_diff ?_ h3⟩
    rw [List.all_append, (nms_plain h1).2, Bool.true_and, List.all_eq_true]
    intro y hy
    obtain ⟨x, hx, rfl⟩ := List.mem_map.mp hy
    obtain ⟨a, b, c, rfl, ha⟩ := hr_at (List.all_eq_true.mp h2 x hx)
    exact ha
theorem hr_congr {g1 g2 : List D} (h : ∀ x, x ∈ g1 → x ∈ g2) {x : D} (hx : isHr g1 x = true) : isHr g2 x = true := by
  obtain ⟨a, b, c, rfl, ha, hb, ho⟩ := hr_form hx
  obtain ⟨h1, h2, h3⟩ := or_iff.mp ho
  rw [isHr, ha, or_iff.mpr ⟨h1, h2, fun y hy => h y (h3 y hy)⟩]
  simp [isCt, hb]
theorem Wok.rev {hs gs : List D} (w : Wok hs gs) : Wok hs.reverse gs.reverse := ⟨by rw [List.length_reverse]; exact w.fh, by rw [List.length_reverse]; exact w.fg, fun x hx => w.sg x (List.mem_reverse.mp hx), fun x hx => w.sh x (List.mem_reverse.mp hx)⟩
theorem wd_rev {hs gs : List D} (h : isWd (wld hs gs) = true) : isWd (wld hs.reverse gs.reverse) = true := by
  obtain ⟨h1, h2, h3⟩ := wd_iff.mp h
  refine wd_iff.mpr ⟨by rw [List.all_reverse]; exact h1, ?_, ?_⟩
  · rw [List.all_reverse, List.all_eq_true]
    intro x hx
    refine hr_congr (fun y hy => ?_) (List.all_eq_true.mp h2 x hx)
    rw [List.map_reverse]
    exact List.mem_reverse.mpr hy
  · rw [List.map_reverse, List.map_reverse]
    exact (((List.reverse_perm _).append (List.reverse_perm _)).nodup_iff).mpr h3
theorem plcs_rev {hs gs : List D} : (plcs hs.reverse gs.reverse).Perm (plcs hs gs) := by
  unfold plcs
  rw [List.map_reverse, List.map_reverse]
  refine (List.reverse_perm _).append ?_
  exact List.Perm.flatten (List.reverse_perm _)
def Bad (x : D) : Prop := ∃ hs gs, x = wld hs gs ∧ Wok hs gs ∧ isWd (wld hs gs) = false
theorem bad_of {hs gs : List D} (w : Wok hs gs) (h : ¬ (gs.all isGr = true ∧ hs.all (isHr (gs.map fst1)) = true ∧ (gs.map fst1 ++ hs.map fst1).Nodup)) : Bad (wld hs gs) :=
  ⟨hs, gs, rfl, w, by rw [← Bool.not_eq_true]; exact fun e => h (wd_iff.mp e)⟩
theorem cut_to (xs : List D) {i : Nat} : cut xs none (some (i : Int)) = xs.take i := by
  unfold cut
  simp only [HT.sIx_none]
  rw [HT.sIx_nat, List.drop_zero]
  simp [List.take_eq_take_iff]
theorem cut_from (xs : List D) {i : Nat} : cut xs (some (i : Int)) none = xs.drop i := by
  unfold cut
  simp only [HT.sIx_none]
  rw [HT.sIx_nat]
  by_cases h : i ≤ xs.length
  · rw [Nat.min_eq_left h]
    exact List.take_of_length_le (by simp)
  · rw [Nat.min_eq_right (by omega)]
    simp [List.drop_eq_nil_of_le (by omega : xs.length ≤ i)]
theorem cut_last (xs : List D) : cut xs (some (-1)) none = xs.drop (xs.length - 1) := by
  unfold cut
  simp only [HT.sIx_none]
  have : HT.sIx xs.length 0 (some (-1)) = xs.length - 1 := by
    show (if (-1 : Int) < 0 then ((-1 : Int) + (xs.length : Int)).toNat else min (-1 : Int).toNat xs.length) = _
    rw [if_pos (by decide)]
    omega
  rw [this]
  exact List.take_of_length_le (by simp)
theorem nm_pl {xs : List D} (h : xs.all isNm = true) : plainD (.list xs) = true ∧ plainD (.tuple xs) = true := by
  have : PyData.plainAll xs = true ∧ PyData.depthAll xs = 0 := by
    induction xs with
    | nil => exact ⟨by simp [PyData.plainAll], by simp [PyData.depthAll]⟩
    | cons x xs ih =>
      rw [List.all_cons, Bool.and_eq_true] at h
      obtain ⟨z, rfl⟩ := nm_str h.1
      obtain ⟨h1, h2⟩ := ih h.2
      exact ⟨by simp [PyData.plainAll, PyData.plain, h1], by simp [PyData.depthAll, PyData.depth, h2]⟩
  constructor
  · unfold plainD; simp [PyData.plain, PyData.depth, this]
  · unfold plainD; simp [PyData.plain, PyData.depth, this]
theorem cut_toI (xs : List D) {i : Int} (h : 0 ≤ i) : cut xs none (some i) = xs.take i.toNat := by
  obtain ⟨n, rfl⟩ := Int.eq_ofNat_of_zero_le h
  exact cut_to xs
theorem cut_fromI (xs : List D) {i : Int} (h : 0 ≤ i) : cut xs (some (i + 1)) none = xs.drop (i.toNat + 1) := by
  obtain ⟨n, rfl⟩ := Int.eq_ofNat_of_zero_le h
  exact cut_from xs (i := n + 1)
theorem nth_at {xs : List D} {i : Int} (h0 : 0 ≤ i) (h1 : i.toNat < xs.length) : nth xs i = some xs[i.toNat] := by
  have : i < (xs.length : Int) := by omega
  simp [nth, L2.atI, L2.ixN, h0, h1, this]
end EV
end
section
set_option Elab.async false
set_option linter.all false
set_option maxRecDepth 100000
set_option maxHeartbeats 4000000
set_option autoImplicit false
/-! GZ3: small data, what repr makes of it; is_world of anything; the laws' own is_world -/
namespace EV
open PySem
/-! ### small data -/
def okS (z : Str) : Bool := decide (z.length ≤ 9) && z.cps.toList.all fun c => decide (c < 128)
mutual
/-- lists so long at most, short texts, small numbers, no dict but the empty one -/
def okD (l : Nat) : D → Bool
  | .none => true
  | .bool _ => true
  | .int i => decide ((0 ≤ i ∧ i < 10000000000) ∨ i = -1)
  | .str z => okS z
  | .list xs => decide (xs.length ≤ l) && okAll l xs
  | .tuple xs => decide (xs.length ≤ l) && okAll l xs
  | .dict kvs => kvs.isEmpty
def okAll (l : Nat) : List D → Bool
  | [] => true
  | x :: xs => okD l x && okAll l xs
end
mutual
/-- so many signs at most repr tells of it -/
def wt : D → Nat
  | .none => 4
  | .bool _ => 5
  | .int _ => 12
  | .str _ => 38
  | .list xs => 4 + wtAll xs
  | .tuple xs => 4 + wtAll xs
  | .dict _ => 2
def wtAll : List D → Nat
  | [] => 0
  | x :: xs => (wt x + 2) + wtAll xs
end
theorem okAll_iff {l : Nat} : ∀ {xs : List D}, okAll l xs = true ↔ ∀ x ∈ xs, okD l x = true
  | [] => by simp [okAll]
  | x :: xs => by rw [okAll, Bool.and_eq_true, okAll_iff]; simp
theorem ok_list {l : Nat} {xs : List D} : okD l (.list xs) = true ↔ xs.length ≤ l ∧ ∀ x ∈ xs, okD l x = true := by
  rw [okD, Bool.and_eq_true, decide_eq_true_eq, okAll_iff]
theorem ok_tup {l : Nat} {xs : List D} : okD l (.tuple xs) = true ↔ xs.length ≤ l ∧ ∀ x ∈ xs, okD l x = true := by
  rw [okD, Bool.and_eq_true, decide_eq_true_eq, okAll_iff]
mutual
theorem okD_mono {l m : Nat} (h : l ≤ m) : ∀ (x : D), okD l x = true → okD m x = true
  | .none, _ => rfl
  | .bool _, _ => rfl
  | .int i, e => by rw [okD] at e ⊢; exact e
  | .str z, e => by rw [okD] at e ⊢; exact e
  | .list xs, e => by
    rw [okD, Bool.and_eq_true, decide_eq_true_eq] at e ⊢
    exact ⟨Nat.le_trans e.1 h, okAll_mono h xs e.2⟩
  | .tuple xs, e => by
    rw [okD, Bool.and_eq_true, decide_eq_true_eq] at e ⊢
    exact ⟨Nat.le_trans e.1 h, okAll_mono h xs e.2⟩
  | .dict _, e => by rw [okD] at e ⊢; exact e
theorem okAll_mono {l m : Nat} (h : l ≤ m) : ∀ (xs : List D), okAll l xs = true → okAll m xs = true
  | [], _ => rfl
  | x :: xs, e => by
    rw [okAll, Bool.and_eq_true] at e ⊢
    exact ⟨okD_mono h x e.1, okAll_mono h xs e.2⟩
end
theorem wt_app : ∀ (xs ys : List D), wtAll (xs ++ ys) = wtAll xs + wtAll ys
  | [], ys => by simp [wtAll]
  | x :: xs, ys => by rw [List.cons_append, wtAll, wtAll, wt_app xs ys]; omega
theorem wt_take (xs : List D) (i : Nat) : wtAll (xs.take i) + wtAll (xs.drop i) = wtAll xs := by
  rw [← wt_app, List.take_append_drop]
theorem wt_set : ∀ (xs : List D) (i : Nat) (h : i < xs.length) (y : D), wtAll (xs.set i y) + wt xs[i] = wtAll xs + wt y
  | [], _, h, _ => absurd h (Nat.not_lt_zero _)
  | x :: xs, 0, _, y => by simp only [List.set_cons_zero, wtAll, List.getElem_cons_zero]; omega
  | x :: xs, i + 1, h, y => by
    have := wt_set xs i (by simpa using h) y
    simp only [List.set_cons_succ, wtAll, List.getElem_cons_succ]
    omega
theorem dp_le {xs : List D} {n : Nat} : PyData.depthAll xs ≤ n ↔ ∀ x ∈ xs, x.depth ≤ n := by
  induction xs with
  | nil => simp [PyData.depthAll]
  | cons x xs ih => rw [PyData.depthAll, Nat.max_le, ih]; simp
theorem wt_mem : ∀ {xs : List D} {x : D}, x ∈ xs → wt x + 2 ≤ wtAll xs
  | y :: xs, x, h => by
    rw [wtAll]
    rcases List.mem_cons.mp h with rfl | h
    · omega
    · have := wt_mem h; omega
/-! ### repr's length -/
theorem chr_len (q : Nat) : ∀ c, c < 128 → (Builtin.Str.reprChar q c).length ≤ 4 := by
  intro c hc
  by_cases h : c = q
  · unfold Builtin.Str.reprChar
    simp [h]
  · have := (by decide +kernel : ∀ c : Fin 128, (Builtin.Str.reprChar 1000 c.val).length ≤ 4) ⟨c, hc⟩
    unfold Builtin.Str.reprChar at this ⊢
    have n1 : (c == q) = false := beq_eq_false_iff_ne.mpr h
    have n2 : (c == 1000) = false := beq_eq_false_iff_ne.mpr (by omega)
    simp only [n1, n2] at this ⊢
    exact this
theorem fold_len (q : Nat) : ∀ (l : List Nat) (n : Nat), (∀ c ∈ l, c < 128) → l.foldl (fun n c => n + (Builtin.Str.reprChar q c).length) n ≤ n + 4 * l.length
  | [], n, _ => by simp
  | c :: l, n, h => by
    rw [List.foldl_cons]
    have h1 := chr_len q c (h c List.mem_cons_self)
    have h2 := fold_len q l (n + (Builtin.Str.reprChar q c).length) fun d hd => h d (List.mem_cons_of_mem _ hd)
    rw [List.length_cons]
    omega
theorem repr_len {z : Str} (h : okS z = true) : (reprText z).length ≤ 38 := by
  unfold okS at h
  rw [Bool.and_eq_true, decide_eq_true_eq, List.all_eq_true] at h
  rw [← reprLen_eq, ← Array.foldl_toList]
  have := fold_len (reprQuote z) z.cps.toList 2 fun c hc => by simpa using h.2 c hc
  have e : z.cps.toList.length = z.length := by simp [Str.length]
  omega
theorem list_len (ts : List Str) : (listText ts).length ≤ 2 + piled ts := by
  cases ts with
  | nil => rw [listText_nil]; decide
  | cons t r =>
    show (textFrom 1 ("[" ++ "" ++ t) r ++ "]").length ≤ _
    rw [len_app, textFrom_length_pos r 1 _ (by decide), len_app, len_app, piled_cons]
    show 1 + 0 + t.length + piled r + 1 ≤ _
    omega
theorem tup_len (ts : List Str) : (tupleText ts).length ≤ 3 + piled ts := by
  cases ts with
  | nil => decide
  | cons t r =>
    have := join_length_add (t :: r) (List.cons_ne_nil _ _)
    unfold tupleText
    rw [len_app, len_app]
    have e : ∀ b : Bool, ((if b then ",)" else ")" : String) : Str).length ≤ 2 := by decide
    have := e ((t :: r).length == 1)
    show 1 + (Str.join ", " (t :: r)).length + _ ≤ _
    omega
mutual
theorem shown_le {l : Nat} : ∀ x : D, okD l x = true → x.shown.length ≤ wt x
  | .none, _ => by rw [PyData.shown, wt]; decide
  | .bool b, _ => by rw [PyData.shown, wt]; cases b <;> decide
  | .int i, h => by
    rw [PyData.shown, wt]
    rw [okD, decide_eq_true_eq] at h
    rcases h with ⟨h0, h1⟩ | rfl
    · exact Nat.le_trans (PyProof.Rows.toString_length_le h0 (k := 10) (by decide) (by omega)) (by decide)
    · decide +kernel
  | .str z, h => by
    rw [PyData.shown, wt]
    rw [okD] at h
    exact repr_len h
  | .list xs, h => by
    rw [okD, Bool.and_eq_true] at h
    rw [PyData.shown, wt]
    have := shownAll_le xs h.2
    have := list_len (PyData.shownAll xs)
    omega
  | .tuple xs, h => by
    rw [okD, Bool.and_eq_true] at h
    rw [PyData.shown, wt]
    have := shownAll_le xs h.2
    have := tup_len (PyData.shownAll xs)
    omega
  | .dict kvs, h => by
    rw [okD] at h
    cases kvs with
    | nil => rw [PyData.shown, wt, PyData.shownKv]; decide
    | cons _ _ => cases h
theorem shownAll_le {l : Nat} : ∀ xs : List D, okAll l xs = true → piled (PyData.shownAll xs) ≤ wtAll xs
  | [], _ => by rw [PyData.shownAll, piled_nil]; omega
  | x :: xs, h => by
    rw [okAll, Bool.and_eq_true] at h
    have h1 := shown_le x h.1
    have h2 := shownAll_le xs h.2
    rw [PyData.shownAll, piled_cons, wtAll]
    omega
end
mutual
theorem showable_of {l : Nat} : ∀ x : D, okD l x = true → x.showable = true
  | .none, _ => by rw [PyData.showable]
  | .bool _, _ => by rw [PyData.showable]
  | .int i, h => by
    rw [PyData.showable, decide_eq_true_eq]
    rw [okD, decide_eq_true_eq] at h
    have : i.natAbs < 2 ^ 40 := by omega
    by_cases z : i.natAbs = 0
    · rw [z]; decide
    · exact Nat.lt_trans ((Nat.log2_lt z).mpr this) (by decide)
  | .str _, _ => by rw [PyData.showable]
  | .list xs, h => by
    rw [okD, Bool.and_eq_true] at h
    rw [PyData.showable]
    exact showableAll_of xs h.2
  | .tuple xs, h => by
    rw [okD, Bool.and_eq_true] at h
    rw [PyData.showable]
    exact showableAll_of xs h.2
  | .dict kvs, h => by
    rw [okD] at h
    cases kvs with
    | nil => rw [PyData.showable, PyData.showableKv]
    | cons _ _ => cases h
theorem showableAll_of {l : Nat} : ∀ xs : List D, okAll l xs = true → PyData.showableAll xs = true
  | [], _ => by rw [PyData.showableAll]
  | x :: xs, h => by
    rw [okAll, Bool.and_eq_true] at h
    rw [PyData.showableAll, showable_of x h.1, showableAll_of xs h.2]
    rfl
end
mutual
theorem noX_of {l : Nat} : ∀ x : D, okD l x = true → noX x = true
  | .none, _ => rfl
  | .bool _, _ => rfl
  | .int _, _ => rfl
  | .str _, _ => rfl
  | .list xs, h => by
    rw [okD, Bool.and_eq_true] at h
    rw [noX]
    exact noXs_of xs h.2
  | .tuple xs, h => by
    rw [okD, Bool.and_eq_true] at h
    rw [noX]
    exact noXs_of xs h.2
  | .dict kvs, h => by
    rw [okD] at h
    cases kvs with
    | nil => rw [noX, noXv]; rfl
    | cons _ _ => cases h
theorem noXs_of {l : Nat} : ∀ xs : List D, okAll l xs = true → noXs xs = true
  | [], _ => by rw [noXs]
  | x :: xs, h => by
    rw [okAll, Bool.and_eq_true] at h
    rw [noXs, noX_of x h.1, noXs_of xs h.2]
    rfl
end
theorem d_repr {l : Nat} {x : D} (h : okD l x = true) (hd : x.depth ≤ 64) (hw : wt x ≤ 1000000) : fRepr [x] = some (.str x.shown) := by
  unfold fRepr
  simp only [showable_of x h, noX_of x h, Bool.true_and, Bool.and_true, Bool.and_eq_true, decide_eq_true_eq]
  exact if_pos ⟨hd, Nat.le_trans (shown_le x h) hw⟩
theorem ne_nil (xs : List D) : fNe [.list xs, .list []] = some (.bool (!xs.isEmpty)) := by
  show (if plainD (.list xs) && plainD (.list []) then some (PyData.bool (!PyData.eqv (.list xs) (.list []))) else some (.bool (!xs.isEmpty))) = _
  cases xs <;> simp [PyData.eqv, PyData.eqvAll]
theorem eq_nil (xs : List D) : fEq [.list xs, .list []] = some (.bool xs.isEmpty) := by
  show (if plainD (.list xs) && plainD (.list []) then some (PyData.bool (PyData.eqv (.list xs) (.list []))) else some (.bool xs.isEmpty)) = _
  cases xs <;> simp [PyData.eqv, PyData.eqvAll]
theorem lcLoop_filter {turn : D → Ste → Res (Option D)} {p : D → Bool} {s : Ste} : ∀ (xs acc : List D), (∀ x ∈ xs, turn x s = .ok (if p x then some x else none) s) → lcLoop turn xs acc s = .ok (acc ++ xs.filter p) s
  | [], acc, _ => by simp [lcLoop]
  | x :: xs, acc, h => by
    rw [lcLoop, h x List.mem_cons_self]
    have ih := fun acc => lcLoop_filter xs acc fun y hy => h y (List.mem_cons_of_mem _ hy)
    cases e : p x with
    | true =>
      simp only [if_true]
      rw [ih, List.filter_cons_of_pos e]
      simp
    | false =>
      simp only [Bool.false_eq_true, if_false]
      rw [ih, List.filter_cons_of_neg (by simp [e])]
theorem filter_none {p : D → Bool} {xs : List D} : (xs.filter p).isEmpty = xs.all fun x => !p x := by
  induction xs with
  | nil => rfl
  | cons x xs ih =>
    rw [List.all_cons, ← ih]
    cases e : p x <;> simp [List.filter_cons, e]
/-! ### is_world of anything small -/
section
variable {fs : List FunI} {meth : Nat → Nat → Option Nat} {consts : List D} {k j : Nat} {hp : List Cell}
theorem ok_sm {l : Nat} {x : D} (h : okD l x = true) : Sm x := by
  cases x with
  | str z =>
    rw [okD, okS, Bool.and_eq_true, decide_eq_true_eq] at h
    show z.length ≤ 1000
    omega
  | _ => trivial
theorem ok_gsm {l : Nat} {x : D} (h : okD l x = true) : GSm x := fun xs e y hy => by
  subst e
  exact ok_sm ((ok_tup.mp h).2 y hy)
theorem ok_hsm {l : Nat} (hl : l ≤ 900) {x : D} (h : okD l x = true) : HSm x := fun a b c e => by
  subst e
  have h2 := (ok_tup.mp h).2
  refine ⟨ok_sm (h2 a (by simp)), fun xs e => ?_⟩
  subst e
  have h3 := ok_list.mp (h2 (.list xs) (by simp))
  exact ⟨by omega, fun y hy => ok_sm (h3.2 y hy)⟩
theorem isw_call {gr hr n ct o gl gm : Nat} (hj : fs[j]? = some ⟨8, 1, bWorld gr hr⟩) (hgr : fs[gr]? = some ⟨1, 1, bGrow n⟩) (hhr : fs[hr]? = some ⟨2, 2, bHrow n ct o⟩) (hn : fs[n]? = some ⟨2, 1, bName gl gm⟩) (hc : fs[ct]? = some ⟨1, 1, bCount⟩) (ho : fs[o]? = some ⟨3, 2, bOrder n⟩) (hl : consts[gl]? = some (.str letters)) (hm : consts[gm]? = some (.int 8))
    {l : Nat} (ll : l ≤ 900) {x : D} (hx : okD l x = true) : callF fs meth consts (k + 4) j [.d x] hp = .ok (.d (.bool (isWd x))) hp := by
  have odd : ∀ xs : List D, (∀ hs gs, xs ≠ [.list hs, .list gs]) → callF fs meth consts (k + 4) j [.d (.tuple xs)] hp = .ok (.d (.bool false)) hp := fun xs h => by
    rw [callF, hj]
    by_cases h2 : xs.length = 2
    · match xs, h2 with
      | [a, b], _ =>
        have l0 : lcLoop (lcTurn ⟨consts, callF fs meth consts (k + 3), callF fs meth consts (k + 2), meth⟩ [1] (.nm 1) .nil (.op (.isinst .list) (.cons (.peek (.sl 1)) .nil)) false) [a, b] [] ⟨[.v (.d (.tuple [a, b])), .non, .non, .non, .non, .non, .non, .non], hp⟩ = .ok ([a, b].map fun x => .bool (isTy .list x)) ⟨[.v (.d (.tuple [a, b])), .non, .non, .non, .non, .non, .non, .non], hp⟩ := by
          rw [lcLoop_map (f := fun x => .bool (isTy .list x))]
          · simp
          · intro y hy
            simp [lcTurn]
        have a0 := d_allb (f := isTy .list) [a, b]
        have e : [a, b].all (isTy .list) = false := by
          rw [← Bool.not_eq_true]
          intro e
          simp only [List.all_cons, List.all_nil, Bool.and_true, Bool.and_eq_true] at e
          cases a <;> first | (cases e.1) | skip
          cases b <;> first | (cases e.2) | skip
          exact h _ _ rfl
        rw [e] at a0
        simp only [List.map_cons, List.map_nil] at l0 a0
        have tt : isTy .tuple (.tuple [a, b]) = true := rfl
        simp [noPk, bWorld, tt, d_nei, l0, a0, lim]
    · have h2' : ((xs.length : Int) == 2) = false := by
        rw [beq_eq_false_iff_ne]
        omega
      simp [noPk, bWorld, isTy, d_nei, h2']
  cases x with
  | tuple xs =>
    by_cases h : ∃ hs gs, xs = [.list hs, .list gs]
    · obtain ⟨hs, gs, rfl⟩ := h
      have q := (ok_tup.mp hx).2
      have q1 := ok_list.mp (q (.list hs) (by simp))
      have q2 := ok_list.mp (q (.list gs) (by simp))
      exact world_call hj hgr hhr hn hc ho hl hm (by omega) (by omega) (fun x hx => ok_gsm (q2.2 x hx)) fun x hx => ok_hsm ll (q1.2 x hx)
    · have e : isWd (.tuple xs) = false := by
        unfold isWd
        split
        · rename_i hs gs e
          cases e
          exact (h ⟨_, _, rfl⟩).elim
        · rfl
      rw [e]
      exact odd xs fun hs gs e => h ⟨hs, gs, e⟩
  | _ =>
    rw [callF, hj]
    simp [noPk, bWorld, isTy, isWd]
/-! ### the law's own -/
def bLName : CSs := (ss [
  (.ret (.and (.op (.isinst .str) (cs [(.peek (.sl 0))])) (.and (.chain .lt .lt (.kst (.int 0)) (.op .len (cs [(.peek (.sl 0))])) (.kst (.int 9))) (.op .eq (cs [(.meth .strip (.peek (.sl 0)) (cs [(.kst (.str "abcdefghijklmnopqrstuvwxyz"))])), (.kst (.str ""))])))))])
theorem lname_call (hj : fs[j]? = some ⟨1, 1, bLName⟩) {x : D} (h : Sm x) : callF fs meth consts (k + 1) j [.d x] hp = .ok (.d (.bool (isNm x))) hp := by
  rw [callF, hj]
  cases x with
  | str z =>
    have hl : z.length ≤ lim := lim_ge h
    by_cases h1 : (0 : Int) < z.length
    · have h1' : 1 ≤ z.length := by omega
      have h0 : 0 < z.length := h1'
      by_cases h2 : (z.length : Int) < 9
      · have h2' : z.length ≤ 8 := by omega
        simp [noPk, bLName, isTy, d_lens hl, h1, h2, h0, h1', h2', isNm, isStr, d_strip hl, d_eqs, strip_none, letters]
      · have h2' : ¬ z.length ≤ 8 := by omega
        simp [noPk, bLName, isTy, d_lens hl, h1, h2, h0, h1', h2', isNm]
    · have h1' : ¬ 1 ≤ z.length := by omega
      have h0 : z.length = 0 := by omega
      simp [noPk, bLName, isTy, d_lens hl, h1, h0, h1', isNm]
  | _ => simp [noPk, bLName, isTy, isNm]
/-- unlike, place by place -/
theorem nodup_at {xs : List D} : xs.Nodup ↔ ∀ (i : Nat) (h : i < xs.length), xs[i] ∉ xs.take i := by
  rw [List.nodup_iff_pairwise_ne, List.pairwise_iff_getElem]
  constructor
  · intro h i hi hm
    obtain ⟨m, hm, e⟩ := List.mem_take_iff_getElem.mp hm
    exact h m i (by omega) hi (by omega) e
  · intro h i j hi hj hij e
    exact h j hj (List.mem_take_iff_getElem.mpr ⟨i, by omega, e⟩)
/-- at the places of a list: whether it stands ahead of itself -/
def atQ (xs : List D) : D → Bool
  | .int i => match xs[i.toNat]? with
    | some x => inD x (xs.take i.toNat)
    | none => false
  | _ => false
theorem at_diff {xs : List D} (h : xs.all isNm = true) : (((iran 0 xs.length).filter (atQ xs)).isEmpty) = diffS xs := by
  have hn := List.all_eq_true.mp h
  rw [filter_none, Bool.eq_iff_iff, List.all_eq_true]
  have key : (∀ x ∈ iran 0 xs.length, (!atQ xs x) = true) ↔ xs.Nodup := by
    rw [nodup_at]
    constructor
    · intro q i hi hm
      have hq : PyData.int (i : Int) ∈ iran 0 xs.length := by
        have e : (iran 0 xs.length)[i]? = some (.int (0 + (i : Int))) := by
          have hl : i < (iran 0 xs.length).length := by rw [iran_len]; exact hi
          have := iran_get xs.length 0 i _ (List.getElem?_eq_getElem hl)
          rw [List.getElem?_eq_getElem hl, this.2]
        have := List.mem_of_getElem? e
        simpa using this
      have := q _ hq
      unfold atQ at this
      simp only [Int.toNat_natCast, List.getElem?_eq_getElem hi] at this
      rw [(ind_nm (hn _ (List.getElem_mem hi))).mpr hm] at this
      cases this
    · intro q x hx
      obtain ⟨i, rfl, hi⟩ := iran_mem hx
      have e : (0 + (i : Int)).toNat = i := by omega
      unfold atQ
      simp only [e, List.getElem?_eq_getElem hi]
      cases c : inD xs[i] (xs.take i) with
      | false => rfl
      | true => exact (q i hi ((ind_nm (hn _ (List.getElem_mem hi))).mp c)).elim
  rw [key]
  exact ⟨fun q => nodup_diff h q, fun q => diff_nodup q⟩
end
end EV
end
section
set_option Elab.async false
set_option linter.all false
set_option maxRecDepth 100000
set_option maxHeartbeats 4000000
set_option autoImplicit false
/-! GZ4: the drawn town of k02, k03, k05 -/
namespace EV
open PySem
structure Town (hs gs : List D) : Prop where
  gr : gs.all isGr = true
  hr : hs.all (isHr (gs.map fst1)) = true
  nd : (gs.map fst1 ++ hs.map fst1).Nodup
  fh : hs.length ≤ 9
  fg : gs.length ≤ 9
  nm : ∀ x ∈ gs.map fst1 ++ hs.map fst1, x ∈ base
  row : ∀ h ∈ hs, ∃ (a : D) (b : Int) (c : List D), h = .tuple [a, .int b, .list c] ∧ (0 ≤ b ∧ b < 10000000000) ∧ c.length ≤ 9
theorem Town.wd {hs gs : List D} (t : Town hs gs) : isWd (wld hs gs) = true := wd_iff.mpr ⟨t.gr, t.hr, t.nd⟩
theorem base_ok : ∀ x ∈ base, isNm x = true ∧ okD 0 x = true ∧ wt x ≤ 38 ∧ x.depth = 0 := by decide +kernel
theorem Town.guest {hs gs : List D} (t : Town hs gs) {g : D} (hg : g ∈ gs) : ∃ (a : D) (b : Bool), g = .tuple [a, .bool b] ∧ a ∈ base := by
  have h := List.all_eq_true.mp t.gr g hg
  have hm := t.nm (fst1 g) (List.mem_append_left _ (List.mem_map.mpr ⟨g, hg, rfl⟩))
  match g, h with
  | .tuple [a, b], h =>
    rw [isGr, Bool.and_eq_true] at h
    cases b with
    | bool b => exact ⟨a, b, rfl, hm⟩
    | _ => cases h.2
theorem Town.house {hs gs : List D} (t : Town hs gs) {h : D} (hh : h ∈ hs) : ∃ (a : D) (b : Int) (c : List D), h = .tuple [a, .int b, .list c] ∧ a ∈ base ∧ (0 ≤ b ∧ b < 10000000000) ∧ c.length ≤ 9 ∧ c.Nodup ∧ ∀ x ∈ c, x ∈ gs.map fst1 ∧ x ∈ base := by
  have hr := List.all_eq_true.mp t.hr h hh
  have hm := t.nm (fst1 h) (List.mem_append_right _ (List.mem_map.mpr ⟨h, hh, rfl⟩))
  obtain ⟨a, b, c, rfl, hb, hc⟩ := t.row h hh
  rw [isHr, Bool.and_eq_true, Bool.and_eq_true] at hr
  obtain ⟨c1, c2, c3⟩ := or_iff.mp hr.2.2
  exact ⟨a, b, c, rfl, hm, hb, hc, c2, fun x hx => ⟨c3 x hx, t.nm x (List.mem_append_left _ (c3 x hx))⟩⟩
theorem wt_all {w : Nat} : ∀ {xs : List D}, (∀ x ∈ xs, wt x ≤ w) → wtAll xs ≤ (w + 2) * xs.length
  | [], _ => by rw [wtAll]; omega
  | x :: xs, h => by
    have h1 := h x List.mem_cons_self
    have h2 := wt_all fun y hy => h y (List.mem_cons_of_mem _ hy)
    rw [wtAll, List.length_cons, Nat.mul_add]
    omega
theorem Town.small {hs gs : List D} (t : Town hs gs) : okD 10 (wld hs gs) = true ∧ wt (wld hs gs) ≤ 5000 ∧ (wld hs gs).depth ≤ 4 := by
  have g : ∀ x ∈ gs, okD 10 x = true ∧ wt x ≤ 60 ∧ x.depth ≤ 2 := fun x hx => by
    obtain ⟨a, b, rfl, ha⟩ := t.guest hx
    obtain ⟨_, h1, h2, h3⟩ := base_ok a ha
    refine ⟨ok_tup.mpr ⟨by simp, fun y hy => ?_⟩, ?_, ?_⟩
    · simp only [List.mem_cons, List.not_mem_nil, or_false] at hy
      rcases hy with rfl | rfl
      · exact okD_mono (by omega) _ h1
      · rfl
    · simp only [wt, wtAll]; omega
    · simp only [PyData.depth, PyData.depthAll, h3]; omega
  have h : ∀ x ∈ hs, okD 10 x = true ∧ wt x ≤ 430 ∧ x.depth ≤ 2 := fun x hx => by
    obtain ⟨a, b, c, rfl, ha, hb, cl, _, hc⟩ := t.house hx
    obtain ⟨_, h1, h2, h3⟩ := base_ok a ha
    have c1 : okD 10 (.list c) = true := ok_list.mpr ⟨by omega, fun y hy => okD_mono (by omega) _ (base_ok y (hc y hy).2).2.1⟩
    have c2 := wt_all (w := 38) (xs := c) fun y hy => (base_ok y (hc y hy).2).2.2.1
    have c3 : PyData.depthAll c ≤ 0 := dp_le.mpr fun y hy => by rw [(base_ok y (hc y hy).2).2.2.2]; exact Nat.le_refl _
    refine ⟨ok_tup.mpr ⟨by simp, fun y hy => ?_⟩, ?_, ?_⟩
    · simp only [List.mem_cons, List.not_mem_nil, or_false] at hy
      rcases hy with rfl | rfl | rfl
      · exact okD_mono (by omega) _ h1
      · rw [okD, decide_eq_true_eq]; exact .inl hb
      · exact c1
    · simp only [wt, wtAll]; omega
    · simp only [PyData.depth, PyData.depthAll, h3]; omega
  have fh := t.fh
  have fg := t.fg
  have w1 := wt_all fun x hx => (g x hx).2.1
  have w2 := wt_all fun x hx => (h x hx).2.1
  have d1 : PyData.depthAll gs ≤ 2 := dp_le.mpr fun x hx => (g x hx).2.2
  have d2 : PyData.depthAll hs ≤ 2 := dp_le.mpr fun x hx => (h x hx).2.2
  refine ⟨ok_tup.mpr ⟨by simp, fun y hy => ?_⟩, ?_, ?_⟩
  · simp only [List.mem_cons, List.not_mem_nil, or_false] at hy
    rcases hy with rfl | rfl
    · exact ok_list.mpr ⟨by omega, fun x hx => (h x hx).1⟩
    · exact ok_list.mpr ⟨by omega, fun x hx => (g x hx).1⟩
  · simp only [wld, wt, wtAll]; omega
  · simp only [wld, PyData.depth, PyData.depthAll]; omega
section
variable {fs : List FunI} {meth : Nat → Nat → Option Nat} {consts : List D} {k j : Nat}
theorem p10_9 : fPow [.int 10, .int 9] = some (.int 1000000000) := by
  rw [show fPow [.int 10, .int 9] = some (.int ((10 : Int) ^ 9)) from pow_ok (n := 4) 9 (by decide) (by decide)]
  rfl
theorem draw_call {sc n : Nat} {d : D} {m : Int} (hsc : fs[sc]? = some ⟨4, 2, bScoop⟩) (ho : PotOk n d) (hn : n < 2 ^ 58) (h0 : 0 < m) (h1 : m < 2 ^ 30) : ∃ (r : Int) (d' : D), 0 ≤ r ∧ r < m ∧ PotOk (n + 1) d' ∧ callF fs meth consts (k + 1) sc [.r 0, .d (.int m)] [pc d] = .ok (.d (.int r)) [pc d'] := by
  obtain ⟨r, d', r0, r1, o, e⟩ := scoop_call (k := k) (consts := consts) (meth := meth) (p := 0) (hp := [pc d]) hsc rfl ho (by omega) h0 h1
  exact ⟨r, d', r0, r1, o, e⟩
def tBody (sc dr : Nat) : CSs := ss [
    (.set 8 (.op .idx (cs [(.lst (cs [(.kst (.int 0)), (.kst (.int 1)), (.kst (.int 1)), (.kst (.int 2)), (.op .add (cs [(.op .idx (cs [(.peek (.sl 2)), (.kst (.int 1))])), (.kst (.int 1))])), (.op .sub (cs [(.op .pow (cs [(.kst (.int 10)), (.kst (.int 9))])), (.kst (.int 1))]))])), (.call sc (cs [(.var 0), (.kst (.int 6))]))]))),
    (.expr (.mut (.sl 7) .z .app (cs [(.tup (cs [(.var 6), (.var 8), (.call dr (cs [(.var 0), (.op .slice (cs [(.peek (.sl 4)), (.kst .none), (.op .toi (cs [(.op .idx (cs [(.peek (.sl 2)), (.kst (.int 1))]))]))])), (.op .idx (cs [(.peek (.sl 2)), (.kst (.int 1))]))]))]))])))]
def bTown (sc nm dr : Nat) : CSs := (ss [
  (.set 2 (.lc [3] (.nm 3) (.rng (cs [(.kst (.int 2))])) (cs []) (.call sc (cs [(.var 0), (.op .add (cs [(.peek (.sl 1)), (.kst (.int 1))]))])))),
  (.set 4 (.call nm (cs [(.var 0), (.op .add (cs [(.op .idx (cs [(.peek (.sl 2)), (.kst (.int 0))])), (.op .idx (cs [(.peek (.sl 2)), (.kst (.int 1))]))]))]))),
  (.set 5 (.lc [6] (.nm 6) (.seq (.op .slice (cs [(.peek (.sl 4)), (.kst .none), (.op .toi (cs [(.op .idx (cs [(.peek (.sl 2)), (.kst (.int 1))]))]))]))) (cs []) (.tup (cs [(.var 6), (.op .gt (cs [(.call sc (cs [(.var 0), (.kst (.int 4))])), (.kst (.int 0))]))])))),
  (.setO 7 (.o .z) (.lst (cs []))),
  (.for (.nm 6) (.seq (.op .slice (cs [(.peek (.sl 4)), (.op .toi (cs [(.op .idx (cs [(.peek (.sl 2)), (.kst (.int 1))]))])), (.kst .none)]))) (tBody sc dr)),
  (.ret (.tup (cs [(.var 7), (.var 5)])))])
theorem nm_flat {x : D} (h : isNm x = true) : flat x = true := by
  cases x with
  | str z => rfl
  | _ => cases h
theorem nms_noRf {xs : List D} (h : xs.all isNm = true) : noRfs xs = true := flats_noRfs (flats_of fun y hy => nm_flat (List.all_eq_true.mp h y hy))
theorem hr_noRf {gs : List D} {x : D} (h : isHr gs x = true) : noRf x = true := by
  obtain ⟨a, b, c, rfl, ha, _, ho⟩ := hr_form h
  have h1 := nms_noRf (or_iff.mp ho).1
  have h2 := flat_noRf _ (nm_flat ha)
  simp [h1, h2]
theorem town_turn {sc dr n : Nat} {d x : D} {a b : Int} {ys hs : List D} {v1 v5 : Vl} {s6 s8 : Slot} (hsc : fs[sc]? = some ⟨4, 2, bScoop⟩) (hdr : fs[dr]? = some ⟨5, 3, bDrawn sc⟩) (o6 : Slot.open (some s6) = true) (o8 : Slot.open (some s8) = true) (b0 : 0 ≤ b) (b9 : b ≤ 9) (hy : ys.all isNm = true) (nd : ys.Nodup) (hx : isNm x = true) (hl : hs.length < 1000) (ho : PotOk n d) (hn : n < 2 ^ 56) :
    ∃ (q : Int) (c : List D) (d' : D), isHr (ys.take b.toNat) (.tuple [x, .int q, .list c]) = true ∧ (0 ≤ q ∧ q < 10000000000) ∧ c.length ≤ 9 ∧ PotOk (n + 1002) d' ∧ forTurn ⟨consts, callF fs meth consts (k + 2), callF fs meth consts (k + 1), meth⟩ (.nm 6) (tBody sc dr) false x ⟨[.v (.r 0), .v v1, .v (.d (.list [.int a, .int b])), .non, .v (.d (.list ys)), .v v5, s6, .own (.o .z) (.list hs), s8], [pc d]⟩ =
      .nx ⟨[.v (.r 0), .v v1, .v (.d (.list [.int a, .int b])), .non, .v (.d (.list ys)), .v v5, .v (.d x), .own (.o .z) (.list (hs ++ [.tuple [x, .int q, .list c]])), .v (.d (.int q))], [pc d']⟩ := by
  obtain ⟨r1, d1, z1, q1, o1, e1⟩ := draw_call (k := k + 1) (consts := consts) (meth := meth) (m := 6) hsc ho (by omega) (by decide) (by decide)
  have tl : (ys.take b.toNat).length ≤ 9 := by rw [List.length_take]; omega
  obtain ⟨c, L, d2, p, cl, o2, e2⟩ := drawn_call (k := k) (consts := consts) (meth := meth) hdr hsc (G := ys.take b.toNat) (most := b) (nms_noRf (List.all_eq_true.mpr fun y hyc => List.all_eq_true.mp hy y (List.mem_of_mem_take hyc))) (by omega) b0 (by omega) (by omega) o1
  obtain ⟨q, hq, eq⟩ : ∃ q : Int, (0 ≤ q ∧ q < 10000000000) ∧ nth [PyData.int 0, .int 1, .int 1, .int 2, .int (b + 1), .int (1000000000 - 1)] r1 = some (.int q) := by
    obtain ⟨y, hy, ey⟩ := nth_ok (xs := [PyData.int 0, .int 1, .int 1, .int 2, .int (b + 1), .int (1000000000 - 1)]) z1 (by simpa using q1)
    rw [ey]
    simp only [List.mem_cons, List.not_mem_nil, or_false] at hy
    rcases hy with rfl | rfl | rfl | rfl | rfl | rfl <;> exact ⟨_, by omega, rfl⟩
  have s1 : fSlice [.list ys, .none, .int b] = some (.list (ys.take b.toNat)) := by rw [d_slice0 (l := none) (h := some b) rfl rfl, cut_toI _ b0]
  have h1 : ∀ y ∈ c, y ∈ ys.take b.toNat := fun y hy => p.mem_iff.mp (List.mem_append_left _ hy)
  have ndt : (ys.take b.toNat).Nodup := nd.sublist (List.take_sublist _ _)
  have h2 : c.Nodup := (List.nodup_append.mp (p.nodup_iff.mpr ndt)).1
  have hl2 : hs.length < 1000000 := by omega
  have c9 : c.length ≤ 9 := by omega
  have eq : nth [PyData.int 0, .int 1, .int 1, .int 2, .int (b + 1), .int 999999999] r1 = some (.int q) := eq
  refine ⟨q, c, d2, ?_, hq, c9, o2.mono (by omega), ?_⟩
  · rw [isHr, hx, or_iff.mpr ⟨List.all_eq_true.mpr fun y hyc => List.all_eq_true.mp hy y (List.mem_of_mem_take (h1 y hyc)), h2, h1⟩]
    simp [isCt, hq.1]
  · have n1 : nth [PyData.int a, .int b] 1 = some (.int b) := rfl
    simp [-bi_nm, bi_open, forTurn, tBody, o6, o8, e1, p10_9, n1, eq, s1, e2, lim, mApp, hl2]
theorem town_loop {sc dr : Nat} {a b : Int} {ys : List D} {v1 v5 : Vl} (hsc : fs[sc]? = some ⟨4, 2, bScoop⟩) (hdr : fs[dr]? = some ⟨5, 3, bDrawn sc⟩) (b0 : 0 ≤ b) (b9 : b ≤ 9) (hy : ys.all isNm = true) (nd : ys.Nodup) : ∀ (xs hs : List D) (s6 s8 : Slot) (n : Nat) (d : D), Slot.open (some s6) = true → Slot.open (some s8) = true → (∀ x ∈ xs, isNm x = true) → hs.length + xs.length < 1000 → PotOk n d → n + 1002 * xs.length < 2 ^ 56 →
    ∃ (zs : List D) (d' : D) (t6 t8 : Slot), zs.map fst1 = xs ∧ (∀ z ∈ zs, isHr (ys.take b.toNat) z = true ∧ ∃ (x : D) (q : Int) (c : List D), z = .tuple [x, .int q, .list c] ∧ (0 ≤ q ∧ q < 10000000000) ∧ c.length ≤ 9) ∧ PotOk (n + 1002 * xs.length) d' ∧
      forLoop (forTurn ⟨consts, callF fs meth consts (k + 2), callF fs meth consts (k + 1), meth⟩ (.nm 6) (tBody sc dr) false) xs ⟨[.v (.r 0), .v v1, .v (.d (.list [.int a, .int b])), .non, .v (.d (.list ys)), .v v5, s6, .own (.o .z) (.list hs), s8], [pc d]⟩ =
      .nx ⟨[.v (.r 0), .v v1, .v (.d (.list [.int a, .int b])), .non, .v (.d (.list ys)), .v v5, t6, .own (.o .z) (.list (hs ++ zs)), t8], [pc d']⟩
  | [], hs, s6, s8, n, d, _, _, _, _, ho, _ => ⟨[], d, s6, s8, rfl, by simp, ho, by simp [forLoop]⟩
  | x :: xs, hs, s6, s8, n, d, o6, o8, hx, hl, ho, hn => by
    rw [List.length_cons] at hl hn
    obtain ⟨q, c, d1, h1, h2, h3, o1, e1⟩ := town_turn (k := k) (consts := consts) (meth := meth) (a := a) (v1 := v1) (v5 := v5) (hs := hs) hsc hdr o6 o8 b0 b9 hy nd (hx x List.mem_cons_self) (by omega) ho (by omega)
    obtain ⟨zs, d2, t6, t8, g1, g2, o2, e2⟩ := town_loop (a := a) (v1 := v1) (v5 := v5) hsc hdr b0 b9 hy nd xs (hs ++ [.tuple [x, .int q, .list c]]) (.v (.d x)) (.v (.d (.int q))) (n + 1002) d1 rfl rfl (fun y hy => hx y (List.mem_cons_of_mem _ hy)) (by rw [List.length_append]; simp; omega) o1 (by omega)
    refine ⟨.tuple [x, .int q, .list c] :: zs, d2, t6, t8, by rw [List.map_cons, g1]; rfl, fun z hz => ?_, by rw [List.length_cons, Nat.mul_add, Nat.add_comm (1002 * xs.length), ← Nat.add_assoc]; exact o2, ?_⟩
    · rcases List.mem_cons.mp hz with rfl | hz
      · exact ⟨h1, x, q, c, rfl, h2, h3⟩
      · exact g2 z hz
    · rw [forLoop, e1]
      show forLoop _ xs _ = _
      rw [e2]
      simp
theorem town_call {sc nm dr n : Nat} {d : D} {most : Int} (hj : fs[j]? = some ⟨9, 2, bTown sc nm dr⟩) (hsc : fs[sc]? = some ⟨4, 2, bScoop⟩) (hnm : fs[nm]? = some ⟨5, 2, bNames sc⟩) (hdr : fs[dr]? = some ⟨5, 3, bDrawn sc⟩) (m0 : 0 ≤ most) (m9 : most ≤ 9) (ho : PotOk n d) (hn : n < 2 ^ 55) :
    ∃ (hs gs : List D) (d' : D), Town hs gs ∧ PotOk (n + 10000) d' ∧ callF fs meth consts (k + 3) j [.r 0, .d (.int most)] [pc d] = .ok (.d (wld hs gs)) [pc d'] := by
  obtain ⟨a, d1, a0, a1, o1, e1⟩ := draw_call (k := k + 1) (consts := consts) (meth := meth) (m := most + 1) hsc ho (by omega) (by omega) (by omega)
  obtain ⟨b, d2, b0, b1, o2, e2⟩ := draw_call (k := k + 1) (consts := consts) (meth := meth) (m := most + 1) hsc o1 (by omega) (by omega) (by omega)
  obtain ⟨ys, d3, yl, yn, ynd, yb, o3, e3⟩ := names_call (k := k) (consts := consts) (meth := meth) hnm hsc (m := a + b) (by omega) (by omega) (by omega) o2
  have hyn := List.all_eq_true.mp yn
  have s1 : fSlice [.list ys, .none, .int b] = some (.list (ys.take b.toNat)) := by rw [d_slice0 (l := none) (h := some b) rfl rfl, cut_toI _ b0]
  have s2 : fSlice [.list ys, .int b, .none] = some (.list (ys.drop b.toNat)) := by
    obtain ⟨bn, rfl⟩ := Int.eq_ofNat_of_zero_le b0
    rw [d_slice0 (l := some (bn : Int)) (h := none) rfl rfl, cut_from]
    rfl
  obtain ⟨gs, d4, r4, o4, e4⟩ := lcLoop_ex (R := fun x y => ∃ b : Bool, y = .tuple [x, .bool b]) (c := 1) (st := fun d => ⟨[.v (.r 0), .v (.d (.int most)), .v (.d (.list [.int a, .int b])), .non, .v (.d (.list ys)), .non, .non, .non, .non], [pc d]⟩) (turn := lcTurn ⟨consts, callF fs meth consts (k + 2), callF fs meth consts (k + 1), meth⟩ [6] (.nm 6) .nil (.tup (.cons (.var 6) (.cons (.op .gt (.cons (.call sc (.cons (.var 0) (.cons (.kst (.int 4)) .nil))) (.cons (.kst (.int 0)) .nil))) .nil))) false) (ys.take b.toNat) [] _ d3 (fun x n d _ h ho => by
    obtain ⟨r, d', r0, r1, o, e⟩ := draw_call (k := k + 1) (consts := consts) (meth := meth) (m := 4) hsc ho (by omega) (by decide) (by decide)
    exact ⟨_, d', ⟨decide (0 < r), rfl⟩, o, by simp [lcTurn, e, lim]⟩) (by rw [List.length_take]; omega) o3
  have tl : (ys.take b.toNat).length ≤ 9 := by rw [List.length_take]; omega
  have dl : (ys.drop b.toNat).length ≤ 9 := by rw [List.length_drop]; omega
  obtain ⟨zs, d5, t6, t8, z1, z2, o5, e5⟩ := town_loop (k := k) (consts := consts) (meth := meth) (a := a) (v1 := .d (.int most)) (v5 := .d (.list gs)) hsc hdr b0 (by omega) yn ynd (ys.drop b.toNat) [] .non .non _ d4 rfl rfl (fun x hx => hyn x (List.mem_of_mem_drop hx)) (by simp; omega) o4 (by omega)
  have gm : gs.map fst1 = ys.take b.toNat := r4.map fun x y ⟨b, e⟩ => by rw [e]; rfl
  have gl : gs.length ≤ 9 := by rw [← List.length_map (f := fst1), gm]; exact tl
  have zl : zs.length ≤ 9 := by rw [← List.length_map (f := fst1), z1]; exact dl
  have both : gs.map fst1 ++ zs.map fst1 = ys := by rw [gm, z1, List.take_append_drop]
  refine ⟨zs, gs, d5, ⟨List.all_eq_true.mpr (r4.all fun x hx y ⟨b, e⟩ => ?_), List.all_eq_true.mpr fun z hz => ?_, by rw [both]; exact ynd, zl, gl, fun x hx => yb x (by rw [both] at hx; exact hx), fun z hz => (z2 z hz).2⟩, o5.mono (by omega), ?_⟩
  · subst e
    rw [isGr, hyn x (List.mem_of_mem_take hx)]
    rfl
  · rw [gm]
    exact (z2 z hz).1
  · have rg : rngItems [.int 2] = some [.int 0, .int 1] := by rw [rng_lt (by decide) (by decide)]; rfl
    have n0 : nth [PyData.int a, .int b] 0 = some (.int a) := rfl
    have n1 : nth [PyData.int a, .int b] 1 = some (.int b) := rfl
    have c1 : gs.length ≤ 1000000 := by omega
    simp only [tBody, cs_cons, cs_nil, ss_cons, ss_nil, List.nil_append] at e4 e5
    have nz : noRfs zs = true := noRfs_of fun z hz => hr_noRf (z2 z hz).1
    rw [callF, hj]
    simp [noPk, bTown, tBody, rg, lcLoop, lcTurn, e1, e2, lim, n0, n1, e3, s1, s2, e4, c1, e5, wld, nz]
end
end EV
end
section
set_option Elab.async false
set_option linter.all false
set_option maxRecDepth 100000
set_option maxHeartbeats 4000000
set_option autoImplicit false
/-! GZ5: a world that is but looked at -/
namespace EV
open PySem
@[simp] theorem mkv_w {xs : List D} : mkv false 1 (.list xs) = some (.w (.list xs)) := rfl
@[simp] theorem wv_l {xs : List D} : wv true (.list xs) = .w (.list xs) := by simp [wv, flat]
theorem wv_flat {x : D} (h : flat x = true) : wv true x = .d x := by simp [wv, h]
@[simp] theorem wv_st {z : Str} : wv true (.str z) = .d (.str z) := wv_flat rfl
@[simp] theorem wv_in {z : Int} : wv true (.int z) = .d (.int z) := wv_flat rfl
@[simp] theorem wv_bo {z : Bool} : wv true (.bool z) = .d (.bool z) := wv_flat rfl
theorem gr_form {x : D} (h : isGr x = true) : ∃ (z : Str) (b : Bool), x = .tuple [.str z, .bool b] ∧ isNm (.str z) = true := by
  obtain ⟨a, b, rfl, ha⟩ := gr_at h
  obtain ⟨z, rfl⟩ := nm_str ha
  rw [isGr, Bool.and_eq_true] at h
  cases b with
  | bool b => exact ⟨z, b, rfl, ha⟩
  | _ => cases h.2
theorem wv_row {a : D} {b : Int} {c : List D} : wv true (.tuple [a, .int b, .list c]) = .w (.tuple [a, .int b, .list c]) := by simp [wv, flat, flats]
section
variable {fs : List FunI} {meth : Nat → Nat → Option Nat} {consts : List D} {k j : Nat} {hp : List Cell}
theorem order_callW {n gl gm : Nat} {gs : List D} (hj : fs[j]? = some ⟨3, 2, bOrder n⟩) (hn : fs[n]? = some ⟨2, 1, bName gl gm⟩) (hl : consts[gl]? = some (.str letters)) (hm : consts[gm]? = some (.int 8)) {xs : List D} (few : xs.length ≤ 1000) (hg : gs.all plainD = true) (hx : isOr gs (.list xs) = true) :
    callF fs meth consts (k + 2) j [.w (.list xs), .d (.list gs)] hp = .ok (.d (.bool true)) hp := by
  rw [callF, hj]
  have c1 : xs.length ≤ lim := lim_ge few
  have c2 : xs.length ≤ 1000000 := c1
  rw [isOr, Bool.and_eq_true, Bool.and_eq_true] at hx
  obtain ⟨e1, e2, e3⟩ := hx
  have l1 : lcLoop (lcTurn ⟨consts, callF fs meth consts (k + 1), callF fs meth consts k, meth⟩ [2] (.nm 2) .nil (.call n (.cons (.var 2) .nil)) true) xs [] ⟨[.v (.w (.list xs)), .v (.d (.list gs)), .non], hp⟩ = .ok (xs.map fun d => PyData.bool (isNm d)) ⟨[.v (.w (.list xs)), .v (.d (.list gs)), .non], hp⟩ := by
    rw [lcLoop_map (f := fun d => .bool (isNm d))]
    · simp
    · intro y hy
      have ny := List.all_eq_true.mp e1 y hy
      have c := name_call (meth := meth) (k := k) (hp := hp) hn hl hm (nm_sm ny)
      obtain ⟨z, rfl⟩ := nm_str ny
      simp [lcTurn, c]
  have l2 : lcLoop (lcTurn ⟨consts, callF fs meth consts (k + 1), callF fs meth consts k, meth⟩ [2] (.nm 2) .nil (.op .in_ (.cons (.peek (.sl 2)) (.cons (.peek (.sl 1)) .nil))) true) xs [] ⟨[.v (.w (.list xs)), .v (.d (.list gs)), .non], hp⟩ = .ok (xs.map fun d => PyData.bool (inD d gs)) ⟨[.v (.w (.list xs)), .v (.d (.list gs)), .non], hp⟩ := by
    rw [lcLoop_map (f := fun d => .bool (inD d gs))]
    · simp
    · intro y hy
      have ny := List.all_eq_true.mp e1 y hy
      have py := nm_plain ny
      obtain ⟨z, rfl⟩ := nm_str ny
      have fi : fIn [.str z, .list gs] = some (.bool (inD (.str z) gs)) := by
        show (if plainD (.str z) && gs.all plainD then some (PyData.bool (inD (.str z) gs)) else none) = _
        rw [hg, py]
        rfl
      simp [lcTurn, fi]
  obtain ⟨c, sl, ei⟩ := setlen_of e1 (by omega)
  rw [e2] at ei
  simp [noPk, bOrder, isTy, l1, l2, c1, c2, d_allb, e1, e3, sl, d_eqi, ei]
theorem hrow_callW {n ct o gl gm : Nat} {gs : List D} (hj : fs[j]? = some ⟨2, 2, bHrow n ct o⟩) (hn : fs[n]? = some ⟨2, 1, bName gl gm⟩) (hc : fs[ct]? = some ⟨1, 1, bCount⟩) (ho : fs[o]? = some ⟨3, 2, bOrder n⟩) (hl : consts[gl]? = some (.str letters)) (hm : consts[gm]? = some (.int 8)) {x : D}
    (hx : isHr gs x = true) (few : Few x) (hg : gs.all plainD = true) :
    callF fs meth consts (k + 3) j [.w x, .d (.list gs)] hp = .ok (.d (.bool true)) hp := by
  rw [callF, hj]
  obtain ⟨a, b, c, rfl, ha, hb, hor⟩ := hr_form hx
  have ca := name_call (meth := meth) (k := k + 1) (hp := hp) hn hl hm (nm_sm ha)
  have cb := count_call (meth := meth) (k := k + 1) (hp := hp) (consts := consts) hc (.int b)
  have cc := order_callW (meth := meth) (k := k) (hp := hp) ho hn hl hm (few _ _ _ rfl) hg hor
  obtain ⟨z, rfl⟩ := nm_str ha
  rw [ha] at ca
  have e2 : isCt (.int b) = true := by simp [isCt, hb]
  rw [e2] at cb
  simp [noPk, bHrow, isTy, d_nei, nth, L2.atI, L2.ixN, ca, cb, cc]
theorem world_callW {gr hr n ct o gl gm : Nat} (hj : fs[j]? = some ⟨8, 1, bWorld gr hr⟩) (hgr : fs[gr]? = some ⟨1, 1, bGrow n⟩) (hhr : fs[hr]? = some ⟨2, 2, bHrow n ct o⟩) (hn : fs[n]? = some ⟨2, 1, bName gl gm⟩) (hc : fs[ct]? = some ⟨1, 1, bCount⟩) (ho : fs[o]? = some ⟨3, 2, bOrder n⟩) (hl : consts[gl]? = some (.str letters)) (hm : consts[gm]? = some (.int 8))
    {hs gs : List D} (fh : hs.length ≤ 1000) (fg : gs.length ≤ 1000) (few : ∀ x ∈ hs, Few x) (hw : isWd (.tuple [.list hs, .list gs]) = true) :
    callF fs meth consts (k + 4) j [.w (.tuple [.list hs, .list gs])] hp = .ok (.d (.bool true)) hp := by
  rw [callF, hj]
  have ch : hs.length ≤ 1000000 := lim_ge fh
  have cg : gs.length ≤ 1000000 := lim_ge fg
  rw [isWd, Bool.and_eq_true, Bool.and_eq_true] at hw
  obtain ⟨e1, e2, e3⟩ := hw
  obtain ⟨pn, nn⟩ := nms_plain e1
  have cn : (gs.map fst1).length ≤ 1000000 := by rw [List.length_map]; exact cg
  have l0 : ∀ w, lcLoop (lcTurn ⟨consts, callF fs meth consts (k + 3), callF fs meth consts (k + 2), meth⟩ [1] (.nm 1) .nil (.op (.isinst .list) (.cons (.peek (.sl 1)) .nil)) true) [.list hs, .list gs] [] ⟨[.v (.w w), .non, .non, .non, .non, .non, .non, .non], hp⟩ = .ok [.bool true, .bool true] ⟨[.v (.w w), .non, .non, .non, .non, .non, .non, .non], hp⟩ := fun w => by
    rw [lcLoop_map (f := fun _ => .bool true)]
    · simp
    · intro y hy
      simp only [List.mem_cons, List.not_mem_nil, or_false] at hy
      rcases hy with rfl | rfl <;> simp [lcTurn, isTy]
  have a0 : fAll [.list [.bool true, .bool true]] = some (.bool true) := rfl
  have l1 : ∀ w, lcLoop (lcTurn ⟨consts, callF fs meth consts (k + 3), callF fs meth consts (k + 2), meth⟩ [4] (.nm 4) .nil (.call gr (.cons (.var 4) .nil)) true) gs [] ⟨[.v (.w w), .non, .v (.w (.list hs)), .v (.w (.list gs)), .non, .non, .non, .non], hp⟩ = .ok (gs.map fun d => PyData.bool (isGr d)) ⟨[.v (.w w), .non, .v (.w (.list hs)), .v (.w (.list gs)), .non, .non, .non, .non], hp⟩ := fun w => by
    rw [lcLoop_map (f := fun d => .bool (isGr d))]
    · simp
    · intro y hy
      have gy := List.all_eq_true.mp e1 y hy
      obtain ⟨z, b, rfl, nz⟩ := gr_form gy
      have c := grow_call (meth := meth) (k := k + 1) (hp := hp) hgr hn hl hm (x := .tuple [.str z, .bool b]) (fun xs e u hu => by
        cases e
        simp only [List.mem_cons, List.not_mem_nil, or_false] at hu
        rcases hu with rfl | rfl
        · exact nm_sm nz
        · trivial)
      simp [lcTurn, wv_flat (x := .tuple [.str z, .bool b]) rfl, c]
  have l2 : ∀ w, lcLoop (lcTurn ⟨consts, callF fs meth consts (k + 3), callF fs meth consts (k + 2), meth⟩ [6, 7] (.tp [.nm 6, .nm 7]) .nil (.var 6) true) gs [] ⟨[.v (.w w), .non, .v (.w (.list hs)), .v (.w (.list gs)), .non, .non, .non, .non], hp⟩ = .ok (gs.map fst1) ⟨[.v (.w w), .non, .v (.w (.list hs)), .v (.w (.list gs)), .non, .non, .non, .non], hp⟩ := fun w => by
    rw [lcLoop_map (f := fst1)]
    · simp
    · intro y hy
      obtain ⟨z, b, rfl, nz⟩ := gr_form (List.all_eq_true.mp e1 y hy)
      simp [lcTurn, fst1]
  have l3 : ∀ w, lcLoop (lcTurn ⟨consts, callF fs meth consts (k + 3), callF fs meth consts (k + 2), meth⟩ [4] (.nm 4) .nil (.call hr (.cons (.var 4) (.cons (.var 5) .nil))) true) hs [] ⟨[.v (.w w), .non, .v (.w (.list hs)), .v (.w (.list gs)), .non, .v (.d (.list (gs.map fst1))), .non, .non], hp⟩ = .ok (hs.map fun d => PyData.bool (isHr (gs.map fst1) d)) ⟨[.v (.w w), .non, .v (.w (.list hs)), .v (.w (.list gs)), .non, .v (.d (.list (gs.map fst1))), .non, .non], hp⟩ := fun w => by
    rw [lcLoop_map (f := fun d => .bool (isHr (gs.map fst1) d))]
    · simp
    · intro y hy
      have hy' := List.all_eq_true.mp e2 y hy
      have c := hrow_callW (meth := meth) (k := k) (hp := hp) hhr hn hc ho hl hm hy' (few y hy) pn
      obtain ⟨a, b, cc, rfl, _, _, _⟩ := hr_form hy'
      simp [lcTurn, wv_row, c, hy']
  have l4 : ∀ w, lcLoop (lcTurn ⟨consts, callF fs meth consts (k + 3), callF fs meth consts (k + 2), meth⟩ [4] (.nm 4) .nil (.op .idx (.cons (.peek (.sl 4)) (.cons (.kst (.int 0)) .nil))) true) hs [] ⟨[.v (.w w), .non, .v (.w (.list hs)), .v (.w (.list gs)), .non, .v (.d (.list (gs.map fst1))), .non, .non], hp⟩ = .ok (hs.map fst1) ⟨[.v (.w w), .non, .v (.w (.list hs)), .v (.w (.list gs)), .non, .v (.d (.list (gs.map fst1))), .non, .non], hp⟩ := fun w => by
    rw [lcLoop_map (f := fst1)]
    · simp
    · intro y hy
      obtain ⟨a, b, cc, rfl, na, _, _⟩ := hr_form (List.all_eq_true.mp e2 y hy)
      obtain ⟨z, rfl⟩ := nm_str na
      simp [lcTurn, wv_row, fst1, nth, L2.atI, L2.ixN]
  have nh : (hs.map fst1).all isNm = true := by
    rw [List.all_eq_true]
    intro y hy
    obtain ⟨x, hx, rfl⟩ := List.mem_map.mp hy
    obtain ⟨a, b, cc, rfl, na, _, _⟩ := hr_form (List.all_eq_true.mp e2 x hx)
    exact na
  have na : (gs.map fst1 ++ hs.map fst1).all isNm = true := by rw [List.all_append, nn, nh]; rfl
  obtain ⟨c, sl, ei⟩ := setlen_of na (by rw [List.length_append, List.length_map, List.length_map]; omega)
  rw [e3] at ei
  have ad : fAdd [.list (gs.map fst1), .list (hs.map fst1)] = some (.list (gs.map fst1 ++ hs.map fst1)) := if_pos (lim_ge2 (by rw [List.length_map, List.length_map]; omega))
  simp [noPk, bWorld, isTy, d_nei, l0, a0, l1, l2, l3, l4, ch, cg, cn, d_allb, e1, e2, lim, sl, ad, d_eqi]
  simpa using ei
end
end EV
end
section
set_option Elab.async false
set_option linter.all false
set_option maxRecDepth 100000
set_option maxHeartbeats 4000000
set_option autoImplicit false
/-! GZ6: places, told anew -/
namespace EV
open PySem
section
variable {fs : List FunI} {meth : Nat → Nat → Option Nat} {consts : List D} {k j : Nat}
theorem len_rng {xs : List D} (h : xs.length ≤ 2000) : ∃ z : Int, fLen [.list xs] = some (.int z) ∧ rngItems [.int z] = some (iran 0 xs.length) := by
  refine ⟨xs.length, rfl, ?_⟩
  have e : (xs.length : Int).toNat = xs.length := by omega
  rw [rng_lt (by omega) (by omega), e]
/-- an item that is no name or none of these -/
def badQ (gs : List D) (y : D) : Bool := !(isNm y && inD y gs)
def bPlacesN (nw : Nat) : CSs := (ss [
  (.expr (.call nw (cs [(.var 0)]))),
  (.setT [(.nm 1), (.nm 2)] (.var 0)),
  (.setO 3 (.o .z) (.lc [4, 5] (.tp [(.nm 4), (.nm 5)]) (.seq (.peek (.sl 2))) (cs []) (.tup (cs [(.var 4), (.var 4)])))),
  (.for (.tp [(.nm 4), (.nm 6), (.nm 7)]) (.seq (.peek (.sl 1))) (ss [
    (.expr (.extF (.sl 3) (.lc [8] (.nm 8) (.seq (.peek (.sl 7))) (cs []) (.tup (cs [(.var 4), (.var 8)])))))])),
  (.ret (.own (.op .sorted (cs [(.peek (.sl 3))]))))])
theorem places_callN {nw : Nat} {hs gs : List D} {hp : List Cell} (hj : fs[j]? = some ⟨9, 1, bPlacesN nw⟩) (hn : callF fs meth consts k nw [.d (.tuple [.list hs, .list gs])] hp = .ok (.d .none) hp) (hw : isWd (.tuple [.list hs, .list gs]) = true) (fh : hs.length ≤ 900) (fg : gs.length ≤ 1000) (few : ∀ x ∈ hs, Few x) :
    callF fs meth consts (k + 1) j [.d (.tuple [.list hs, .list gs])] hp = .ok (.d (.list (srt (plcs hs gs)))) hp := by
  rw [isWd, Bool.and_eq_true, Bool.and_eq_true] at hw
  obtain ⟨hg, hh, _⟩ := hw
  have cg : gs.length ≤ lim := lim_ge fg
  have l1 : ∀ w, lcLoop (lcTurn ⟨consts, callF fs meth consts k, callF fs meth consts (k - 1), meth⟩ [4, 5] (.tp [.nm 4, .nm 5]) .nil (.tup (.cons (.var 4) (.cons (.var 4) .nil))) false) gs [] ⟨[.v (.d w), .v (.d (.list hs)), .v (.d (.list gs)), .non, .non, .non, .non, .non, .non], hp⟩ = .ok (gs.map fun g => dup (fst1 g)) ⟨[.v (.d w), .v (.d (.list hs)), .v (.d (.list gs)), .non, .non, .non, .non, .non, .non], hp⟩ := fun w => by
    rw [lcLoop_map (f := fun g => dup (fst1 g))]
    · simp
    · intro y hy
      obtain ⟨a, b, rfl, _⟩ := gr_at (List.all_eq_true.mp hg y hy)
      simp [lcTurn, fst1, dup, lim]
  have l2 : ∀ (w : D) (hs' acc : List D) (s4 s6 s7 : Slot), Slot.open (some s4) = true → Slot.open (some s6) = true → Slot.open (some s7) = true → (∀ x ∈ hs', isHr (gs.map fst1) x = true ∧ Few x) → acc.length + 1000 * hs'.length < lim →
      ∃ s4' s6' s7', forLoop (forTurn ⟨consts, callF fs meth consts k, callF fs meth consts (k - 1), meth⟩ (.tp [.nm 4, .nm 6, .nm 7]) (.cons (.expr (.extF (.sl 3) (.lc [8] (.nm 8) (.seq (.peek (.sl 7))) .nil (.tup (.cons (.var 4) (.cons (.var 8) .nil)))))) .nil) false) hs' ⟨[.v (.d w), .v (.d (.list hs)), .v (.d (.list gs)), .own (.o .z) (.list acc), s4, .non, s6, s7, .non], hp⟩ =
        .nx ⟨[.v (.d w), .v (.d (.list hs)), .v (.d (.list gs)), .own (.o .z) (.list (acc ++ (hs'.map rowP).flatten)), s4', .non, s6', s7', .non], hp⟩ := by
    intro w hs'
    induction hs' with
    | nil => exact fun acc s4 s6 s7 _ _ _ _ _ => ⟨s4, s6, s7, by simp [forLoop]⟩
    | cons x hs' ih =>
      intro acc s4 s6 s7 o4 o6 o7 hx hl
      obtain ⟨h1, h2⟩ := hx x List.mem_cons_self
      obtain ⟨a, b, c, rfl, _, _, _⟩ := hr_form h1
      have hc := h2 _ _ _ rfl
      have cc : c.length ≤ lim := lim_ge hc
      rw [List.length_cons] at hl
      have e : lcLoop (lcTurn ⟨consts, callF fs meth consts k, callF fs meth consts (k - 1), meth⟩ [8] (.nm 8) .nil (.tup (.cons (.var 4) (.cons (.var 8) .nil))) false) c [] ⟨[.v (.d w), .v (.d (.list hs)), .v (.d (.list gs)), .lck (.o .z) (.list acc), .v (.d a), .non, .v (.d (.int b)), .v (.d (.list c)), .non], hp⟩ =
          .ok (c.map fun y => .tuple [a, y]) ⟨[.v (.d w), .v (.d (.list hs)), .v (.d (.list gs)), .lck (.o .z) (.list acc), .v (.d a), .non, .v (.d (.int b)), .v (.d (.list c)), .non], hp⟩ := by
        rw [lcLoop_map (f := fun y => .tuple [a, y])]
        · simp
        · intro y hy
          simp [lcTurn, lim]
      have hlen : acc.length + c.length < lim := by omega
      obtain ⟨t4, t6, t7, q⟩ := ih (acc ++ c.map fun y => .tuple [a, y]) (.v (.d a)) (.v (.d (.int b))) (.v (.d (.list c))) rfl rfl rfl (fun y hy => hx y (List.mem_cons_of_mem _ hy)) (by rw [List.length_append, List.length_map]; omega)
      refine ⟨t4, t6, t7, ?_⟩
      rw [forLoop]
      have et : forTurn ⟨consts, callF fs meth consts k, callF fs meth consts (k - 1), meth⟩ (.tp [.nm 4, .nm 6, .nm 7]) (.cons (.expr (.extF (.sl 3) (.lc [8] (.nm 8) (.seq (.peek (.sl 7))) .nil (.tup (.cons (.var 4) (.cons (.var 8) .nil)))))) .nil) false (.tuple [a, .int b, .list c]) ⟨[.v (.d w), .v (.d (.list hs)), .v (.d (.list gs)), .own (.o .z) (.list acc), s4, .non, s6, s7, .non], hp⟩ =
          .nx ⟨[.v (.d w), .v (.d (.list hs)), .v (.d (.list gs)), .own (.o .z) (.list (acc ++ c.map fun y => .tuple [a, y])), .v (.d a), .non, .v (.d (.int b)), .v (.d (.list c)), .non], hp⟩ := by
        simp [-bi_nm, bi_open, forTurn, o4, o6, o7, e, cc, hlen]
      rw [et]
      simp only []
      rw [q]
      simp [rowP]
  have tot : (plcs hs gs).length ≤ lim := by
    have := flat_few few
    unfold plcs
    rw [List.length_append, List.length_map]
    unfold lim
    omega
  have so := d_srt (plcs_pr hh hg) tot
  unfold plcs at so
  obtain ⟨s4, s6, s7, q⟩ := l2 (.tuple [.list hs, .list gs]) hs (gs.map fun g => dup (fst1 g)) .non .non .non rfl rfl rfl (fun x hx => ⟨List.all_eq_true.mp hh x hx, few x hx⟩) (by rw [List.length_map]; unfold lim; omega)
  have fl0 : flats (plcs hs gs) = true := flats_of fun y hy => pr_flat (List.all_eq_true.mp (plcs_pr hh hg) y hy)
  have fl : flats (srt (plcs hs gs)) = true := flats_of fun y hy => pr_flat (List.all_eq_true.mp (plcs_pr hh hg) y (List.mem_mergeSort.mp hy))
  have nf := flats_noRfs fl0
  have mk := mkv_fl (t := 2) fl
  unfold plcs at nf mk
  rw [callF, hj]
  simp [noPk, bPlacesN, hn, l1, cg, q, so, plcs, nf, mk]
theorem places_callW {nw : Nat} {hs gs : List D} {hp : List Cell} (hj : fs[j]? = some ⟨9, 1, bPlacesN nw⟩) (hn : callF fs meth consts k nw [.w (.tuple [.list hs, .list gs])] hp = .ok (.d .none) hp) (hw : isWd (.tuple [.list hs, .list gs]) = true) (fh : hs.length ≤ 900) (fg : gs.length ≤ 1000) (few : ∀ x ∈ hs, Few x) :
    callF fs meth consts (k + 1) j [.w (.tuple [.list hs, .list gs])] hp = .ok (.d (.list (srt (plcs hs gs)))) hp := by
  rw [isWd, Bool.and_eq_true, Bool.and_eq_true] at hw
  obtain ⟨hg, hh, _⟩ := hw
  have cg : gs.length ≤ lim := lim_ge fg
  have l1 : ∀ w, lcLoop (lcTurn ⟨consts, callF fs meth consts k, callF fs meth consts (k - 1), meth⟩ [4, 5] (.tp [.nm 4, .nm 5]) .nil (.tup (.cons (.var 4) (.cons (.var 4) .nil))) true) gs [] ⟨[.v (.w w), .v (.w (.list hs)), .v (.w (.list gs)), .non, .non, .non, .non, .non, .non], hp⟩ = .ok (gs.map fun g => dup (fst1 g)) ⟨[.v (.w w), .v (.w (.list hs)), .v (.w (.list gs)), .non, .non, .non, .non, .non, .non], hp⟩ := fun w => by
    rw [lcLoop_map (f := fun g => dup (fst1 g))]
    · simp
    · intro y hy
      obtain ⟨z, b, rfl, _⟩ := gr_form (List.all_eq_true.mp hg y hy)
      simp [lcTurn, fst1, dup, lim]
  have l2 : ∀ (w : D) (hs' acc : List D) (s4 s6 s7 : Slot), Slot.open (some s4) = true → Slot.open (some s6) = true → Slot.open (some s7) = true → (∀ x ∈ hs', isHr (gs.map fst1) x = true ∧ Few x) → acc.length + 1000 * hs'.length < lim →
      ∃ s4' s6' s7', forLoop (forTurn ⟨consts, callF fs meth consts k, callF fs meth consts (k - 1), meth⟩ (.tp [.nm 4, .nm 6, .nm 7]) (.cons (.expr (.extF (.sl 3) (.lc [8] (.nm 8) (.seq (.peek (.sl 7))) .nil (.tup (.cons (.var 4) (.cons (.var 8) .nil)))))) .nil) true) hs' ⟨[.v (.w w), .v (.w (.list hs)), .v (.w (.list gs)), .own (.o .z) (.list acc), s4, .non, s6, s7, .non], hp⟩ =
        .nx ⟨[.v (.w w), .v (.w (.list hs)), .v (.w (.list gs)), .own (.o .z) (.list (acc ++ (hs'.map rowP).flatten)), s4', .non, s6', s7', .non], hp⟩ := by
    intro w hs'
    induction hs' with
    | nil => exact fun acc s4 s6 s7 _ _ _ _ _ => ⟨s4, s6, s7, by simp [forLoop]⟩
    | cons x hs' ih =>
      intro acc s4 s6 s7 o4 o6 o7 hx hl
      obtain ⟨h1, h2⟩ := hx x List.mem_cons_self
      obtain ⟨a, b, c, rfl, ha, _, hor⟩ := hr_form h1
      obtain ⟨za, rfl⟩ := nm_str ha
      have hcn := (or_iff.mp hor).1
      have hc := h2 _ _ _ rfl
      have cc : c.length ≤ lim := lim_ge hc
      rw [List.length_cons] at hl
      have e : lcLoop (lcTurn ⟨consts, callF fs meth consts k, callF fs meth consts (k - 1), meth⟩ [8] (.nm 8) .nil (.tup (.cons (.var 4) (.cons (.var 8) .nil))) true) c [] ⟨[.v (.w w), .v (.w (.list hs)), .v (.w (.list gs)), .lck (.o .z) (.list acc), .v (.d (.str za)), .non, .v (.d (.int b)), .v (.w (.list c)), .non], hp⟩ =
          .ok (c.map fun y => .tuple [.str za, y]) ⟨[.v (.w w), .v (.w (.list hs)), .v (.w (.list gs)), .lck (.o .z) (.list acc), .v (.d (.str za)), .non, .v (.d (.int b)), .v (.w (.list c)), .non], hp⟩ := by
        rw [lcLoop_map (f := fun y => .tuple [.str za, y])]
        · simp
        · intro y hy
          obtain ⟨zy, rfl⟩ := nm_str (List.all_eq_true.mp hcn y hy)
          simp [lcTurn, lim]
      have hlen : acc.length + c.length < lim := by omega
      obtain ⟨t4, t6, t7, q⟩ := ih (acc ++ c.map fun y => .tuple [.str za, y]) (.v (.d (.str za))) (.v (.d (.int b))) (.v (.w (.list c))) rfl rfl rfl (fun y hy => hx y (List.mem_cons_of_mem _ hy)) (by rw [List.length_append, List.length_map]; omega)
      refine ⟨t4, t6, t7, ?_⟩
      rw [forLoop]
      have et : forTurn ⟨consts, callF fs meth consts k, callF fs meth consts (k - 1), meth⟩ (.tp [.nm 4, .nm 6, .nm 7]) (.cons (.expr (.extF (.sl 3) (.lc [8] (.nm 8) (.seq (.peek (.sl 7))) .nil (.tup (.cons (.var 4) (.cons (.var 8) .nil)))))) .nil) true (.tuple [.str za, .int b, .list c]) ⟨[.v (.w w), .v (.w (.list hs)), .v (.w (.list gs)), .own (.o .z) (.list acc), s4, .non, s6, s7, .non], hp⟩ =
          .nx ⟨[.v (.w w), .v (.w (.list hs)), .v (.w (.list gs)), .own (.o .z) (.list (acc ++ c.map fun y => .tuple [.str za, y])), .v (.d (.str za)), .non, .v (.d (.int b)), .v (.w (.list c)), .non], hp⟩ := by
        simp [forTurn, o4, o6, o7, e, cc, hlen]
      rw [et]
      simp only []
      rw [q]
      simp [rowP]
  have tot : (plcs hs gs).length ≤ lim := by
    have := flat_few few
    unfold plcs
    rw [List.length_append, List.length_map]
    unfold lim
    omega
  have so := d_srt (plcs_pr hh hg) tot
  unfold plcs at so
  obtain ⟨s4, s6, s7, q⟩ := l2 (.tuple [.list hs, .list gs]) hs (gs.map fun g => dup (fst1 g)) .non .non .non rfl rfl rfl (fun x hx => ⟨List.all_eq_true.mp hh x hx, few x hx⟩) (by rw [List.length_map]; unfold lim; omega)
  have fl0 : flats (plcs hs gs) = true := flats_of fun y hy => pr_flat (List.all_eq_true.mp (plcs_pr hh hg) y hy)
  have fl : flats (srt (plcs hs gs)) = true := flats_of fun y hy => pr_flat (List.all_eq_true.mp (plcs_pr hh hg) y (List.mem_mergeSort.mp hy))
  have nf := flats_noRfs fl0
  have mk := mkv_fl (t := 2) fl
  unfold plcs at nf mk
  rw [callF, hj]
  simp [noPk, bPlacesN, hn, l1, cg, q, so, plcs, nf, mk]
theorem need_okW {wd e : Nat} {x : D} {hp : List Cell} (hj : fs[j]? = some ⟨1, 1, bNeed wd e⟩) (hw : callF fs meth consts k wd [.w x] hp = .ok (.d (.bool true)) hp) : callF fs meth consts (k + 1) j [.w x] hp = .ok (.d .none) hp := by
  rw [callF, hj]
  simp [noPk, bNeed, hw]
def bMixed (sc : Nat) : CSs := (ss [
  (.setO 2 (.o .z) (.own (.op .ofList (cs [(.peek (.sl 1))])))),
  (.ret (.lc [3] (.nm 3) (.rng (cs [(.op .len (cs [(.peek (.sl 1))]))])) (cs []) (.mut (.sl 2) .z .popAt (cs [(.call sc (cs [(.var 0), (.op .len (cs [(.peek (.sl 2))]))]))]))))])
theorem mixed_turn {sc : Nat} (hsc : fs[sc]? = some ⟨4, 2, bScoop⟩) {a : Vl} (x : D) (L : List D) (n : Nat) (d : D) (a0 : noRfs L = true) (a1 : 0 < L.length) (a2 : L.length ≤ 1000) (a3 : n < 2 ^ 58) (a4 : PotOk n d) :
    ∃ (r : Nat) (h : r < L.length) (d' : D), PotOk (n + 1) d' ∧ lcTurn ⟨consts, callF fs meth consts (k + 1), callF fs meth consts k, meth⟩ [3] (.nm 3) .nil (.mut (.sl 2) .z .popAt (.cons (.call sc (.cons (.var 0) (.cons (.op .len (.cons (.peek (.sl 2)) .nil)) .nil))) .nil)) false x ⟨[.v (.r 0), .v a, .own (.o .z) (.list L), .non], [pc d]⟩ = .ok (some L[r]) ⟨[.v (.r 0), .v a, .own (.o .z) (.list (L.eraseIdx r)), .non], [pc d']⟩ := by
  obtain ⟨r, d', r0, r2, hr, o', e⟩ := pop_turn (meth := meth) (k := k) (consts := consts) hsc a1 a2 a3 a4
  exact ⟨r.toNat, hr, d', o', by simp [lcTurn, e, mPopAt, r0, r2, hr, a0]⟩
theorem mixed_call {sc : Nat} (hj : fs[j]? = some ⟨4, 2, bMixed sc⟩) (hsc : fs[sc]? = some ⟨4, 2, bScoop⟩) {G : List D} {n : Nat} {d : D} (hG0 : noRfs G = true) (hG : G.length ≤ 1000) (hn : n < 2 ^ 57 + 10) (ho : PotOk n d) :
    ∃ ys d', ys.Perm G ∧ PotOk (n + 1000) d' ∧ callF fs meth consts (k + 2) j [.r 0, .d (.list G)] [pc d] = .ok (.d (.list ys)) [pc d'] := by
  obtain ⟨z, c, cG, fl, rg⟩ : ∃ (z : Int) (c : Nat), c = G.length ∧ fLen [.list G] = some (.int z) ∧ rngItems [.int z] = some (iran 0 c) := by
    obtain ⟨z, fl, rg⟩ := len_rng (xs := G) (by omega)
    exact ⟨z, _, rfl, fl, rg⟩
  obtain ⟨ys, L', d2, y1, y2, y3, y4⟩ := pop_loop (turn := lcTurn ⟨consts, callF fs meth consts (k + 1), callF fs meth consts k, meth⟩ [3] (.nm 3) .nil (.mut (.sl 2) .z .popAt (.cons (.call sc (.cons (.var 0) (.cons (.op .len (.cons (.peek (.sl 2)) .nil)) .nil))) .nil)) false)
    (st := fun L d => ⟨[.v (.r 0), .v (.d (.list G)), .own (.o .z) (.list L), .non], [pc d]⟩) (mixed_turn hsc) (iran 0 c) [] G n d hG0 (by rw [iran_len]; omega) hG (by rw [iran_len]; omega) ho
  rw [iran_len] at y1 y3
  have hl := y2.length_eq
  rw [List.length_append] at hl
  have e0 : L' = [] := List.eq_nil_of_length_eq_zero (by omega)
  subst e0
  rw [List.append_nil] at y2
  have q : ys.length ≤ lim := lim_ge (by omega)
  have q2 : ys.length ≤ 1000000 := q
  refine ⟨ys, d2, y2, y3.mono (by omega), ?_⟩
  rw [callF, hj]
  simp -implicitDefEqProofs [-d_lenl, noPk, bMixed, fl, rg, y4, q, q2, hG0]
end
end EV
end
section
set_option Elab.async false
set_option linter.all false
set_option maxRecDepth 100000
set_option autoImplicit false
set_option maxHeartbeats 4000000
namespace K03
open PySem L2 EV
def topS (i : Nat) : Stmt := PySem.Challenge.pw_heardahead_k03_places_told.main.body.getD i (.Pass ⟨0, 0, 0, 0⟩)
def names : List (Str × Nat × Option Sh) := [("is_count", 0, none), ("is_name", 1, none), ("is_guest_row", 2, none), ("is_order", 3, none), ("is_house_row", 4, none), ("is_world", 5, none), ("need_world", 6, none), ("places", 7, some (.o .z)), ("_law_pot", 8, none), ("_law_scoop", 9, none), ("_law_names", 10, none), ("_law_order", 11, none), ("_law_town", 12, none), ("_law_mixed", 13, some (.o .z)), ("_law_due", 14, none), ("law", 15, none)]
def attrs : List (Str × Nat) := []
def globs : List (Str × Nat) := [("LETTERS", 0), ("MOST_LETTERS", 1)]
def blts : List Str := ["abs", "all", "bool", "int", "isinstance", "len", "list", "max", "min", "range", "repr", "set", "sorted", "str", "tuple"]
def exnames : List Str := ["NoWorld"]
def excs : List (Str × Nat) := [("NoWorld", 0)]
def dicts : List (Str × List (Str × Str)) := []
def hdls : List (Str × List (Nat × Str × Bool)) := []
def issl : List (Str × List (Str × Bool)) := []
def cxI (N : List Str) (own cel : List (Str × Sh)) (tr vw : List Str) (nw rc : Option Sh) : CX := { N := N, own := own, cel := cel, tr := tr, vw := vw, fs := names, gs := globs, ex := excs, bl := blts, gd := dicts, tb := attrs, nw := nw, rc := rc, hd := hdls, is := issl }
/-- is_count -/
def b0 : CSs := (ss [
  (.ret (.and (.op (.isinst .int) (cs [(.peek (.sl 0))])) (.and (.not (.op (.isinst .bool) (cs [(.peek (.sl 0))]))) (.op .ge (cs [(.peek (.sl 0)), (.kst (.int 0))])))))])
def c0 : CX := cxI ["thing"] [] [] [] [] (none) (none)
theorem sc0 : FnScope c0.N ["thing"] (defScope (topS 6)) := ⟨rfl, rfl, rfl, by decide +kernel, rfl, by decide +kernel, by decide +kernel⟩
theorem bd0 : bodyC c0 (defScope (topS 6)) (defBody (topS 6)) = some b0 := by kernel_rfl
/-- is_name -/
def b1 : CSs := (ss [
  (.ret (.and (.op (.isinst .str) (cs [(.peek (.sl 0))])) (.and (.chain .le .le (.kst (.int 1)) (.op .len (cs [(.peek (.sl 0))])) (.glob 1)) (.op .all (cs [(.lc [1] (.nm 1) (.seq (.peek (.sl 0))) (cs []) (.op .in_ (cs [(.peek (.sl 1)), (.glob 0)])))])))))])
def c1 : CX := cxI ["thing", "sign"] [] [] [] [] (none) (none)
theorem sc1 : FnScope c1.N ["thing"] (defScope (topS 7)) := ⟨rfl, rfl, rfl, by decide +kernel, rfl, by decide +kernel, by decide +kernel⟩
theorem bd1 : bodyC c1 (defScope (topS 7)) (defBody (topS 7)) = some b1 := by kernel_rfl
/-- is_guest_row -/
def b2 : CSs := (ss [
  (.ret (.and (.op (.isinst .tuple) (cs [(.peek (.sl 0))])) (.and (.op .eq (cs [(.op .len (cs [(.peek (.sl 0))])), (.kst (.int 2))])) (.and (.call 1 (cs [(.op .idx (cs [(.peek (.sl 0)), (.kst (.int 0))]))])) (.op (.isinst .bool) (cs [(.op .idx (cs [(.peek (.sl 0)), (.kst (.int 1))]))]))))))])
def c2 : CX := cxI ["thing"] [] [] [] [] (none) (none)
theorem sc2 : FnScope c2.N ["thing"] (defScope (topS 8)) := ⟨rfl, rfl, rfl, by decide +kernel, rfl, by decide +kernel, by decide +kernel⟩
theorem bd2 : bodyC c2 (defScope (topS 8)) (defBody (topS 8)) = some b2 := by kernel_rfl
/-- is_order -/
def b3 : CSs := (ss [
  (.ite (.or (.not (.op (.isinst .list) (cs [(.peek (.sl 0))]))) (.not (.op .all (cs [(.lc [2] (.nm 2) (.seq (.peek (.sl 0))) (cs []) (.call 1 (cs [(.var 2)])))])))) (ss [
    (.ret (.kst (.bool false)))]) (ss [])),
  (.ret (.and (.op .eq (cs [(.op .setlen (cs [(.peek (.sl 0))])), (.op .len (cs [(.peek (.sl 0))]))])) (.op .all (cs [(.lc [2] (.nm 2) (.seq (.peek (.sl 0))) (cs []) (.op .in_ (cs [(.peek (.sl 2)), (.peek (.sl 1))])))]))))])
def c3 : CX := cxI ["thing", "guests", "guest"] [] [] [] [] (none) (none)
theorem sc3 : FnScope c3.N ["thing", "guests"] (defScope (topS 9)) := ⟨rfl, rfl, rfl, by decide +kernel, rfl, by decide +kernel, by decide +kernel⟩
theorem bd3 : bodyC c3 (defScope (topS 9)) (defBody (topS 9)) = some b3 := by kernel_rfl
/-- is_house_row -/
def b4 : CSs := (ss [
  (.ite (.or (.not (.op (.isinst .tuple) (cs [(.peek (.sl 0))]))) (.or (.op .ne (cs [(.op .len (cs [(.peek (.sl 0))])), (.kst (.int 3))])) (.not (.call 1 (cs [(.op .idx (cs [(.peek (.sl 0)), (.kst (.int 0))]))]))))) (ss [
    (.ret (.kst (.bool false)))]) (ss [])),
  (.ret (.and (.call 0 (cs [(.op .idx (cs [(.peek (.sl 0)), (.kst (.int 1))]))])) (.call 3 (cs [(.op .idx (cs [(.peek (.sl 0)), (.kst (.int 2))])), (.var 1)]))))])
def c4 : CX := cxI ["thing", "guests"] [] [] [] [] (none) (none)
theorem sc4 : FnScope c4.N ["thing", "guests"] (defScope (topS 10)) := ⟨rfl, rfl, rfl, by decide +kernel, rfl, by decide +kernel, by decide +kernel⟩
theorem bd4 : bodyC c4 (defScope (topS 10)) (defBody (topS 10)) = some b4 := by kernel_rfl
/-- is_world -/
def b5 : CSs := (ss [
  (.ite (.or (.not (.op (.isinst .tuple) (cs [(.peek (.sl 0))]))) (.or (.op .ne (cs [(.op .len (cs [(.peek (.sl 0))])), (.kst (.int 2))])) (.not (.op .all (cs [(.lc [1] (.nm 1) (.seq (.peek (.sl 0))) (cs []) (.op (.isinst .list) (cs [(.peek (.sl 1))])))]))))) (ss [
    (.ret (.kst (.bool false)))]) (ss [])),
  (.setT [(.nm 2), (.nm 3)] (.var 0)),
  (.ite (.not (.op .all (cs [(.lc [4] (.nm 4) (.seq (.peek (.sl 3))) (cs []) (.call 2 (cs [(.var 4)])))]))) (ss [
    (.ret (.kst (.bool false)))]) (ss [])),
  (.set 5 (.lc [6, 7] (.tp [(.nm 6), (.nm 7)]) (.seq (.peek (.sl 3))) (cs []) (.var 6))),
  (.ite (.not (.op .all (cs [(.lc [4] (.nm 4) (.seq (.peek (.sl 2))) (cs []) (.call 4 (cs [(.var 4), (.var 5)])))]))) (ss [
    (.ret (.kst (.bool false)))]) (ss [])),
  (.set 5 (.op .add (cs [(.peek (.sl 5)), (.lc [4] (.nm 4) (.seq (.peek (.sl 2))) (cs []) (.op .idx (cs [(.peek (.sl 4)), (.kst (.int 0))])))]))),
  (.ret (.op .eq (cs [(.op .setlen (cs [(.peek (.sl 5))])), (.op .len (cs [(.peek (.sl 5))]))])))])
def c5 : CX := cxI ["thing", "part", "houses", "guests", "row", "names", "name", "wishes"] [] [] [] [] (none) (none)
theorem sc5 : FnScope c5.N ["thing"] (defScope (topS 11)) := ⟨rfl, rfl, rfl, by decide +kernel, rfl, by decide +kernel, by decide +kernel⟩
theorem bd5 : bodyC c5 (defScope (topS 11)) (defBody (topS 11)) = some b5 := by kernel_rfl
/-- need_world -/
def b6 : CSs := (ss [
  (.ite (.not (.call 5 (cs [(.var 0)]))) (ss [
    (.raise 0)]) (ss []))])
def c6 : CX := cxI ["thing"] [] [] [] [] (none) (none)
theorem sc6 : FnScope c6.N ["thing"] (defScope (topS 12)) := ⟨rfl, rfl, rfl, by decide +kernel, rfl, by decide +kernel, by decide +kernel⟩
theorem bd6 : bodyC c6 (defScope (topS 12)) (defBody (topS 12)) = some b6 := by kernel_rfl
/-- places -/
def b7 : CSs := (ss [
  (.expr (.call 6 (cs [(.var 0)]))),
  (.setT [(.nm 1), (.nm 2)] (.var 0)),
  (.setO 3 (.o .z) (.lc [4, 5] (.tp [(.nm 4), (.nm 5)]) (.seq (.peek (.sl 2))) (cs []) (.tup (cs [(.var 4), (.var 4)])))),
  (.for (.tp [(.nm 4), (.nm 6), (.nm 7)]) (.seq (.peek (.sl 1))) (ss [
    (.expr (.extF (.sl 3) (.lc [8] (.nm 8) (.seq (.peek (.sl 7))) (cs []) (.tup (cs [(.var 4), (.var 8)])))))])),
  (.ret (.own (.op .sorted (cs [(.peek (.sl 3))]))))])
def c7 : CX := cxI ["world", "houses", "guests", "found", "name", "wishes", "room", "order", "guest"] [("found", .o .z)] [] [] [] (some (.o .z)) (none)
theorem sc7 : FnScope c7.N ["world"] (defScope (topS 13)) := ⟨rfl, rfl, rfl, by decide +kernel, rfl, by decide +kernel, by decide +kernel⟩
theorem bd7 : bodyC c7 (defScope (topS 13)) (defBody (topS 13)) = some b7 := by kernel_rfl
/-- _law_pot -/
def b8 : CSs := (ss [
  (.set 1 (.kst (.int 0))),
  (.set 2 (.kst (.int 161803))),
  (.for (.nm 3) (.seq (.op .slice (cs [(.peek (.sl 0)), (.kst .none), (.op .toi (cs [(.kst (.int 50))]))]))) (ss [
    (.set 1 (.op .add (cs [(.op .mul (cs [(.peek (.sl 1)), (.op .pow (cs [(.op .pow (cs [(.kst (.int 10)), (.kst (.int 40))])), (.kst (.int 10))]))])), (.op .mod (cs [(.op .max2 (cs [(.kst (.int 0)), (.op .sub (cs [(.op .abs (cs [(.peek (.sl 3))])), (.op .pow (cs [(.kst (.int 10)), (.kst (.int 18))]))]))])), (.op .pow (cs [(.op .pow (cs [(.kst (.int 10)), (.kst (.int 40))])), (.kst (.int 10))]))]))]))),
    (.set 2 (.op .mod (cs [(.op .add (cs [(.op .add (cs [(.op .mul (cs [(.peek (.sl 2)), (.kst (.int 48271))])), (.peek (.sl 3))])), (.kst (.int 131))])), (.kst (.int 170141183460469231731687303715884105727))])))])),
  (.ret (.cell (.o .z) (.lst (cs [(.var 1), (.var 2), (.kst (.int 0))]))))])
def c8 : CX := cxI ["_law_script", "_law_figures", "_law_blend", "_law_cell"] [] [] [] [] (none) (some (.o .z))
theorem sc8 : FnScope c8.N ["_law_script"] (defScope (topS 15)) := ⟨rfl, rfl, rfl, by decide +kernel, rfl, by decide +kernel, by decide +kernel⟩
theorem bd8 : bodyC c8 (defScope (topS 15)) (defBody (topS 15)) = some b8 := by kernel_rfl
/-- _law_scoop -/
def b9 : CSs := (ss [
  (.ite (.op .gt (cs [(.op .idx (cs [(.peek (.sl 0)), (.kst (.int 0))])), (.kst (.int 0))])) (ss [
    (.set 2 (.op .mod (cs [(.op .idx (cs [(.peek (.sl 0)), (.kst (.int 0))])), (.peek (.sl 1))]))),
    (.put (.sl 0) .z (.kst (.int 0)) (.op .fdiv (cs [(.op .idx (cs [(.peek (.sl 0)), (.kst (.int 0))])), (.peek (.sl 1))]))),
    (.ret (.var 2))]) (ss [])),
  (.put (.sl 0) .z (.kst (.int 2)) (.op .add (cs [(.op .idx (cs [(.peek (.sl 0)), (.kst (.int 2))])), (.kst (.int 1))]))),
  (.set 3 (.op .mod (cs [(.op .pow (cs [(.op .add (cs [(.op .idx (cs [(.peek (.sl 0)), (.kst (.int 1))])), (.op .mul (cs [(.kst (.int 15485863)), (.op .idx (cs [(.peek (.sl 0)), (.kst (.int 2))]))]))])), (.kst (.int 3))])), (.kst (.int 618970019642690137449562111))]))),
  (.set 3 (.op .mod (cs [(.op .pow (cs [(.op .add (cs [(.peek (.sl 3)), (.op .mul (cs [(.kst (.int 257)), (.op .pow (cs [(.op .idx (cs [(.peek (.sl 0)), (.kst (.int 2))])), (.kst (.int 2))]))]))])), (.kst (.int 3))])), (.kst (.int 162259276829213363391578010288127))]))),
  (.ret (.op .mod (cs [(.op .fdiv (cs [(.peek (.sl 3)), (.kst (.int 65537))])), (.peek (.sl 1))])))])
def c9 : CX := cxI ["_law_pot_here", "_law_many", "_law_found", "_law_big"] [] [] [] [] (none) (none)
theorem sc9 : FnScope c9.N ["_law_pot_here", "_law_many"] (defScope (topS 16)) := ⟨rfl, rfl, rfl, by decide +kernel, rfl, by decide +kernel, by decide +kernel⟩
theorem bd9 : bodyC c9 (defScope (topS 16)) (defBody (topS 16)) = some b9 := by kernel_rfl
/-- _law_names -/
def b10 : CSs := (ss [
  (.setO 2 (.o .z) (.lst (cs [(.kst (.str "in")), (.kst (.str "out")), (.kst (.str "clear")), (.kst (.str "barred")), (.kst (.str "open")), (.kst (.str "heard")), (.kst (.str "chair")), (.kst (.str "back")), (.kst (.str "wishes")), (.kst (.str "house")), (.kst (.str "guest")), (.kst (.str "wish")), (.kst (.str "a"))]))),
  (.setO 2 (.o .z) (.own (.op .add (cs [(.peek (.sl 2)), (.lst (cs [(.kst (.str "an")), (.kst (.str "ann")), (.kst (.str "anna")), (.kst (.str "bo")), (.kst (.str "zzzzzzzz")), (.kst (.str "z")), (.kst (.str "eightlet"))]))])))),
  (.set 3 (.kst (.str "abcdefghijklmnopqrstuvwxyz"))),
  (.setO 2 (.o .z) (.own (.op .add (cs [(.peek (.sl 2)), (.lc [4] (.nm 4) (.rng (cs [(.op .max2 (cs [(.kst (.int 0)), (.op .sub (cs [(.peek (.sl 1)), (.kst (.int 20))]))]))])) (cs []) (.op .add (cs [(.op .add (cs [(.op .idx (cs [(.peek (.sl 3)), (.op .fdiv (cs [(.peek (.sl 4)), (.kst (.int 26))]))])), (.kst (.str "q"))])), (.op .idx (cs [(.peek (.sl 3)), (.op .mod (cs [(.peek (.sl 4)), (.kst (.int 26))]))]))])))])))),
  (.ret (.lc [4] (.nm 4) (.rng (cs [(.peek (.sl 1))])) (cs []) (.mut (.sl 2) .z .popAt (cs [(.call 9 (cs [(.var 0), (.op .len (cs [(.peek (.sl 2))]))]))]))))])
def c10 : CX := cxI ["_law_pot_here", "_law_many", "_law_left", "_law_letters", "_law_k"] [("_law_left", .o .z)] [] [] [] (none) (none)
theorem sc10 : FnScope c10.N ["_law_pot_here", "_law_many"] (defScope (topS 17)) := ⟨rfl, rfl, rfl, by decide +kernel, rfl, by decide +kernel, by decide +kernel⟩
theorem bd10 : bodyC c10 (defScope (topS 17)) (defBody (topS 17)) = some b10 := by kernel_rfl
/-- _law_order -/
def b11 : CSs := (ss [
  (.setO 3 (.o .z) (.own (.op .ofList (cs [(.peek (.sl 1))])))),
  (.ret (.lc [4] (.nm 4) (.rng (cs [(.op .min2 (cs [(.op .len (cs [(.peek (.sl 3))])), (.call 9 (cs [(.var 0), (.op .add (cs [(.peek (.sl 2)), (.kst (.int 1))]))]))]))])) (cs []) (.mut (.sl 3) .z .popAt (cs [(.call 9 (cs [(.var 0), (.op .len (cs [(.peek (.sl 3))]))]))]))))])
def c11 : CX := cxI ["_law_pot_here", "_law_guests", "_law_most", "_law_left", "_law_k"] [("_law_left", .o .z)] [] [] [] (none) (none)
theorem sc11 : FnScope c11.N ["_law_pot_here", "_law_guests", "_law_most"] (defScope (topS 18)) := ⟨rfl, rfl, rfl, by decide +kernel, rfl, by decide +kernel, by decide +kernel⟩
theorem bd11 : bodyC c11 (defScope (topS 18)) (defBody (topS 18)) = some b11 := by kernel_rfl
/-- _law_town -/
def b12 : CSs := (ss [
  (.set 2 (.lc [3] (.nm 3) (.rng (cs [(.kst (.int 2))])) (cs []) (.call 9 (cs [(.var 0), (.op .add (cs [(.peek (.sl 1)), (.kst (.int 1))]))])))),
  (.set 4 (.call 10 (cs [(.var 0), (.op .add (cs [(.op .idx (cs [(.peek (.sl 2)), (.kst (.int 0))])), (.op .idx (cs [(.peek (.sl 2)), (.kst (.int 1))]))]))]))),
  (.set 5 (.lc [6] (.nm 6) (.seq (.op .slice (cs [(.peek (.sl 4)), (.kst .none), (.op .toi (cs [(.op .idx (cs [(.peek (.sl 2)), (.kst (.int 1))]))]))]))) (cs []) (.tup (cs [(.var 6), (.op .gt (cs [(.call 9 (cs [(.var 0), (.kst (.int 4))])), (.kst (.int 0))]))])))),
  (.setO 7 (.o .z) (.lst .nil)),
  (.for (.nm 6) (.seq (.op .slice (cs [(.peek (.sl 4)), (.op .toi (cs [(.op .idx (cs [(.peek (.sl 2)), (.kst (.int 1))]))])), (.kst .none)]))) (ss [
    (.set 8 (.op .idx (cs [(.lst (cs [(.kst (.int 0)), (.kst (.int 1)), (.kst (.int 1)), (.kst (.int 2)), (.op .add (cs [(.op .idx (cs [(.peek (.sl 2)), (.kst (.int 1))])), (.kst (.int 1))])), (.op .sub (cs [(.op .pow (cs [(.kst (.int 10)), (.kst (.int 9))])), (.kst (.int 1))]))])), (.call 9 (cs [(.var 0), (.kst (.int 6))]))]))),
    (.expr (.mut (.sl 7) .z .app (cs [(.tup (cs [(.var 6), (.var 8), (.call 11 (cs [(.var 0), (.op .slice (cs [(.peek (.sl 4)), (.kst .none), (.op .toi (cs [(.op .idx (cs [(.peek (.sl 2)), (.kst (.int 1))]))]))])), (.op .idx (cs [(.peek (.sl 2)), (.kst (.int 1))]))]))]))])))])),
  (.ret (.tup (cs [(.var 7), (.var 5)])))])
def c12 : CX := cxI ["_law_pot_here", "_law_most", "_law_many", "_law_k", "_law_names_here", "_law_guests", "_law_name", "_law_houses", "_law_room"] [("_law_houses", .o .z)] [] [] [] (none) (none)
theorem sc12 : FnScope c12.N ["_law_pot_here", "_law_most"] (defScope (topS 19)) := ⟨rfl, rfl, rfl, by decide +kernel, rfl, by decide +kernel, by decide +kernel⟩
theorem bd12 : bodyC c12 (defScope (topS 19)) (defBody (topS 19)) = some b12 := by kernel_rfl
/-- _law_mixed -/
def b13 : CSs := (ss [
  (.setO 2 (.o .z) (.own (.op .ofList (cs [(.peek (.sl 1))])))),
  (.ret (.lc [3] (.nm 3) (.rng (cs [(.op .len (cs [(.peek (.sl 1))]))])) (cs []) (.mut (.sl 2) .z .popAt (cs [(.call 9 (cs [(.var 0), (.op .len (cs [(.peek (.sl 2))]))]))]))))])
def c13 : CX := cxI ["_law_pot_here", "_law_things", "_law_left", "_law_k"] [("_law_left", .o .z)] [] [] [] (some (.o .z)) (none)
theorem sc13 : FnScope c13.N ["_law_pot_here", "_law_things"] (defScope (topS 20)) := ⟨rfl, rfl, rfl, by decide +kernel, rfl, by decide +kernel, by decide +kernel⟩
theorem bd13 : bodyC c13 (defScope (topS 20)) (defBody (topS 20)) = some b13 := by kernel_rfl
/-- _law_due -/
def b14 : CSs := (ss [
  (.setT [(.nm 1), (.nm 2)] (.var 0)),
  (.setO 3 (.o .z) (.lst .nil)),
  (.for (.tp [(.nm 4), (.nm 5)]) (.seq (.peek (.sl 2))) (ss [
    (.expr (.mut (.sl 3) .z .app (cs [(.tup (cs [(.var 4), (.var 4)]))]))),
    (.set 6 (.lc [7, 8, 9] (.tp [(.nm 7), (.nm 8), (.nm 9)]) (.seq (.peek (.sl 1))) (cs [(.op .in_ (cs [(.peek (.sl 4)), (.peek (.sl 9))]))]) (.var 7))),
    (.expr (.extF (.sl 3) (.lc [7] (.nm 7) (.seq (.peek (.sl 6))) (cs []) (.tup (cs [(.var 7), (.var 4)])))))])),
  (.ret (.op .sorted (cs [(.peek (.sl 3))])))])
def c14 : CX := cxI ["_law_world", "_law_houses", "_law_guests", "_law_found", "_law_guest", "_law_wishes", "_law_beside", "_law_house", "_law_room", "_law_order_here"] [("_law_found", .o .z)] [] [] [] (none) (none)
theorem sc14 : FnScope c14.N ["_law_world"] (defScope (topS 21)) := ⟨rfl, rfl, rfl, by decide +kernel, rfl, by decide +kernel, by decide +kernel⟩
theorem bd14 : bodyC c14 (defScope (topS 21)) (defBody (topS 21)) = some b14 := by kernel_rfl
/-- law -/
def b15 : CSs := (ss [
  (.set 1 (.call 8 (cs [(.var 0)]))),
  (.for (.nm 2) (.rng (cs [(.kst (.int 4))])) (ss [
    (.set 3 (.call 12 (cs [(.var 1), (.op .idx (cs [(.lst (cs [(.kst (.int 3)), (.kst (.int 9))])), (.call 9 (cs [(.var 1), (.kst (.int 2))]))]))]))),
    (.set 4 (.call 14 (cs [(.var 3)]))),
    (.set 5 (.op .repr (cs [(.peek (.sl 3))]))),
    (.setO 6 (.o .z) (.dd (.call 7 (cs [(.var 3)])))),
    (.ite (.or (.not (.op (.isinst .list) (cs [(.peek (.sl 6))]))) (.op .ne (cs [(.op .repr (cs [(.peek (.sl 6))])), (.op .repr (cs [(.peek (.sl 4))]))]))) (ss [
      (.ret (.kst (.bool false)))]) (ss [])),
    (.expr (.mut (.sl 6) .z .app (cs [(.tup (cs [(.kst (.str "a")), (.kst (.str "a"))]))]))),
    (.expr (.mut (.sl 6) .z .rev (cs []))),
    (.ite (.or (.op .ne (cs [(.frz (.call 7 (cs [(.var 3)]))), (.peek (.sl 4))])) (.op .ne (cs [(.op .repr (cs [(.peek (.sl 3))])), (.peek (.sl 5))]))) (ss [
      (.ret (.kst (.bool false)))]) (ss [])),
    (.set 7 (.lc [8, 9, 10] (.tp [(.nm 8), (.nm 9), (.nm 10)]) (.seq (.op .idx (cs [(.peek (.sl 3)), (.kst (.int 0))]))) (cs []) (.tup (cs [(.var 8), (.call 9 (cs [(.var 1), (.kst (.int 4))])), (.frz (.call 13 (cs [(.var 1), (.var 10)])))])))),
    (.setO 11 (.o (.o .z)) (.tupN (cs [(.dd (.call 13 (cs [(.var 1), (.var 7)]))), (.dd (.call 13 (cs [(.var 1), (.op .idx (cs [(.peek (.sl 3)), (.kst (.int 1))]))])))]))),
    (.set 12 (.frz (.call 7 (cs [(.peek (.sl 11))])))),
    (.expr (.mut (.ix (.sl 11) (.kst (.int 0))) .z .clr (cs []))),
    (.expr (.mut (.ix (.sl 11) (.kst (.int 1))) .z .clr (cs []))),
    (.ite (.or (.op .ne (cs [(.peek (.sl 12)), (.peek (.sl 4))])) (.op .ne (cs [(.frz (.call 7 (cs [(.peek (.sl 11))]))), (.lst (cs []))]))) (ss [
      (.ret (.kst (.bool false)))]) (ss []))])),
  (.ret (.kst (.bool true)))])
def c15 : CX := cxI ["_law_script", "_law_pot_here", "_law_lap", "_law_world", "_law_due_here", "_law_kept", "_law_told", "_law_houses", "_law_house", "_law_room", "_law_order_here", "_law_other", "_law_found"] [("_law_told", .o .z), ("_law_other", .o (.o .z))] [] ["_law_other"] ["_law_other"] (none) (none)
theorem sc15 : FnScope c15.N ["_law_script"] (defScope (topS 22)) := ⟨rfl, rfl, rfl, by decide +kernel, rfl, by decide +kernel, by decide +kernel⟩
theorem bd15 : bodyC c15 (defScope (topS 22)) (defBody (topS 22)) = some b15 := by kernel_rfl
def tab : List FunI := [⟨1, 1, b0⟩, ⟨2, 1, b1⟩, ⟨1, 1, b2⟩, ⟨3, 2, b3⟩, ⟨2, 2, b4⟩, ⟨8, 1, b5⟩, ⟨1, 1, b6⟩, ⟨9, 1, b7⟩, ⟨4, 1, b8⟩, ⟨4, 2, b9⟩, ⟨5, 2, b10⟩, ⟨5, 3, b11⟩, ⟨9, 2, b12⟩, ⟨4, 2, b13⟩, ⟨10, 1, b14⟩, ⟨13, 1, b15⟩]
def meths : Nat → Nat → Option Nat := fun _ _ => none
def consts : List D := [(.str "abcdefghijklmnopqrstuvwxyz"), (.int 8)]
theorem all_mk {l : PySem.W.OpenLaw} {w : World} {K : PySem.W.Frag} {h : Heap} {mg : Str → Option Value} {fa f0 f1 f2 f3 f4 f5 f6 f7 f8 f9 f10 f11 f12 f13 f14 f15 : Addr} (X : K.In h) (G : h.Ns mainGlobals mg) (hfa : mg "law" = some (.ref fa))
    {od0 an0 : Option Addr} {sl0 : Array (Option Value)} {oc0 kV0 dc0 pm0 cd0 ct0 : Value}
    {od1 an1 : Option Addr} {sl1 : Array (Option Value)} {oc1 kV1 dc1 pm1 cd1 ct1 : Value}
    {od2 an2 : Option Addr} {sl2 : Array (Option Value)} {oc2 kV2 dc2 pm2 cd2 ct2 : Value}
    {od3 an3 : Option Addr} {sl3 : Array (Option Value)} {oc3 kV3 dc3 pm3 cd3 ct3 : Value}
    {od4 an4 : Option Addr} {sl4 : Array (Option Value)} {oc4 kV4 dc4 pm4 cd4 ct4 : Value}
    {od5 an5 : Option Addr} {sl5 : Array (Option Value)} {oc5 kV5 dc5 pm5 cd5 ct5 : Value}
    {od6 an6 : Option Addr} {sl6 : Array (Option Value)} {oc6 kV6 dc6 pm6 cd6 ct6 : Value}
    {od7 an7 : Option Addr} {sl7 : Array (Option Value)} {oc7 kV7 dc7 pm7 cd7 ct7 : Value}
    {od8 an8 : Option Addr} {sl8 : Array (Option Value)} {oc8 kV8 dc8 pm8 cd8 ct8 : Value}
    {od9 an9 : Option Addr} {sl9 : Array (Option Value)} {oc9 kV9 dc9 pm9 cd9 ct9 : Value}
    {od10 an10 : Option Addr} {sl10 : Array (Option Value)} {oc10 kV10 dc10 pm10 cd10 ct10 : Value}
    {od11 an11 : Option Addr} {sl11 : Array (Option Value)} {oc11 kV11 dc11 pm11 cd11 ct11 : Value}
    {od12 an12 : Option Addr} {sl12 : Array (Option Value)} {oc12 kV12 dc12 pm12 cd12 ct12 : Value}
    {od13 an13 : Option Addr} {sl13 : Array (Option Value)} {oc13 kV13 dc13 pm13 cd13 ct13 : Value}
    {od14 an14 : Option Addr} {sl14 : Array (Option Value)} {oc14 kV14 dc14 pm14 cd14 ct14 : Value}
    {od15 an15 : Option Addr} {sl15 : Array (Option Value)} {oc15 kV15 dc15 pm15 cd15 ct15 : Value}
    (a0 : PySem.W.nsIn K mainGlobals "is_count" = some (some (.ref f0))) (l0 : K.lookup f0 = some ⟨oc0, od0, .func (PySem.W.fnOf "is_count" "is_count" (defArgs (topS 6)) (defBody (topS 6)) (defScope (topS 6)) .none kV0 dc0 pm0 an0 cd0 ct0), sl0⟩) (c0 : PySem.W.codeIn K cd0 "is_count" = true) (k0 : PySem.W.keepIn K (.ref f0) = true)
    (a1 : PySem.W.nsIn K mainGlobals "is_name" = some (some (.ref f1))) (l1 : K.lookup f1 = some ⟨oc1, od1, .func (PySem.W.fnOf "is_name" "is_name" (defArgs (topS 7)) (defBody (topS 7)) (defScope (topS 7)) .none kV1 dc1 pm1 an1 cd1 ct1), sl1⟩) (c1 : PySem.W.codeIn K cd1 "is_name" = true) (k1 : PySem.W.keepIn K (.ref f1) = true)
    (a2 : PySem.W.nsIn K mainGlobals "is_guest_row" = some (some (.ref f2))) (l2 : K.lookup f2 = some ⟨oc2, od2, .func (PySem.W.fnOf "is_guest_row" "is_guest_row" (defArgs (topS 8)) (defBody (topS 8)) (defScope (topS 8)) .none kV2 dc2 pm2 an2 cd2 ct2), sl2⟩) (c2 : PySem.W.codeIn K cd2 "is_guest_row" = true) (k2 : PySem.W.keepIn K (.ref f2) = true)
    (a3 : PySem.W.nsIn K mainGlobals "is_order" = some (some (.ref f3))) (l3 : K.lookup f3 = some ⟨oc3, od3, .func (PySem.W.fnOf "is_order" "is_order" (defArgs (topS 9)) (defBody (topS 9)) (defScope (topS 9)) .none kV3 dc3 pm3 an3 cd3 ct3), sl3⟩) (c3 : PySem.W.codeIn K cd3 "is_order" = true) (k3 : PySem.W.keepIn K (.ref f3) = true)
    (a4 : PySem.W.nsIn K mainGlobals "is_house_row" = some (some (.ref f4))) (l4 : K.lookup f4 = some ⟨oc4, od4, .func (PySem.W.fnOf "is_house_row" "is_house_row" (defArgs (topS 10)) (defBody (topS 10)) (defScope (topS 10)) .none kV4 dc4 pm4 an4 cd4 ct4), sl4⟩) (c4 : PySem.W.codeIn K cd4 "is_house_row" = true) (k4 : PySem.W.keepIn K (.ref f4) = true)
    (a5 : PySem.W.nsIn K mainGlobals "is_world" = some (some (.ref f5))) (l5 : K.lookup f5 = some ⟨oc5, od5, .func (PySem.W.fnOf "is_world" "is_world" (defArgs (topS 11)) (defBody (topS 11)) (defScope (topS 11)) .none kV5 dc5 pm5 an5 cd5 ct5), sl5⟩) (c5 : PySem.W.codeIn K cd5 "is_world" = true) (k5 : PySem.W.keepIn K (.ref f5) = true)
    (a6 : PySem.W.nsIn K mainGlobals "need_world" = some (some (.ref f6))) (l6 : K.lookup f6 = some ⟨oc6, od6, .func (PySem.W.fnOf "need_world" "need_world" (defArgs (topS 12)) (defBody (topS 12)) (defScope (topS 12)) .none kV6 dc6 pm6 an6 cd6 ct6), sl6⟩) (c6 : PySem.W.codeIn K cd6 "need_world" = true) (k6 : PySem.W.keepIn K (.ref f6) = true)
    (a7 : PySem.W.nsIn K mainGlobals "places" = some (some (.ref f7))) (l7 : K.lookup f7 = some ⟨oc7, od7, .func (PySem.W.fnOf "places" "places" (defArgs (topS 13)) (defBody (topS 13)) (defScope (topS 13)) .none kV7 dc7 pm7 an7 cd7 ct7), sl7⟩) (c7 : PySem.W.codeIn K cd7 "places" = true) (k7 : PySem.W.keepIn K (.ref f7) = true)
    (a8 : PySem.W.nsIn K mainGlobals "_law_pot" = some (some (.ref f8))) (l8 : K.lookup f8 = some ⟨oc8, od8, .func (PySem.W.fnOf "_law_pot" "_law_pot" (defArgs (topS 15)) (defBody (topS 15)) (defScope (topS 15)) .none kV8 dc8 pm8 an8 cd8 ct8), sl8⟩) (c8 : PySem.W.codeIn K cd8 "_law_pot" = true) (k8 : PySem.W.keepIn K (.ref f8) = true)
    (a9 : PySem.W.nsIn K mainGlobals "_law_scoop" = some (some (.ref f9))) (l9 : K.lookup f9 = some ⟨oc9, od9, .func (PySem.W.fnOf "_law_scoop" "_law_scoop" (defArgs (topS 16)) (defBody (topS 16)) (defScope (topS 16)) .none kV9 dc9 pm9 an9 cd9 ct9), sl9⟩) (c9 : PySem.W.codeIn K cd9 "_law_scoop" = true) (k9 : PySem.W.keepIn K (.ref f9) = true)
    (a10 : PySem.W.nsIn K mainGlobals "_law_names" = some (some (.ref f10))) (l10 : K.lookup f10 = some ⟨oc10, od10, .func (PySem.W.fnOf "_law_names" "_law_names" (defArgs (topS 17)) (defBody (topS 17)) (defScope (topS 17)) .none kV10 dc10 pm10 an10 cd10 ct10), sl10⟩) (c10 : PySem.W.codeIn K cd10 "_law_names" = true) (k10 : PySem.W.keepIn K (.ref f10) = true)
    (a11 : PySem.W.nsIn K mainGlobals "_law_order" = some (some (.ref f11))) (l11 : K.lookup f11 = some ⟨oc11, od11, .func (PySem.W.fnOf "_law_order" "_law_order" (defArgs (topS 18)) (defBody (topS 18)) (defScope (topS 18)) .none kV11 dc11 pm11 an11 cd11 ct11), sl11⟩) (c11 : PySem.W.codeIn K cd11 "_law_order" = true) (k11 : PySem.W.keepIn K (.ref f11) = true)
    (a12 : PySem.W.nsIn K mainGlobals "_law_town" = some (some (.ref f12))) (l12 : K.lookup f12 = some ⟨oc12, od12, .func (PySem.W.fnOf "_law_town" "_law_town" (defArgs (topS 19)) (defBody (topS 19)) (defScope (topS 19)) .none kV12 dc12 pm12 an12 cd12 ct12), sl12⟩) (c12 : PySem.W.codeIn K cd12 "_law_town" = true) (k12 : PySem.W.keepIn K (.ref f12) = true)
    (a13 : PySem.W.nsIn K mainGlobals "_law_mixed" = some (some (.ref f13))) (l13 : K.lookup f13 = some ⟨oc13, od13, .func (PySem.W.fnOf "_law_mixed" "_law_mixed" (defArgs (topS 20)) (defBody (topS 20)) (defScope (topS 20)) .none kV13 dc13 pm13 an13 cd13 ct13), sl13⟩) (c13 : PySem.W.codeIn K cd13 "_law_mixed" = true) (k13 : PySem.W.keepIn K (.ref f13) = true)
    (a14 : PySem.W.nsIn K mainGlobals "_law_due" = some (some (.ref f14))) (l14 : K.lookup f14 = some ⟨oc14, od14, .func (PySem.W.fnOf "_law_due" "_law_due" (defArgs (topS 21)) (defBody (topS 21)) (defScope (topS 21)) .none kV14 dc14 pm14 an14 cd14 ct14), sl14⟩) (c14 : PySem.W.codeIn K cd14 "_law_due" = true) (k14 : PySem.W.keepIn K (.ref f14) = true)
    (a15 : PySem.W.nsIn K mainGlobals "law" = some (some (.ref f15))) (l15 : K.lookup f15 = some ⟨oc15, od15, .func (PySem.W.fnOf "law" "law" (defArgs (topS 22)) (defBody (topS 22)) (defScope (topS 22)) .none kV15 dc15 pm15 an15 cd15 ct15), sl15⟩) (c15 : PySem.W.codeIn K cd15 "law" = true) (k15 : PySem.W.keepIn K (.ref f15) = true)
    {t0 : Tok} (g0 : PySem.W.nsIn K mainGlobals "LETTERS" = some (some (Value.str "abcdefghijklmnopqrstuvwxyz" t0)))
    {t1 : Tok} (g1 : PySem.W.nsIn K mainGlobals "MOST_LETTERS" = some (some (Value.int 8 t1)))
    (z0 : PySem.W.nsIn K mainGlobals "abs" = some none)
    (z1 : PySem.W.nsIn K mainGlobals "all" = some none)
    (z2 : PySem.W.nsIn K mainGlobals "bool" = some none)
    (z3 : PySem.W.nsIn K mainGlobals "int" = some none)
    (z4 : PySem.W.nsIn K mainGlobals "isinstance" = some none)
    (z5 : PySem.W.nsIn K mainGlobals "len" = some none)
    (z6 : PySem.W.nsIn K mainGlobals "list" = some none)
    (z7 : PySem.W.nsIn K mainGlobals "max" = some none)
    (z8 : PySem.W.nsIn K mainGlobals "min" = some none)
    (z9 : PySem.W.nsIn K mainGlobals "range" = some none)
    (z10 : PySem.W.nsIn K mainGlobals "repr" = some none)
    (z11 : PySem.W.nsIn K mainGlobals "set" = some none)
    (z12 : PySem.W.nsIn K mainGlobals "sorted" = some none)
    (z13 : PySem.W.nsIn K mainGlobals "str" = some none)
    (z14 : PySem.W.nsIn K mainGlobals "tuple" = some none)
    {e0 : Addr} (ea0 : PySem.W.nsIn K mainGlobals "NoWorld" = some (some (.ref e0))) (ex0 : PySem.W.excIn K e0 [.type "ValueError", .type "Exception", .type "BaseException", .type "object"] "ValueError.__new__" = true) (ek0 : PySem.W.keepIn K (.ref e0) = true) (es0 : PySem.W.subIn K (.ref e0) (.type "BaseException") = some true) (et0 : PySem.W.typeIn K (.ref e0) = some (.type "type"))
    : ∃ fd : FuncData, (∀ (s : Shared) (v : Value), BindsTo s fd ⟨[v], []⟩ [("_law_script", v)]) ∧ ∀ base : Heap, K.In base → base.Ns mainGlobals mg → FnG l.prog w K mg base (L2.CX l.prog w) 16 fa fd ["_law_script"] (spF ⟨K, Z0⟩ (exK K exnames) none (callF tab meths consts 16 15)) := by
  have e := hfa.symm.trans (PySem.W.mg_of X G a15)
  cases e
  have F0 := fun_mk (st := topS 6) l0 c0 k0
  have B0 := F0.binds (ps := ["thing"]) fun _ _ _ _ _ _ us hl => match us, hl with | [_], _ => rfl
  have F1 := fun_mk (st := topS 7) l1 c1 k1
  have B1 := F1.binds (ps := ["thing"]) fun _ _ _ _ _ _ us hl => match us, hl with | [_], _ => rfl
  have F2 := fun_mk (st := topS 8) l2 c2 k2
  have B2 := F2.binds (ps := ["thing"]) fun _ _ _ _ _ _ us hl => match us, hl with | [_], _ => rfl
  have F3 := fun_mk (st := topS 9) l3 c3 k3
  have B3 := F3.binds (ps := ["thing", "guests"]) fun _ _ _ _ _ _ us hl => match us, hl with | [_, _], _ => rfl
  have F4 := fun_mk (st := topS 10) l4 c4 k4
  have B4 := F4.binds (ps := ["thing", "guests"]) fun _ _ _ _ _ _ us hl => match us, hl with | [_, _], _ => rfl
  have F5 := fun_mk (st := topS 11) l5 c5 k5
  have B5 := F5.binds (ps := ["thing"]) fun _ _ _ _ _ _ us hl => match us, hl with | [_], _ => rfl
  have F6 := fun_mk (st := topS 12) l6 c6 k6
  have B6 := F6.binds (ps := ["thing"]) fun _ _ _ _ _ _ us hl => match us, hl with | [_], _ => rfl
  have F7 := fun_mk (st := topS 13) l7 c7 k7
  have B7 := F7.binds (ps := ["world"]) fun _ _ _ _ _ _ us hl => match us, hl with | [_], _ => rfl
  have F8 := fun_mk (st := topS 15) l8 c8 k8
  have B8 := F8.binds (ps := ["_law_script"]) fun _ _ _ _ _ _ us hl => match us, hl with | [_], _ => rfl
  have F9 := fun_mk (st := topS 16) l9 c9 k9
  have B9 := F9.binds (ps := ["_law_pot_here", "_law_many"]) fun _ _ _ _ _ _ us hl => match us, hl with | [_, _], _ => rfl
  have F10 := fun_mk (st := topS 17) l10 c10 k10
  have B10 := F10.binds (ps := ["_law_pot_here", "_law_many"]) fun _ _ _ _ _ _ us hl => match us, hl with | [_, _], _ => rfl
  have F11 := fun_mk (st := topS 18) l11 c11 k11
  have B11 := F11.binds (ps := ["_law_pot_here", "_law_guests", "_law_most"]) fun _ _ _ _ _ _ us hl => match us, hl with | [_, _, _], _ => rfl
  have F12 := fun_mk (st := topS 19) l12 c12 k12
  have B12 := F12.binds (ps := ["_law_pot_here", "_law_most"]) fun _ _ _ _ _ _ us hl => match us, hl with | [_, _], _ => rfl
  have F13 := fun_mk (st := topS 20) l13 c13 k13
  have B13 := F13.binds (ps := ["_law_pot_here", "_law_things"]) fun _ _ _ _ _ _ us hl => match us, hl with | [_, _], _ => rfl
  have F14 := fun_mk (st := topS 21) l14 c14 k14
  have B14 := F14.binds (ps := ["_law_world"]) fun _ _ _ _ _ _ us hl => match us, hl with | [_], _ => rfl
  have F15 := fun_mk (st := topS 22) l15 c15 k15
  have B15 := F15.binds (ps := ["_law_script"]) fun _ _ _ _ _ _ us hl => match us, hl with | [_], _ => rfl
  let D : List DRow := [⟨"is_count", f0, (PySem.W.fnOf "is_count" "is_count" (defArgs (topS 6)) (defBody (topS 6)) (defScope (topS 6)) .none kV0 dc0 pm0 an0 cd0 ct0), ["thing"], K03.c0, topS 6, ⟨1, 1, b0⟩⟩, ⟨"is_name", f1, (PySem.W.fnOf "is_name" "is_name" (defArgs (topS 7)) (defBody (topS 7)) (defScope (topS 7)) .none kV1 dc1 pm1 an1 cd1 ct1), ["thing"], K03.c1, topS 7, ⟨2, 1, b1⟩⟩, ⟨"is_guest_row", f2, (PySem.W.fnOf "is_guest_row" "is_guest_row" (defArgs (topS 8)) (defBody (topS 8)) (defScope (topS 8)) .none kV2 dc2 pm2 an2 cd2 ct2), ["thing"], K03.c2, topS 8, ⟨1, 1, b2⟩⟩, ⟨"is_order", f3, (PySem.W.fnOf "is_order" "is_order" (defArgs (topS 9)) (defBody (topS 9)) (defScope (topS 9)) .none kV3 dc3 pm3 an3 cd3 ct3), ["thing", "guests"], K03.c3, topS 9, ⟨3, 2, b3⟩⟩, ⟨"is_house_row", f4, (PySem.W.fnOf "is_house_row" "is_house_row" (defArgs (topS 10)) (defBody (topS 10)) (defScope (topS 10)) .none kV4 dc4 pm4 an4 cd4 ct4), ["thing", "guests"], K03.c4, topS 10, ⟨2, 2, b4⟩⟩, ⟨"is_world", f5, (PySem.W.fnOf "is_world" "is_world" (defArgs (topS 11)) (defBody (topS 11)) (defScope (topS 11)) .none kV5 dc5 pm5 an5 cd5 ct5), ["thing"], K03.c5, topS 11, ⟨8, 1, b5⟩⟩, ⟨"need_world", f6, (PySem.W.fnOf "need_world" "need_world" (defArgs (topS 12)) (defBody (topS 12)) (defScope (topS 12)) .none kV6 dc6 pm6 an6 cd6 ct6), ["thing"], K03.c6, topS 12, ⟨1, 1, b6⟩⟩, ⟨"places", f7, (PySem.W.fnOf "places" "places" (defArgs (topS 13)) (defBody (topS 13)) (defScope (topS 13)) .none kV7 dc7 pm7 an7 cd7 ct7), ["world"], K03.c7, topS 13, ⟨9, 1, b7⟩⟩, ⟨"_law_pot", f8, (PySem.W.fnOf "_law_pot" "_law_pot" (defArgs (topS 15)) (defBody (topS 15)) (defScope (topS 15)) .none kV8 dc8 pm8 an8 cd8 ct8), ["_law_script"], K03.c8, topS 15, ⟨4, 1, b8⟩⟩, ⟨"_law_scoop", f9, (PySem.W.fnOf "_law_scoop" "_law_scoop" (defArgs (topS 16)) (defBody (topS 16)) (defScope (topS 16)) .none kV9 dc9 pm9 an9 cd9 ct9), ["_law_pot_here", "_law_many"], K03.c9, topS 16, ⟨4, 2, b9⟩⟩, ⟨"_law_names", f10, (PySem.W.fnOf "_law_names" "_law_names" (defArgs (topS 17)) (defBody (topS 17)) (defScope (topS 17)) .none kV10 dc10 pm10 an10 cd10 ct10), ["_law_pot_here", "_law_many"], K03.c10, topS 17, ⟨5, 2, b10⟩⟩, ⟨"_law_order", f11, (PySem.W.fnOf "_law_order" "_law_order" (defArgs (topS 18)) (defBody (topS 18)) (defScope (topS 18)) .none kV11 dc11 pm11 an11 cd11 ct11), ["_law_pot_here", "_law_guests", "_law_most"], K03.c11, topS 18, ⟨5, 3, b11⟩⟩, ⟨"_law_town", f12, (PySem.W.fnOf "_law_town" "_law_town" (defArgs (topS 19)) (defBody (topS 19)) (defScope (topS 19)) .none kV12 dc12 pm12 an12 cd12 ct12), ["_law_pot_here", "_law_most"], K03.c12, topS 19, ⟨9, 2, b12⟩⟩, ⟨"_law_mixed", f13, (PySem.W.fnOf "_law_mixed" "_law_mixed" (defArgs (topS 20)) (defBody (topS 20)) (defScope (topS 20)) .none kV13 dc13 pm13 an13 cd13 ct13), ["_law_pot_here", "_law_things"], K03.c13, topS 20, ⟨4, 2, b13⟩⟩, ⟨"_law_due", f14, (PySem.W.fnOf "_law_due" "_law_due" (defArgs (topS 21)) (defBody (topS 21)) (defScope (topS 21)) .none kV14 dc14 pm14 an14 cd14 ct14), ["_law_world"], K03.c14, topS 21, ⟨10, 1, b14⟩⟩, ⟨"law", fa, (PySem.W.fnOf "law" "law" (defArgs (topS 22)) (defBody (topS 22)) (defScope (topS 22)) .none kV15 dc15 pm15 an15 cd15 ct15), ["_law_script"], K03.c15, topS 22, ⟨13, 1, b15⟩⟩]
  have ok : ∀ j r, D[j]? = some r → DOk K Z0 mg tab names globs excs blts dicts attrs hdls issl j r := fun j r hr => by
    match j, hr with
    | 0, hr => cases hr; exact ⟨F0, sc0, PySem.W.mg_of X G a0, B0, rfl, rfl, rfl, (show (none : Option Sh) ≠ some .i from fun z => nomatch z), bd0, rfl, rfl, rfl, rfl, rfl, rfl, rfl, rfl⟩
    | 1, hr => cases hr; exact ⟨F1, sc1, PySem.W.mg_of X G a1, B1, rfl, rfl, rfl, (show (none : Option Sh) ≠ some .i from fun z => nomatch z), bd1, rfl, rfl, rfl, rfl, rfl, rfl, rfl, rfl⟩
    | 2, hr => cases hr; exact ⟨F2, sc2, PySem.W.mg_of X G a2, B2, rfl, rfl, rfl, (show (none : Option Sh) ≠ some .i from fun z => nomatch z), bd2, rfl, rfl, rfl, rfl, rfl, rfl, rfl, rfl⟩
    | 3, hr => cases hr; exact ⟨F3, sc3, PySem.W.mg_of X G a3, B3, rfl, rfl, rfl, (show (none : Option Sh) ≠ some .i from fun z => nomatch z), bd3, rfl, rfl, rfl, rfl, rfl, rfl, rfl, rfl⟩
    | 4, hr => cases hr; exact ⟨F4, sc4, PySem.W.mg_of X G a4, B4, rfl, rfl, rfl, (show (none : Option Sh) ≠ some .i from fun z => nomatch z), bd4, rfl, rfl, rfl, rfl, rfl, rfl, rfl, rfl⟩
    | 5, hr => cases hr; exact ⟨F5, sc5, PySem.W.mg_of X G a5, B5, rfl, rfl, rfl, (show (none : Option Sh) ≠ some .i from fun z => nomatch z), bd5, rfl, rfl, rfl, rfl, rfl, rfl, rfl, rfl⟩
    | 6, hr => cases hr; exact ⟨F6, sc6, PySem.W.mg_of X G a6, B6, rfl, rfl, rfl, (show (none : Option Sh) ≠ some .i from fun z => nomatch z), bd6, rfl, rfl, rfl, rfl, rfl, rfl, rfl, rfl⟩
    | 7, hr => cases hr; exact ⟨F7, sc7, PySem.W.mg_of X G a7, B7, rfl, rfl, rfl, (show (some (.o .z) : Option Sh) ≠ some .i from fun z => nomatch z), bd7, rfl, rfl, rfl, rfl, rfl, rfl, rfl, rfl⟩
    | 8, hr => cases hr; exact ⟨F8, sc8, PySem.W.mg_of X G a8, B8, rfl, rfl, rfl, (show (none : Option Sh) ≠ some .i from fun z => nomatch z), bd8, rfl, rfl, rfl, rfl, rfl, rfl, rfl, rfl⟩
    | 9, hr => cases hr; exact ⟨F9, sc9, PySem.W.mg_of X G a9, B9, rfl, rfl, rfl, (show (none : Option Sh) ≠ some .i from fun z => nomatch z), bd9, rfl, rfl, rfl, rfl, rfl, rfl, rfl, rfl⟩
    | 10, hr => cases hr; exact ⟨F10, sc10, PySem.W.mg_of X G a10, B10, rfl, rfl, rfl, (show (none : Option Sh) ≠ some .i from fun z => nomatch z), bd10, rfl, rfl, rfl, rfl, rfl, rfl, rfl, rfl⟩
    | 11, hr => cases hr; exact ⟨F11, sc11, PySem.W.mg_of X G a11, B11, rfl, rfl, rfl, (show (none : Option Sh) ≠ some .i from fun z => nomatch z), bd11, rfl, rfl, rfl, rfl, rfl, rfl, rfl, rfl⟩
    | 12, hr => cases hr; exact ⟨F12, sc12, PySem.W.mg_of X G a12, B12, rfl, rfl, rfl, (show (none : Option Sh) ≠ some .i from fun z => nomatch z), bd12, rfl, rfl, rfl, rfl, rfl, rfl, rfl, rfl⟩
    | 13, hr => cases hr; exact ⟨F13, sc13, PySem.W.mg_of X G a13, B13, rfl, rfl, rfl, (show (some (.o .z) : Option Sh) ≠ some .i from fun z => nomatch z), bd13, rfl, rfl, rfl, rfl, rfl, rfl, rfl, rfl⟩
    | 14, hr => cases hr; exact ⟨F14, sc14, PySem.W.mg_of X G a14, B14, rfl, rfl, rfl, (show (none : Option Sh) ≠ some .i from fun z => nomatch z), bd14, rfl, rfl, rfl, rfl, rfl, rfl, rfl, rfl⟩
    | 15, hr => cases hr; exact ⟨F15, sc15, PySem.W.mg_of X G a15, B15, rfl, rfl, rfl, (show (none : Option Sh) ≠ some .i from fun z => nomatch z), bd15, rfl, rfl, rfl, rfl, rfl, rfl, rfl, rfl⟩
    | n + 16, hr => cases hr
  refine ⟨_, fun s v => ?_, fun base _ _ => lev (D := D) (meth := meths) ok (fun p hp => ?_) (fun x hx => ?_) (fun p hp => ?_) (fun p hp => ?_) (fun p hp => ?_) (fun p hp => nomatch hp) (fun p hp => ?_) (fun p hp => ?_) 16 15 _ rfl⟩
  · exact .of_eq rfl
  · simp only [names, List.mem_cons, List.not_mem_nil, or_false] at hp
    rcases hp with rfl | rfl | rfl | rfl | rfl | rfl | rfl | rfl | rfl | rfl | rfl | rfl | rfl | rfl | rfl | rfl <;> exact ⟨_, rfl, rfl, rfl⟩
  · simp only [blts, List.mem_cons, List.not_mem_nil, or_false] at hx
    rcases hx with rfl | rfl | rfl | rfl | rfl | rfl | rfl | rfl | rfl | rfl | rfl | rfl | rfl | rfl | rfl
    · exact PySem.W.mg_none_of X G z0
    · exact PySem.W.mg_none_of X G z1
    · exact PySem.W.mg_none_of X G z2
    · exact PySem.W.mg_none_of X G z3
    · exact PySem.W.mg_none_of X G z4
    · exact PySem.W.mg_none_of X G z5
    · exact PySem.W.mg_none_of X G z6
    · exact PySem.W.mg_none_of X G z7
    · exact PySem.W.mg_none_of X G z8
    · exact PySem.W.mg_none_of X G z9
    · exact PySem.W.mg_none_of X G z10
    · exact PySem.W.mg_none_of X G z11
    · exact PySem.W.mg_none_of X G z12
    · exact PySem.W.mg_none_of X G z13
    · exact PySem.W.mg_none_of X G z14
  · simp only [globs, List.mem_cons, List.not_mem_nil, or_false] at hp
    rcases hp with rfl | rfl
    · exact ⟨_, .str "abcdefghijklmnopqrstuvwxyz", _, PySem.W.mg_of X G g0, ⟨t0, rfl⟩, rfl, fun _ _ => .str _⟩
    · exact ⟨_, .int 8, _, PySem.W.mg_of X G g1, ⟨t1, rfl⟩, rfl, fun _ _ => .int _⟩
  · simp only [excs, List.mem_cons, List.not_mem_nil, or_false] at hp
    rcases hp with rfl
    · exact exF_mk (exK_at rfl ea0) (PySem.W.mg_of X G ea0) ex0 ek0 es0 et0
  · cases hp
  · cases hp
  · cases hp
end K03
end
section
set_option Elab.async false
set_option linter.all false
set_option maxRecDepth 100000
set_option maxHeartbeats 4000000
set_option autoImplicit false
/-! K03A: k03's places, guest by guest -/
namespace EV
open PySem
theorem lcLoop_fm {turn : D → Ste → Res (Option D)} {p : D → Bool} {f : D → D} {s : Ste} : ∀ (xs acc : List D), (∀ x ∈ xs, turn x s = .ok (if p x then some (f x) else none) s) → lcLoop turn xs acc s = .ok (acc ++ (xs.filter p).map f) s
  | [], acc, _ => by simp [lcLoop]
  | x :: xs, acc, h => by
    rw [lcLoop, h x List.mem_cons_self]
    have ih := fun acc => lcLoop_fm xs acc fun y hy => h y (List.mem_cons_of_mem _ hy)
    cases e : p x with
    | true =>
      show lcLoop turn xs (acc ++ [f x]) s = _
      rw [ih]
      simp [List.filter_cons, e]
    | false =>
      show lcLoop turn xs acc s = _
      rw [ih]
      simp [List.filter_cons, e]
def ordOf : D → List D
  | .tuple [_, _, .list c] => c
  | _ => []
def bes (hs : List D) (x : D) : List D := (hs.filter fun h => inD x (ordOf h)).map fst1
def dueG (hs : List D) (g : D) : List D := dup (fst1 g) :: (bes hs (fst1 g)).map fun h => .tuple [h, fst1 g]
def dueL (hs gs : List D) : List D := (gs.map (dueG hs)).flatten
def bDue : CSs := (ss [
  (.setT [(.nm 1), (.nm 2)] (.var 0)),
  (.setO 3 (.o .z) (.lst .nil)),
  (.for (.tp [(.nm 4), (.nm 5)]) (.seq (.peek (.sl 2))) (ss [
    (.expr (.mut (.sl 3) .z .app (cs [(.tup (cs [(.var 4), (.var 4)]))]))),
    (.set 6 (.lc [7, 8, 9] (.tp [(.nm 7), (.nm 8), (.nm 9)]) (.seq (.peek (.sl 1))) (cs [(.op .in_ (cs [(.peek (.sl 4)), (.peek (.sl 9))]))]) (.var 7))),
    (.expr (.extF (.sl 3) (.lc [7] (.nm 7) (.seq (.peek (.sl 6))) (cs []) (.tup (cs [(.var 7), (.var 4)])))))])),
  (.ret (.op .sorted (cs [(.peek (.sl 3))])))])
theorem bes_len (hs : List D) (x : D) : (bes hs x).length ≤ hs.length := by
  unfold bes
  rw [List.length_map]
  exact List.length_filter_le _ _
theorem due_len (hs : List D) : ∀ gs : List D, (dueL hs gs).length ≤ gs.length * (hs.length + 1)
  | [] => by simp [dueL]
  | g :: gs => by
    have h1 := due_len hs gs
    have h2 := bes_len hs (fst1 g)
    unfold dueL at h1 ⊢
    rw [List.map_cons, List.flatten_cons, List.length_append, List.length_cons, Nat.add_mul]
    have h3 : (dueG hs g).length = (bes hs (fst1 g)).length + 1 := by unfold dueG; simp
    omega
section
variable {fs : List FunI} {meth : Nat → Nat → Option Nat} {consts : List D} {k j : Nat}
theorem due_turn {P : Env} {hp : List Cell} {ns : List D} {hs acc : List D} {w g : D} {gs : List D} {s4 s5 s6 : Slot} (o4 : Slot.open (some s4) = true) (o5 : Slot.open (some s5) = true) (o6 : Slot.open (some s6) = true) (hh : hs.all (isHr ns) = true) (hg : isGr g = true) (fh : hs.length ≤ 900) (hl : acc.length + 1000 < lim) :
    ∃ t4 t5 t6 : Slot, Slot.open (some t4) = true ∧ Slot.open (some t5) = true ∧ Slot.open (some t6) = true ∧ forTurn P (.tp [.nm 4, .nm 5]) (.cons (.expr (.mut (.sl 3) .z .app (.cons (.tup (.cons (.var 4) (.cons (.var 4) .nil))) .nil))) (.cons (.set 6 (.lc [7, 8, 9] (.tp [.nm 7, .nm 8, .nm 9]) (.seq (.peek (.sl 1))) (.cons (.op .in_ (.cons (.peek (.sl 4)) (.cons (.peek (.sl 9)) .nil))) .nil) (.var 7))) (.cons (.expr (.extF (.sl 3) (.lc [7] (.nm 7) (.seq (.peek (.sl 6))) .nil (.tup (.cons (.var 7) (.cons (.var 4) .nil)))))) .nil))) false g ⟨[.v (.d w), .v (.d (.list hs)), .v (.d (.list gs)), .own (.o .z) (.list acc), s4, s5, s6, .non, .non, .non], hp⟩ =
      .nx ⟨[.v (.d w), .v (.d (.list hs)), .v (.d (.list gs)), .own (.o .z) (.list (acc ++ dueG hs g)), t4, t5, t6, .non, .non, .non], hp⟩ := by
  obtain ⟨z, b, rfl, nz⟩ := gr_form hg
  have c1 : hs.length ≤ 1000000 := by omega
  have c2 : (bes hs (.str z)).length ≤ 1000000 := Nat.le_trans (bes_len _ _) c1
  have c3 := bes_len hs (.str z)
  have hl' : acc.length + 1000 < 1000000 := hl
  have l1 : ∀ a : List D, lcLoop (lcTurn P [7, 8, 9] (.tp [.nm 7, .nm 8, .nm 9]) (.cons (.op .in_ (.cons (.peek (.sl 4)) (.cons (.peek (.sl 9)) .nil))) .nil) (.var 7) false) hs [] ⟨[.v (.d w), .v (.d (.list hs)), .v (.d (.list gs)), .own (.o .z) (.list a), .v (.d (.str z)), .v (.d (.bool b)), s6, .non, .non, .non], hp⟩ = .ok (bes hs (.str z)) ⟨[.v (.d w), .v (.d (.list hs)), .v (.d (.list gs)), .own (.o .z) (.list a), .v (.d (.str z)), .v (.d (.bool b)), s6, .non, .non, .non], hp⟩ := fun a => by
    rw [lcLoop_fm (p := fun h => inD (.str z) (ordOf h)) (f := fst1)]
    · rfl
    · intro y hy
      obtain ⟨a', b', c', rfl, na, _, hor⟩ := hr_form (List.all_eq_true.mp hh y hy)
      have nc := (or_iff.mp hor).1
      have pc' : c'.all plainD = true := List.all_eq_true.mpr fun u hu => nm_plain (List.all_eq_true.mp nc u hu)
      have fi : fIn [.str z, .list c'] = some (.bool (inD (.str z) c')) := by
        show (if plainD (.str z) && c'.all plainD then some (PyData.bool (inD (.str z) c')) else none) = _
        rw [pc', pl_str]
        rfl
      cases e : inD (.str z) c' with
      | true => rw [e] at fi; simp [lcTurn, fi, ordOf, fst1, e]
      | false => rw [e] at fi; simp [lcTurn, fi, ordOf, fst1, e]
  have l2 : ∀ a : List D, lcLoop (lcTurn P [7] (.nm 7) .nil (.tup (.cons (.var 7) (.cons (.var 4) .nil))) false) (bes hs (.str z)) [] ⟨[.v (.d w), .v (.d (.list hs)), .v (.d (.list gs)), .lck (.o .z) (.list a), .v (.d (.str z)), .v (.d (.bool b)), .v (.d (.list (bes hs (.str z)))), .non, .non, .non], hp⟩ = .ok ((bes hs (.str z)).map fun h => .tuple [h, .str z]) ⟨[.v (.d w), .v (.d (.list hs)), .v (.d (.list gs)), .lck (.o .z) (.list a), .v (.d (.str z)), .v (.d (.bool b)), .v (.d (.list (bes hs (.str z)))), .non, .non, .non], hp⟩ := fun a => by
    rw [lcLoop_map (f := fun h => .tuple [h, .str z])]
    · simp
    · intro y hy
      simp [lcTurn, lim]
  have b1 : acc.length < 1000000 := by omega
  have b2 : acc.length + 1 + (bes hs (.str z)).length < 1000000 := by omega
  refine ⟨.v (.d (.str z)), .v (.d (.bool b)), .v (.d (.list (bes hs (.str z)))), rfl, rfl, rfl, ?_⟩
  simp [-bi_nm, bi_open, forTurn, o4, o5, o6, lim, mApp, b1, l1, c2, l2, b2, dueG, fst1, dup]
theorem dueG_pr {ns hs : List D} {g : D} (hh : hs.all (isHr ns) = true) (hg : isGr g = true) : (dueG hs g).all isPr = true := by
  obtain ⟨z, b, rfl, nz⟩ := gr_form hg
  unfold dueG
  rw [List.all_cons, show isPr (dup (fst1 (PyData.tuple [PyData.str z, PyData.bool b]))) = true from dup_pr nz, Bool.true_and, List.all_eq_true]
  intro y hy
  obtain ⟨h, hm, rfl⟩ := List.mem_map.mp hy
  unfold bes at hm
  obtain ⟨r, hr, rfl⟩ := List.mem_map.mp hm
  obtain ⟨a', b', c', rfl, na, _, _⟩ := hr_form (List.all_eq_true.mp hh r (List.mem_filter.mp hr).1)
  obtain ⟨u, rfl⟩ := nm_str na
  rfl
theorem dueL_pr {ns hs gs : List D} (hh : hs.all (isHr ns) = true) (hg : gs.all isGr = true) : (dueL hs gs).all isPr = true := by
  rw [List.all_eq_true]
  intro y hy
  obtain ⟨l, hl, hy⟩ := List.mem_flatten.mp hy
  obtain ⟨g, hgm, rfl⟩ := List.mem_map.mp hl
  exact List.all_eq_true.mp (dueG_pr hh (List.all_eq_true.mp hg g hgm)) y hy
theorem due_loop {P : Env} {hp : List Cell} {ns : List D} {hs gs0 : List D} {w : D} (hh : hs.all (isHr ns) = true) (fh : hs.length ≤ 900) : ∀ (gs acc : List D) (s4 s5 s6 : Slot), Slot.open (some s4) = true → Slot.open (some s5) = true → Slot.open (some s6) = true → gs.all isGr = true → acc.length + 1000 * gs.length + 1000 < lim →
    ∃ t4 t5 t6 : Slot, forLoop (forTurn P (.tp [.nm 4, .nm 5]) (.cons (.expr (.mut (.sl 3) .z .app (.cons (.tup (.cons (.var 4) (.cons (.var 4) .nil))) .nil))) (.cons (.set 6 (.lc [7, 8, 9] (.tp [.nm 7, .nm 8, .nm 9]) (.seq (.peek (.sl 1))) (.cons (.op .in_ (.cons (.peek (.sl 4)) (.cons (.peek (.sl 9)) .nil))) .nil) (.var 7))) (.cons (.expr (.extF (.sl 3) (.lc [7] (.nm 7) (.seq (.peek (.sl 6))) .nil (.tup (.cons (.var 7) (.cons (.var 4) .nil)))))) .nil))) false) gs ⟨[.v (.d w), .v (.d (.list hs)), .v (.d (.list gs0)), .own (.o .z) (.list acc), s4, s5, s6, .non, .non, .non], hp⟩ =
      .nx ⟨[.v (.d w), .v (.d (.list hs)), .v (.d (.list gs0)), .own (.o .z) (.list (acc ++ dueL hs gs)), t4, t5, t6, .non, .non, .non], hp⟩
  | [], acc, s4, s5, s6, _, _, _, _, _ => ⟨s4, s5, s6, by simp [forLoop, dueL]⟩
  | g :: gs, acc, s4, s5, s6, o4, o5, o6, hg, hl => by
    rw [List.all_cons, Bool.and_eq_true] at hg
    rw [List.length_cons] at hl
    obtain ⟨t4, t5, t6, p4, p5, p6, e⟩ := due_turn (P := P) (hp := hp) (acc := acc) (w := w) (gs := gs0) o4 o5 o6 hh hg.1 fh (by omega)
    have h2 := bes_len hs (fst1 g)
    have h3 : (dueG hs g).length = (bes hs (fst1 g)).length + 1 := by unfold dueG; simp
    obtain ⟨u4, u5, u6, e2⟩ := due_loop (P := P) (hp := hp) (gs0 := gs0) (w := w) hh fh gs (acc ++ dueG hs g) t4 t5 t6 p4 p5 p6 hg.2 (by rw [List.length_append]; omega)
    refine ⟨u4, u5, u6, ?_⟩
    rw [forLoop, e]
    show forLoop _ gs _ = _
    rw [e2]
    simp [dueL]
theorem due_call {ns hs gs : List D} {hp : List Cell} (hj : fs[j]? = some ⟨10, 1, bDue⟩) (hh : hs.all (isHr ns) = true) (hg : gs.all isGr = true) (fh : hs.length ≤ 10) (fg : gs.length ≤ 10) :
    callF fs meth consts (k + 1) j [.d (wld hs gs)] hp = .ok (.d (.list (srt (dueL hs gs)))) hp := by
  obtain ⟨t4, t5, t6, e⟩ := due_loop (P := ⟨consts, callF fs meth consts k, callF fs meth consts (k - 1), meth⟩) (hp := hp) (gs0 := gs) (w := wld hs gs) hh (by omega) gs [] .non .non .non rfl rfl rfl hg (by unfold lim; simp; omega)
  have pr := dueL_pr hh hg
  have len := due_len hs gs
  have len2 : (dueL hs gs).length ≤ lim := lim_ge (by
    have : gs.length * (hs.length + 1) ≤ 10 * 11 := Nat.mul_le_mul fg (by omega)
    omega)
  have so := d_srt pr len2
  have fl0 : flats (dueL hs gs) = true := flats_of fun y hy => pr_flat (List.all_eq_true.mp pr y hy)
  have fl : flats (srt (dueL hs gs)) = true := flats_of fun y hy => pr_flat (List.all_eq_true.mp pr y (List.mem_mergeSort.mp hy))
  have nf := flats_noRfs fl0
  have mk := mkv_fl (t := 2) fl
  rw [List.nil_append] at e
  unfold wld at e
  rw [callF, hj]
  simp [noPk, bDue, wld, lim, e, so, nf, mk]
end
end EV
end
section
set_option Elab.async false
set_option linter.all false
set_option maxRecDepth 100000
set_option maxHeartbeats 4000000
set_option autoImplicit false
/-! K03B: the places, guest by guest, are the places -/
namespace EV
open PySem
def snd2 : D → D
  | .tuple [_, b] => b
  | d => d
theorem row_ord {gs : List D} {r : D} (h : isHr gs r = true) : rowP r = (ordOf r).map (fun x => .tuple [fst1 r, x]) ∧ (ordOf r).all isNm = true ∧ (ordOf r).Nodup ∧ ∀ x ∈ ordOf r, x ∈ gs := by
  obtain ⟨a, b, c, rfl, ha, _, ho⟩ := hr_form h
  obtain ⟨h1, h2, h3⟩ := or_iff.mp ho
  exact ⟨rfl, h1, h2, h3⟩
theorem nd_map {α β : Type} {f : α → β} (inj : ∀ a b, f a = f b → a = b) {l : List α} (h : l.Nodup) : (l.map f).Nodup := List.pairwise_map.mpr (h.imp fun n e => n (inj _ _ e))
section
variable {hs gs : List D}
theorem bes_mem {x h : D} (hx : isNm x = true) : h ∈ bes hs x ↔ ∃ r ∈ hs, x ∈ ordOf r ∧ h = fst1 r := by
  unfold bes
  rw [List.mem_map]
  constructor
  · rintro ⟨r, hr, rfl⟩
    obtain ⟨h1, h2⟩ := List.mem_filter.mp hr
    exact ⟨r, h1, (ind_nm hx).mp h2, rfl⟩
  · rintro ⟨r, h1, h2, rfl⟩
    exact ⟨r, List.mem_filter.mpr ⟨h1, (ind_nm hx).mpr h2⟩, rfl⟩
theorem due_mem (hg : gs.all isGr = true) {y : D} : y ∈ dueL hs gs ↔ ∃ x ∈ gs.map fst1, y = dup x ∨ ∃ r ∈ hs, x ∈ ordOf r ∧ y = .tuple [fst1 r, x] := by
  have nm := List.all_eq_true.mp (nms_plain hg).2
  unfold dueL
  rw [List.mem_flatten]
  constructor
  · rintro ⟨l, hl, hy⟩
    obtain ⟨g, hgm, rfl⟩ := List.mem_map.mp hl
    have hx : fst1 g ∈ gs.map fst1 := List.mem_map.mpr ⟨g, hgm, rfl⟩
    refine ⟨fst1 g, hx, ?_⟩
    rcases List.mem_cons.mp hy with rfl | hy
    · exact .inl rfl
    · obtain ⟨h, hh, rfl⟩ := List.mem_map.mp hy
      obtain ⟨r, h1, h2, rfl⟩ := (bes_mem (nm _ hx)).mp hh
      exact .inr ⟨r, h1, h2, rfl⟩
  · rintro ⟨x, hx, h⟩
    obtain ⟨g, hgm, rfl⟩ := List.mem_map.mp hx
    refine ⟨dueG hs g, List.mem_map.mpr ⟨g, hgm, rfl⟩, ?_⟩
    rcases h with rfl | ⟨r, h1, h2, rfl⟩
    · exact List.mem_cons_self
    · exact List.mem_cons_of_mem _ (List.mem_map.mpr ⟨fst1 r, (bes_mem (nm _ hx)).mpr ⟨r, h1, h2, rfl⟩, rfl⟩)
theorem plc_mem (hh : hs.all (isHr (gs.map fst1)) = true) {y : D} : y ∈ plcs hs gs ↔ ∃ x ∈ gs.map fst1, y = dup x ∨ ∃ r ∈ hs, x ∈ ordOf r ∧ y = .tuple [fst1 r, x] := by
  unfold plcs
  rw [List.mem_append, List.mem_map, List.mem_flatten]
  constructor
  · rintro (⟨g, hg, rfl⟩ | ⟨l, hl, hy⟩)
    · exact ⟨fst1 g, List.mem_map.mpr ⟨g, hg, rfl⟩, .inl rfl⟩
    · obtain ⟨r, hr, rfl⟩ := List.mem_map.mp hl
      obtain ⟨e, _, _, sub⟩ := row_ord (List.all_eq_true.mp hh r hr)
      rw [e] at hy
      obtain ⟨x, hx, rfl⟩ := List.mem_map.mp hy
      exact ⟨x, sub x hx, .inr ⟨r, hr, hx, rfl⟩⟩
  · rintro ⟨x, hx, rfl | ⟨r, hr, h2, rfl⟩⟩
    · obtain ⟨g, hg, rfl⟩ := List.mem_map.mp hx
      exact .inl ⟨g, hg, rfl⟩
    · obtain ⟨e, _, _, _⟩ := row_ord (List.all_eq_true.mp hh r hr)
      exact .inr ⟨rowP r, List.mem_map.mpr ⟨r, hr, rfl⟩, by rw [e]; exact List.mem_map.mpr ⟨x, h2, rfl⟩⟩
theorem dup_inj : ∀ a b : D, dup a = dup b → a = b := fun a b e => by
  unfold dup at e
  injection e with e
  injection e
theorem rows_nd {ns : List D} : ∀ {hs : List D}, hs.all (isHr ns) = true → (hs.map fst1).Nodup → (hs.map rowP).flatten.Nodup ∧ ∀ y ∈ (hs.map rowP).flatten, fst1 y ∈ hs.map fst1
  | [], _, _ => ⟨List.nodup_nil, fun y h => nomatch h⟩
  | r :: hs, hh, nd => by
    rw [List.all_cons, Bool.and_eq_true] at hh
    rw [List.map_cons, List.nodup_cons] at nd
    obtain ⟨i1, i2⟩ := rows_nd hh.2 nd.2
    obtain ⟨e, _, n1, _⟩ := row_ord hh.1
    have f1 : ∀ y ∈ rowP r, fst1 y = fst1 r := fun y hy => by
      rw [e] at hy
      obtain ⟨x, _, rfl⟩ := List.mem_map.mp hy
      rfl
    rw [List.map_cons, List.flatten_cons]
    refine ⟨List.nodup_append.mpr ⟨?_, i1, fun a ha b hb q => ?_⟩, fun y hy => ?_⟩
    · rw [e]
      exact nd_map (fun a b q => by injection q with q; injection q with _ q; injection q) n1
    · subst q
      exact nd.1 (by rw [← f1 a ha]; exact i2 a hb)
    · rw [List.map_cons]
      rcases List.mem_append.mp hy with h | h
      · rw [f1 y h]; exact List.mem_cons_self
      · exact List.mem_cons_of_mem _ (i2 y h)
theorem plcs_nd (hh : hs.all (isHr (gs.map fst1)) = true) (nd : (gs.map fst1 ++ hs.map fst1).Nodup) : (plcs hs gs).Nodup := by
  obtain ⟨n1, n2, n3⟩ := List.nodup_append.mp nd
  obtain ⟨r1, r2⟩ := rows_nd hh n2
  unfold plcs
  have e : gs.map (fun g => dup (fst1 g)) = (gs.map fst1).map dup := by rw [List.map_map]; rfl
  rw [e]
  refine List.nodup_append.mpr ⟨nd_map dup_inj n1, r1, fun a ha b hb q => ?_⟩
  subst q
  obtain ⟨x, hx, rfl⟩ := List.mem_map.mp ha
  exact n3 x hx x (r2 _ hb) rfl
theorem dues_nd (hsn : (hs.map fst1).Nodup) : ∀ {gs : List D}, gs.all isGr = true → (gs.map fst1).Nodup → (∀ x ∈ gs.map fst1, x ∉ hs.map fst1) → (dueL hs gs).Nodup ∧ ∀ y ∈ dueL hs gs, snd2 y ∈ gs.map fst1
  | [], _, _, _ => ⟨List.nodup_nil, fun y h => nomatch h⟩
  | g :: gs, hg, nd, ds => by
    rw [List.all_cons, Bool.and_eq_true] at hg
    rw [List.map_cons, List.nodup_cons] at nd
    obtain ⟨i1, i2⟩ := dues_nd hsn hg.2 nd.2 fun x hx => ds x (List.mem_cons_of_mem _ hx)
    have s1 : ∀ y ∈ dueG hs g, snd2 y = fst1 g := fun y hy => by
      rcases List.mem_cons.mp hy with rfl | hy
      · rfl
      · obtain ⟨h, _, rfl⟩ := List.mem_map.mp hy
        rfl
    have bs : (bes hs (fst1 g)).Nodup ∧ ∀ h ∈ bes hs (fst1 g), h ∈ hs.map fst1 := by
      have sub : List.Sublist (bes hs (fst1 g)) (hs.map fst1) := List.Sublist.map _ List.filter_sublist
      exact ⟨hsn.sublist sub, fun h m => sub.subset m⟩
    have e : dueL hs (g :: gs) = dueG hs g ++ dueL hs gs := by unfold dueL; simp
    rw [e]
    refine ⟨List.nodup_append.mpr ⟨List.nodup_cons.mpr ⟨fun m => ?_, nd_map (fun a b q => by injection q with q; injection q) bs.1⟩, i1, fun a ha b hb q => ?_⟩, fun y hy => ?_⟩
    · obtain ⟨h, hm, q⟩ := List.mem_map.mp m
      unfold dup at q
      injection q with q
      injection q with q
      exact ds (fst1 g) List.mem_cons_self (by rw [← q]; exact bs.2 h hm)
    · subst q
      exact nd.1 (by rw [← s1 a ha]; exact i2 a hb)
    · rw [List.map_cons]
      rcases List.mem_append.mp hy with h | h
      · rw [s1 y h]; exact List.mem_cons_self
      · exact List.mem_cons_of_mem _ (i2 y h)
theorem due_perm (hg : gs.all isGr = true) (hh : hs.all (isHr (gs.map fst1)) = true) (nd : (gs.map fst1 ++ hs.map fst1).Nodup) : (dueL hs gs).Perm (plcs hs gs) := by
  obtain ⟨n1, n2, n3⟩ := List.nodup_append.mp nd
  have d := (dues_nd n2 hg n1 fun x hx hy => n3 x hx x hy rfl).1
  exact (List.perm_ext_iff_of_nodup d (plcs_nd hh nd)).mpr fun y => (due_mem hg).trans (plc_mem hh).symm
end
end EV
end
section
set_option Elab.async false
set_option linter.all false
set_option maxRecDepth 100000
set_option maxHeartbeats 4000000
set_option autoImplicit false
/-! K03C: a world in other orders -/
namespace EV
open PySem
/-- a row with another room, its order otherwise -/
def Rr (x y : D) : Prop := ∃ (a : D) (b : Int) (c : List D) (q : Int) (c' : List D), x = .tuple [a, .int b, .list c] ∧ y = .tuple [a, .int q, .list c'] ∧ c'.Perm c ∧ 0 ≤ q ∧ q < 4
theorem rr_hr {ns ns' : List D} {x y : D} (h : Rr x y) (hx : isHr ns x = true) (sub : ∀ u ∈ ns, u ∈ ns') : isHr ns' y = true ∧ fst1 y = fst1 x ∧ ∀ u, u ∈ ordOf y ↔ u ∈ ordOf x := by
  obtain ⟨a, b, c, q, c', rfl, rfl, p, q0, _⟩ := h
  rw [isHr, Bool.and_eq_true, Bool.and_eq_true] at hx
  obtain ⟨ha, _, ho⟩ := hx
  obtain ⟨h1, h2, h3⟩ := or_iff.mp ho
  refine ⟨?_, rfl, fun u => p.mem_iff⟩
  have h1' : c'.all isNm = true := List.all_eq_true.mpr fun u hu => List.all_eq_true.mp h1 u (p.mem_iff.mp hu)
  rw [isHr, ha, or_iff.mpr ⟨h1', p.nodup_iff.mpr h2, fun u hu => sub u (h3 u (p.mem_iff.mp hu))⟩]
  simp [isCt, q0]
theorem mixed_world {hs gs hs1 hs' gs' : List D} (hg : gs.all isGr = true) (hh : hs.all (isHr (gs.map fst1)) = true) (nd : (gs.map fst1 ++ hs.map fst1).Nodup) (m1 : hs1.map fst1 = hs.map fst1) (m2 : ∀ r1 ∈ hs1, ∃ r ∈ hs, Rr r r1) (m3 : ∀ r ∈ hs, ∃ r1 ∈ hs1, Rr r r1) (p1 : hs'.Perm hs1) (p2 : gs'.Perm gs) :
    gs'.all isGr = true ∧ hs'.all (isHr (gs'.map fst1)) = true ∧ (gs'.map fst1 ++ hs'.map fst1).Nodup ∧ (plcs hs' gs').Perm (plcs hs gs) := by
  have pg := p2.map fst1
  have ph := p1.map fst1
  rw [m1] at ph
  have g' : gs'.all isGr = true := List.all_eq_true.mpr fun u hu => List.all_eq_true.mp hg u (p2.mem_iff.mp hu)
  have sub : ∀ u ∈ gs.map fst1, u ∈ gs'.map fst1 := fun u hu => pg.mem_iff.mpr hu
  have h' : hs'.all (isHr (gs'.map fst1)) = true := List.all_eq_true.mpr fun u hu => by
    obtain ⟨r, hr, rr⟩ := m2 u (p1.mem_iff.mp hu)
    exact (rr_hr rr (List.all_eq_true.mp hh r hr) sub).1
  have nd' : (gs'.map fst1 ++ hs'.map fst1).Nodup := (List.Perm.append pg ph).nodup_iff.mpr nd
  refine ⟨g', h', nd', (List.perm_ext_iff_of_nodup (plcs_nd h' nd') (plcs_nd hh nd)).mpr fun y => ?_⟩
  rw [plc_mem h', plc_mem hh]
  constructor
  · rintro ⟨x, hx, h⟩
    refine ⟨x, pg.mem_iff.mp hx, h.imp id ?_⟩
    rintro ⟨r', hr', ho, rfl⟩
    obtain ⟨r, hr, rr⟩ := m2 r' (p1.mem_iff.mp hr')
    obtain ⟨_, e, o⟩ := rr_hr rr (List.all_eq_true.mp hh r hr) sub
    exact ⟨r, hr, (o x).mp ho, by rw [e]⟩
  · rintro ⟨x, hx, h⟩
    refine ⟨x, pg.mem_iff.mpr hx, h.imp id ?_⟩
    rintro ⟨r, hr, ho, rfl⟩
    obtain ⟨r1, hr1, rr⟩ := m3 r hr
    obtain ⟨_, e, o⟩ := rr_hr rr (List.all_eq_true.mp hh r hr) sub
    exact ⟨r1, p1.mem_iff.mpr hr1, (o x).mpr ho, by rw [e]⟩
end EV
end
section
set_option Elab.async false
set_option linter.all false
set_option maxRecDepth 100000
set_option maxHeartbeats 4000000
set_option autoImplicit false
set_option pp.maxSteps 400
/-! K03P: k03 is true -/
namespace K03
open PySem EV
abbrev P15 : EV.Env := ⟨consts, callF tab meths consts 15, callF tab meths consts 14, meths⟩
theorem prs_small {L : List D} (h : ∀ y ∈ L, ∃ a b, y = .tuple [a, b] ∧ a ∈ base ∧ b ∈ base) (hl : L.length ≤ 100) : okD 100 (.list L) = true ∧ wt (.list L) ≤ 1000000 ∧ (PyData.list L).depth ≤ 64 := by
  have g : ∀ y ∈ L, okD 100 y = true ∧ wt y ≤ 90 ∧ y.depth ≤ 1 := fun y hy => by
    obtain ⟨a, b, rfl, ha, hb⟩ := h y hy
    obtain ⟨_, a1, a2, a3⟩ := base_ok a ha
    obtain ⟨_, b1, b2, b3⟩ := base_ok b hb
    refine ⟨ok_tup.mpr ⟨by simp, fun z hz => ?_⟩, ?_, ?_⟩
    · simp only [List.mem_cons, List.not_mem_nil, or_false] at hz
      rcases hz with rfl | rfl
      · exact okD_mono (by omega) _ a1
      · exact okD_mono (by omega) _ b1
    · simp only [wt, wtAll]; omega
    · simp only [PyData.depth, PyData.depthAll, a3, b3]; omega
  have w := wt_all fun x hx => (g x hx).2.1
  have d1 : PyData.depthAll L ≤ 1 := dp_le.mpr fun x hx => (g x hx).2.2
  refine ⟨ok_list.mpr ⟨hl, fun x hx => (g x hx).1⟩, ?_, ?_⟩
  · simp only [wt]; omega
  · simp only [PyData.depth]; omega
theorem Ea.map2 {R : D → D → Prop} {f g : D → D} {xs ys : List D} (h : Ea R xs ys) (hp : ∀ x y, R x y → f y = g x) : ys.map f = xs.map g := by
  induction h with
  | nil => rfl
  | cons r _ ih => rw [List.map_cons, List.map_cons, hp _ _ r, ih]
theorem Ea.left {R : D → D → Prop} {xs ys : List D} (h : Ea R xs ys) : ∀ x ∈ xs, ∃ y ∈ ys, R x y := by
  induction h with
  | nil => intro x hx; cases hx
  | cons r _ ih =>
    intro x hx
    rcases List.mem_cons.mp hx with rfl | hx
    · exact ⟨_, List.mem_cons_self, r⟩
    · obtain ⟨y, hy, e⟩ := ih x hx
      exact ⟨y, List.mem_cons_of_mem _ hy, e⟩
theorem Ea.right {R : D → D → Prop} {xs ys : List D} (h : Ea R xs ys) : ∀ y ∈ ys, ∃ x ∈ xs, R x y := by
  induction h with
  | nil => intro x hx; cases hx
  | cons r _ ih =>
    intro x hx
    rcases List.mem_cons.mp hx with rfl | hx
    · exact ⟨_, List.mem_cons_self, r⟩
    · obtain ⟨y, hy, e⟩ := ih x hx
      exact ⟨y, List.mem_cons_of_mem _ hy, e⟩
theorem w_ok {hs gs : List D} {hp : List Cell} (fh : hs.length ≤ 900) (fg : gs.length ≤ 900) (few : ∀ x ∈ hs, Few x) (hw : isWd (wld hs gs) = true) : callF tab meths consts 15 7 [.w (wld hs gs)] hp = .ok (.d (.list (srt (plcs hs gs)))) hp := by
  have e := world_callW (k := 9) (fs := tab) (meth := meths) (consts := consts) (j := 5) (gr := 2) (hr := 4) (n := 1) (ct := 0) (o := 3) (gl := 0) (gm := 1) (hp := hp) rfl rfl rfl rfl rfl rfl rfl rfl (by omega) (by omega) few hw
  have n := need_okW (fs := tab) (meth := meths) (consts := consts) (j := 6) (k := 13) rfl e
  exact places_callW (fs := tab) (meth := meths) (consts := consts) (j := 7) (k := 14) rfl n hw (by omega) (by omega) few
theorem d_ok {hs gs : List D} {hp : List Cell} (t : Wok hs gs) (hw : isWd (wld hs gs) = true) : callF tab meths consts 15 7 [.d (wld hs gs)] hp = .ok (.d (.list (srt (plcs hs gs)))) hp := by
  have e := world_call (k := 9) (fs := tab) (meth := meths) (consts := consts) (j := 5) (gr := 2) (hr := 4) (n := 1) (ct := 0) (o := 3) (gl := 0) (gm := 1) (hp := hp) rfl rfl rfl rfl rfl rfl rfl rfl (by have := t.fh; omega) t.fg t.sg t.sh
  have hw' := hw
  unfold wld at hw'
  rw [hw'] at e
  have n := need_ok (fs := tab) (meth := meths) (consts := consts) (j := 6) (k := 13) rfl e
  exact places_callN (fs := tab) (meth := meths) (consts := consts) (j := 7) (k := 14) rfl n hw t.fh t.fg t.few
theorem draw {m : Int} {n : Nat} {d : D} (ho : PotOk n d) (hn : n < 2 ^ 58) (h0 : 0 < m) (h1 : m < 2 ^ 30) : ∃ (r : Int) (d' : D), 0 ≤ r ∧ r < m ∧ PotOk (n + 1) d' ∧ callF tab meths consts 15 9 [.r 0, .d (.int m)] [pc d] = .ok (.d (.int r)) [pc d'] := draw_call (k := 14) rfl ho hn h0 h1
theorem mixed {G : List D} {n : Nat} {d : D} (hG0 : noRfs G = true) (hG : G.length ≤ 1000) (hn : n < 2 ^ 57 + 10) (ho : PotOk n d) : ∃ ys d', ys.Perm G ∧ PotOk (n + 1000) d' ∧ callF tab meths consts 15 13 [.r 0, .d (.list G)] [pc d] = .ok (.d (.list ys)) [pc d'] := mixed_call (k := 13) (fs := tab) (sc := 9) (j := 13) rfl rfl hG0 hG hn ho
theorem Town.Wok {hs gs : List D} (t : Town hs gs) : Wok hs gs := ⟨by have := t.fh; omega, by have := t.fg; omega, fun x hx => gr_sm (List.all_eq_true.mp t.gr x hx), fun x hx => by
  obtain ⟨a, b, c, rfl, ha, hb, cl, _, hc⟩ := t.house hx
  intro a' b' c' e
  injection e with e
  simp only [List.cons.injEq, and_true] at e
  obtain ⟨rfl, _, rfl⟩ := e
  exact ⟨nm_sm (base_ok _ ha).1, fun xs e => by
    injection e with e
    subst e
    exact ⟨by omega, fun y hy => nm_sm (base_ok y (hc y hy).2).1⟩⟩⟩
theorem town_prs {hs gs : List D} (t : Town hs gs) : (srt (plcs hs gs)).all isPr = true ∧ okD 100 (.list (srt (plcs hs gs))) = true ∧ wt (.list (srt (plcs hs gs))) ≤ 1000000 ∧ (PyData.list (srt (plcs hs gs))).depth ≤ 64 ∧ (srt (plcs hs gs)).length ≤ 100 := by
  have p := due_perm t.gr t.hr t.nd
  have l1 := due_len hs gs
  have l2 : gs.length * (hs.length + 1) ≤ 9 * 10 := Nat.mul_le_mul t.fg (by have := t.fh; omega)
  have l3 : (srt (plcs hs gs)).length ≤ 100 := by
    rw [srt_mem.length_eq, ← p.length_eq]; omega
  have pr : (srt (plcs hs gs)).all isPr = true := srt_pr (plcs_pr t.hr t.gr)
  obtain ⟨h1, h2, h3⟩ := prs_small (L := srt (plcs hs gs)) (fun y hy => by
    obtain ⟨x, hx, h⟩ := (plc_mem t.hr).mp (srt_mem.mem_iff.mp hy)
    have xb := t.nm x (List.mem_append_left _ hx)
    rcases h with rfl | ⟨r, hr, _, rfl⟩
    · exact ⟨x, x, rfl, xb, xb⟩
    · exact ⟨_, _, rfl, t.nm _ (List.mem_append_right _ (List.mem_map.mpr ⟨r, hr, rfl⟩)), xb⟩) l3
  exact ⟨pr, h1, h2, h3, l3⟩
def lBody : CSs := ss [
    (.set 3 (.call 12 (cs [(.var 1), (.op .idx (cs [(.lst (cs [(.kst (.int 3)), (.kst (.int 9))])), (.call 9 (cs [(.var 1), (.kst (.int 2))]))]))]))),
    (.set 4 (.call 14 (cs [(.var 3)]))),
    (.set 5 (.op .repr (cs [(.peek (.sl 3))]))),
    (.setO 6 (.o .z) (.dd (.call 7 (cs [(.var 3)])))),
    (.ite (.or (.not (.op (.isinst .list) (cs [(.peek (.sl 6))]))) (.op .ne (cs [(.op .repr (cs [(.peek (.sl 6))])), (.op .repr (cs [(.peek (.sl 4))]))]))) (ss [
      (.ret (.kst (.bool false)))]) (ss [])),
    (.expr (.mut (.sl 6) .z .app (cs [(.tup (cs [(.kst (.str "a")), (.kst (.str "a"))]))]))),
    (.expr (.mut (.sl 6) .z .rev (cs []))),
    (.ite (.or (.op .ne (cs [(.frz (.call 7 (cs [(.var 3)]))), (.peek (.sl 4))])) (.op .ne (cs [(.op .repr (cs [(.peek (.sl 3))])), (.peek (.sl 5))]))) (ss [
      (.ret (.kst (.bool false)))]) (ss [])),
    (.set 7 (.lc [8, 9, 10] (.tp [(.nm 8), (.nm 9), (.nm 10)]) (.seq (.op .idx (cs [(.peek (.sl 3)), (.kst (.int 0))]))) (cs []) (.tup (cs [(.var 8), (.call 9 (cs [(.var 1), (.kst (.int 4))])), (.frz (.call 13 (cs [(.var 1), (.var 10)])))])))),
    (.setO 11 (.o (.o .z)) (.tupN (cs [(.dd (.call 13 (cs [(.var 1), (.var 7)]))), (.dd (.call 13 (cs [(.var 1), (.op .idx (cs [(.peek (.sl 3)), (.kst (.int 1))]))])))]))),
    (.set 12 (.frz (.call 7 (cs [(.peek (.sl 11))])))),
    (.expr (.mut (.ix (.sl 11) (.kst (.int 0))) .z .clr (cs []))),
    (.expr (.mut (.ix (.sl 11) (.kst (.int 1))) .z .clr (cs []))),
    (.ite (.or (.op .ne (cs [(.peek (.sl 12)), (.peek (.sl 4))])) (.op .ne (cs [(.frz (.call 7 (cs [(.peek (.sl 11))]))), (.lst (cs []))]))) (ss [
      (.ret (.kst (.bool false)))]) (ss []))]
/-- the slots at a lap's end -/
def St (v0 : Vl) (n : Nat) (s : Ste) : Prop := ∃ (d : D) (s2 s3 s4 s5 s6 s7 s11 s12 : Slot), PotOk n d ∧ Slot.open (some s2) = true ∧ Slot.open (some s3) = true ∧ Slot.open (some s4) = true ∧ Slot.open (some s5) = true ∧ Slot.open (some s6) = true ∧ Slot.open (some s7) = true ∧ Slot.open (some s11) = true ∧ Slot.open (some s12) = true ∧ s = ⟨[.v v0, .v (.r 0), s2, s3, s4, s5, s6, s7, .non, .non, .non, s11, s12], [pc d]⟩
theorem lap {v0 : Vl} {n : Nat} {s : Ste} {y : D} (h : St v0 n s) (hn : n < 2 ^ 50) : ∃ s', EV.forTurn P15 (.nm 2) lBody false y s = .nx s' ∧ St v0 (n + 30000) s' := by
  obtain ⟨d, s2, s3, s4, s5, s6, s7, s11, s12, ho, o2, o3, o4, o5, o6, o7, o11, o12, rfl⟩ := h
  obtain ⟨r, d1, z1, q1, p1, e1⟩ := draw (m := 2) ho (by omega) (by decide) (by decide)
  obtain ⟨most, m0, m9, em⟩ : ∃ m : Int, 0 ≤ m ∧ m ≤ 9 ∧ nth [PyData.int 3, .int 9] r = some (.int m) := by
    have : r = 0 ∨ r = 1 := by omega
    rcases this with rfl | rfl
    · exact ⟨3, by decide, by decide, rfl⟩
    · exact ⟨9, by decide, by decide, rfl⟩
  obtain ⟨hs, gs, d2, T, p2, e2⟩ := town_call (k := 12) (fs := tab) (meth := meths) (consts := consts) (j := 12) (sc := 9) (nm := 10) (dr := 11) rfl rfl rfl rfl m0 m9 p1 (by omega)
  have e2 : callF tab meths consts 15 12 [.r 0, .d (.int most)] [pc d1] = .ok (.d (wld hs gs)) [pc d2] := e2
  obtain ⟨w1, w2, w3⟩ := T.small
  have hh : hs.length ≤ 9 := T.fh
  have hg : gs.length ≤ 9 := T.fg
  have e3 := due_call (k := 14) (fs := tab) (meth := meths) (consts := consts) (j := 14) (hp := [pc d2]) rfl T.hr T.gr (by omega) (by omega)
  have e3 : callF tab meths consts 15 14 [.d (wld hs gs)] [pc d2] = .ok (.d (.list (srt (dueL hs gs)))) [pc d2] := e3
  rw [srt_perm (dueL_pr T.hr T.gr) (due_perm T.gr T.hr T.nd)] at e3
  have e4 := fun d => d_ok (hp := [pc d]) (Town.Wok T) T.wd
  obtain ⟨g1, g2, g3, g4, g5⟩ := town_prs T
  have rp := d_repr g2 g4 g3
  have rw1 := d_repr w1 (by omega) (by omega)
  have nes : ∀ z : Str, fNe [.str z, .str z] = some (.bool false) := fun z => by rw [d_nes]; simp
  have nel := ne_self (pl_prs g1)
  have fl : flats (srt (plcs hs gs)) = true := flats_of fun y hy => pr_flat (List.all_eq_true.mp g1 y hy)
  have nf := flats_noRfs fl
  have gl : (srt (plcs hs gs)).length < 1000000 := by omega
  have nhs : noRfs hs = true := noRfs_of fun z hz => hr_noRf (List.all_eq_true.mp T.hr z hz)
  have ngs : noRfs gs = true := noRfs_of fun z hz => by
    obtain ⟨a, b, rfl, _⟩ := gr_form (List.all_eq_true.mp T.gr z hz)
    rfl
  -- the rows with other rooms, orders mixed
  generalize hL : srt (plcs hs gs) = L at *
  obtain ⟨hs1, d3, ea, p3, e5⟩ := lcLoop_ex (R := Rr) (c := 1001) (st := fun d => ⟨[.v v0, .v (.r 0), .v (.d y), .v (.d (wld hs gs)), .v (.d (.list L)), .v (.d (.str (wld hs gs).shown)), .own (.o .z) (.list (.tuple [.str "a", .str "a"] :: L.reverse)), s7, .non, .non, .non, s11, s12], [pc d]⟩)
    (turn := lcTurn P15 [8, 9, 10] (.tp [.nm 8, .nm 9, .nm 10]) .nil (.tup (.cons (.var 8) (.cons (.call 9 (.cons (.var 1) (.cons (.kst (.int 4)) .nil))) (.cons (.frz (.call 13 (.cons (.var 1) (.cons (.var 10) .nil)))) .nil)))) false) hs [] (n + 1 + 10000) d2 (fun x n d hx h ho => by
      obtain ⟨a, b, c, rfl, ha, hb, cl, _, hc⟩ := T.house hx
      obtain ⟨q, d', q0, q1, o, e⟩ := draw (m := 4) ho (by omega) (by decide) (by decide)
      have nc : noRfs c = true := nms_noRf (List.all_eq_true.mpr fun y hy => (base_ok y (hc y hy).2).1)
      obtain ⟨c', d'', pm, o', e'⟩ := mixed nc (by omega) (by omega) o
      have nc' : noRfs c' = true := noRfs_of fun y hy => noRfs_mem nc y (pm.mem_iff.mp hy)
      exact ⟨_, d'', ⟨a, b, c, q, c', rfl, rfl, pm, q0, q1⟩, o', by simp -implicitDefEqProofs [lcTurn, e, e', nc', lim]⟩) (by omega) p2
  have l1 : hs1.length = hs.length := ea.len
  have m1 : hs1.map fst1 = hs.map fst1 := Ea.map2 ea fun x y ⟨a, b, c, q, c', e1, e2, _⟩ => by rw [e1, e2]; rfl
  have m2 := Ea.right ea
  have m3 := Ea.left ea
  have sub : ∀ u ∈ gs.map fst1, u ∈ gs.map fst1 := fun u h => h
  have h1r : ∀ z ∈ hs1, isHr (gs.map fst1) z = true := fun z hz => by
    obtain ⟨x, hx, rr⟩ := m2 z hz
    exact (rr_hr rr (List.all_eq_true.mp T.hr x hx) sub).1
  have nh1 : noRfs hs1 = true := noRfs_of fun z hz => hr_noRf (h1r z hz)
  obtain ⟨hs', d4, pm1, p4, e6⟩ := mixed nh1 (by omega) (by omega) p3
  obtain ⟨gs', d5, pm2, p5, e7⟩ := mixed ngs (by omega) (by omega) p4
  obtain ⟨k1, k2, k3, k4⟩ := mixed_world T.gr T.hr T.nd m1 m2 m3 pm1 pm2
  have lh : hs'.length ≤ 9 := by rw [pm1.length_eq]; omega
  have lg : gs'.length ≤ 9 := by rw [pm2.length_eq]; omega
  have few : ∀ x ∈ hs', Few x := fun x hx => by
    obtain ⟨z, hz, a, b, c, q, c', rfl, rfl, pm, _⟩ := m2 x (pm1.mem_iff.mp hx)
    obtain ⟨a', b', c'', e, _, _, cl, _⟩ := T.house hz
    injection e with e
    simp only [List.cons.injEq, and_true] at e
    obtain ⟨_, _, e⟩ := e
    injection e with e
    intro a2 b2 c2 e2
    injection e2 with e2
    simp only [List.cons.injEq, and_true] at e2
    obtain ⟨_, _, e2⟩ := e2
    injection e2 with e2
    rw [← e2, pm.length_eq, e]
    omega
  have e8 := w_ok (hp := [pc d5]) (by omega) (by omega) few (wd_iff.mpr ⟨k1, k2, k3⟩)
  rw [srt_perm (plcs_pr k2 k1) k4, hL] at e8
  have nh' : noRfs hs' = true := noRfs_of fun z hz => hr_noRf (List.all_eq_true.mp k2 z hz)
  have ng' : noRfs gs' = true := noRfs_of fun z hz => noRfs_mem ngs z (pm2.mem_iff.mp hz)
  have e9 := w_ok (hs := []) (gs := []) (hp := [pc d5]) (by simp) (by simp) (fun x h => nomatch h) (by decide)
  have e9 : callF tab meths consts 15 7 [.w (.tuple [.list [], .list []])] [pc d5] = .ok (.d (.list [])) [pc d5] := by
    rw [show srt (plcs [] []) = [] by simp [plcs, srt]] at e9
    exact e9
  have n0 : nth [PyData.list hs, .list gs] 0 = some (.list hs) := rfl
  have n1 : nth [PyData.list hs, .list gs] 1 = some (.list gs) := rfl
  have n2 : fNe [.list [], .list []] = some (.bool false) := ne_nil []
  have c1 : hs1.length ≤ 1000000 := by omega
  unfold wld at *
  refine ⟨_, ?_, d5, .v (.d y), .v (.d (.tuple [.list hs, .list gs])), .v (.d (.list L)), .v (.d (.str (PyData.tuple [.list hs, .list gs]).shown)), .own (.o .z) (.list (.tuple [.str "a", .str "a"] :: L.reverse)), .v (.d (.list hs1)), .own (.o (.o .z)) (.tuple [.list [], .list []]), .v (.d (.list L)), p5.mono (by omega), rfl, rfl, rfl, rfl, rfl, rfl, rfl, rfl, rfl⟩
  simp -implicitDefEqProofs [-bi_nm, bi_open, EV.forTurn, lBody, o2, o3, o4, o5, o6, o7, o11, o12, e1, em, e2, e3, e4, rw1, isTy, nf, rp, nes, nel, mApp, gl, mRev, lim, n0, n1, e5, c1, e6, e7, nhs, ngs, nh', ng', e8, e9, n2, Ste.kid, nav, setAt, kidSh, kids, setKid, kidLc, kidLc.noHole, ixOf, L2.ixN, atom, mClr]
theorem law_true (ns : List Int) (hl : ns.length ≤ 63) : ∃ hp', callF tab meths consts 16 15 [.d (.list (ns.map .int))] [] = .ok (.d (.bool true)) hp' := by
  obtain ⟨d0, o0, e0⟩ := potA_call (fs := tab) (meth := meths) (j := 8) (k := 14) (consts := consts) rfl ns
  have e0 : callF tab meths consts 15 8 [.d (.list (ns.map .int))] [] = .ok (.r 0) [pc d0] := e0
  obtain ⟨s', e1, _⟩ := forLoop_invB (turn := EV.forTurn P15 (.nm 2) lBody false) (fun j s => St (.d (.list (ns.map .int))) (30000 * j) s) 4 (iran 0 4) 0 ⟨[.v (.d (.list (ns.map .int))), .v (.r 0), .non, .non, .non, .non, .non, .non, .non, .non, .non, .non, .non], [pc d0]⟩ (by rw [iran_len]; decide) (fun j x s _ hj h => by
    obtain ⟨s', e, h'⟩ := lap (y := x) h (by omega)
    exact ⟨s', e, by rw [Nat.mul_add]; exact h'⟩) ⟨d0, .non, .non, .non, .non, .non, .non, .non, .non, o0, rfl, rfl, rfl, rfl, rfl, rfl, rfl, rfl, rfl⟩
  have rg : rngItems [.int 4] = some (iran 0 4) := by rw [rng_lt (by decide) (by decide)]; rfl
  refine ⟨s'.hp, ?_⟩
  simp only [lBody, cs_cons, cs_nil, ss_cons, ss_nil] at e1
  rw [callF, show tab[15]? = some ⟨13, 1, b15⟩ from rfl]
  simp [noPk, b15, e0, rg, e1]
end K03
end
set_option Elab.async false
set_option linter.all false
set_option maxRecDepth 100000
open PySem PySem.W PyProof.Rows
set_option maxHeartbeats 0 in
theorem PySem.Challenge.cw_heardahead_k03_places_told_holds : PySem.Challenge.rw_heardahead_k03_places_told.Holds := by
  w_on; o_law; k_head; (case hw => w_witness2)
  k_fill
  refine EV.walk_ofG (l := PySem.Challenge.rw_heardahead_k03_places_told) (n := 63) (k := 16) (x := "_law_script") (CX := fun w => L2.CX PySem.Challenge.rw_heardahead_k03_places_told.prog w) (sp := fun w => EV.spX _ EV.Z0 K03.exnames (EV.callF K03.tab K03.meths K03.consts 16 15)) rfl (by decide) rfl ⟨rfl, by decide, by decide⟩ (fun w h Y => PySem.W.kIn_of Y) ?F (fun w H a ns hl hS => EV.law_pr K03.law_true H a ns hl hS) (fun _ _ _ _ _ h => EV.no_exc h)
  case F =>
    intro w mg fa h KX G hmg
    refine' K03.all_mk KX G hmg ?h_a0 ?h_l0 ?h_c0 ?h_k0 ?h_a1 ?h_l1 ?h_c1 ?h_k1 ?h_a2 ?h_l2 ?h_c2 ?h_k2 ?h_a3 ?h_l3 ?h_c3 ?h_k3 ?h_a4 ?h_l4 ?h_c4 ?h_k4 ?h_a5 ?h_l5 ?h_c5 ?h_k5 ?h_a6 ?h_l6 ?h_c6 ?h_k6 ?h_a7 ?h_l7 ?h_c7 ?h_k7 ?h_a8 ?h_l8 ?h_c8 ?h_k8 ?h_a9 ?h_l9 ?h_c9 ?h_k9 ?h_a10 ?h_l10 ?h_c10 ?h_k10 ?h_a11 ?h_l11 ?h_c11 ?h_k11 ?h_a12 ?h_l12 ?h_c12 ?h_k12 ?h_a13 ?h_l13 ?h_c13 ?h_k13 ?h_a14 ?h_l14 ?h_c14 ?h_k14 ?h_a15 ?h_l15 ?h_c15 ?h_k15 ?h_g0 ?h_g1 ?h_z0 ?h_z1 ?h_z2 ?h_z3 ?h_z4 ?h_z5 ?h_z6 ?h_z7 ?h_z8 ?h_z9 ?h_z10 ?h_z11 ?h_z12 ?h_z13 ?h_z14 ?h_ea0 ?h_ex0 ?h_ek0 ?h_es0 ?h_et0
    (case h_a0 => k_is); (case h_l0 => k_is); (case h_c0 => k_is); (case h_k0 => k_is); (case h_a1 => k_is); (case h_l1 => k_is); (case h_c1 => k_is); (case h_k1 => k_is); (case h_a2 => k_is); (case h_l2 => k_is); (case h_c2 => k_is); (case h_k2 => k_is); (case h_a3 => k_is); (case h_l3 => k_is); (case h_c3 => k_is); (case h_k3 => k_is); (case h_a4 => k_is); (case h_l4 => k_is); (case h_c4 => k_is); (case h_k4 => k_is); (case h_a5 => k_is); (case h_l5 => k_is); (case h_c5 => k_is); (case h_k5 => k_is); (case h_a6 => k_is); (case h_l6 => k_is); (case h_c6 => k_is); (case h_k6 => k_is); (case h_a7 => k_is); (case h_l7 => k_is); (case h_c7 => k_is); (case h_k7 => k_is); (case h_a8 => k_is); (case h_l8 => k_is); (case h_c8 => k_is); (case h_k8 => k_is); (case h_a9 => k_is); (case h_l9 => k_is); (case h_c9 => k_is); (case h_k9 => k_is); (case h_a10 => k_is); (case h_l10 => k_is); (case h_c10 => k_is); (case h_k10 => k_is); (case h_a11 => k_is); (case h_l11 => k_is); (case h_c11 => k_is); (case h_k11 => k_is); (case h_a12 => k_is); (case h_l12 => k_is); (case h_c12 => k_is); (case h_k12 => k_is); (case h_a13 => k_is); (case h_l13 => k_is); (case h_c13 => k_is); (case h_k13 => k_is); (case h_a14 => k_is); (case h_l14 => k_is); (case h_c14 => k_is); (case h_k14 => k_is); (case h_a15 => k_is); (case h_l15 => k_is); (case h_c15 => k_is); (case h_k15 => k_is); (case h_g0 => k_is); (case h_g1 => k_is); (case h_z0 => k_is); (case h_z1 => k_is); (case h_z2 => k_is); (case h_z3 => k_is); (case h_z4 => k_is); (case h_z5 => k_is); (case h_z6 => k_is); (case h_z7 => k_is); (case h_z8 => k_is); (case h_z9 => k_is); (case h_z10 => k_is); (case h_z11 => k_is); (case h_z12 => k_is); (case h_z13 => k_is); (case h_z14 => k_is); (case h_ea0 => k_is); (case h_ex0 => k_exc); (case h_ek0 => k_is); (case h_es0 => k_is); (case h_et0 => k_is)
