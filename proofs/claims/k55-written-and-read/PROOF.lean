import PyProof.Rows.All
import Wide.All
import OpenK.AllK
import Wide.FinOn
import HandS.Base
import HandS.Call
import HandS.List
import HandS.Exc
import HandS.ExcOwn
import HandS.ExcIs
import HandS.ExcValue
import HandS.Dict
import HandS.ForMost
import KE.DataEq
import PyProof.ReprReads
import PyProof.ReprRoads
import KE.SortData
import HandS.Text
import HandS.StrMore
import PyProof.NeKinds
import PyProof.EqKinds
import HandS.Wide
import HandS.IsInst
import HandS.TupLe
import HandS.TupAny
import KE.DataIsa
import HandS.RaiseMore
import PyProof.IsiTupleOf
import PyProof.IsInstanceT
import HandS.TupSets
import HandS.WrittenGet
import HandS.Strs
import HandS.Style
import KE.KUnpack
import KE.GoesMore
import KE.GoesZip
import KE.IntBitsLaws
import PyProof.StrLawsIn
import PyProof.Rows.StrCut
import KE.OsSortAny
import PyProof.Rows.StrJoinMade
import PySem.Challenge.RW_heardahead_k55_written_and_read
section
set_option Elab.async false
set_option linter.all false
set_option maxRecDepth 100000
set_option maxHeartbeats 4000000
set_option autoImplicit false
/-! EvXa: an exception that an except suite keeps: it is tracked behind the suite -/
namespace EV
open PySem PySem.Spec PyProof.Rows L2
/-- an exception of the class cls stands at a -/
def ExC (cls : Value) (a : Addr) : HO := .ext fun h => ∃ oe : Obj, h.get? a = some oe ∧ Zc cls none oe ∧ ∃ vs, oe.data = .fields vs
theorem exC_ok {P : Program} {w : World} {H : Hp} {h : Heap} {a : Addr} {cls : Value} {oe : Obj} (e : h.get? a = some oe) (z : Zc cls none oe) (d : ∃ vs, oe.data = .fields vs) : ObjOk P w H h a (ExC cls a) :=
  ⟨⟨oe, e, z, d⟩, ⟨oe, e⟩, fun _ _ ⟨o, q, r⟩ k => ⟨o, k o q, r⟩⟩
section
variable {X : Cx} {pins : List (Addr × Obj)} {σ : L2.St} {H : Hp} {s : Shared}
theorem trackE (I : Inv X pins σ H s) {a : Addr} {oe : Obj} {cls : Value} (e : s.heap.get? a = some oe) (z : Zc cls none oe) (d : ∃ vs, oe.data = .fields vs) (hn : H a = none) (nL : a ≠ X.env.locals) (n0 : X.s_0.heap.get? a = none) (np : ∀ p ∈ X.pn ++ pins, p.1 ≠ a) :
    Inv X pins σ (upd H a (ExC cls a)) s :=
  ⟨I.ok, I.os, I.bare, ⟨I.base.keep, I.base.slot, fun b o q n x => by rw [upd_ne (fun z => by rw [z, n0] at q; cases q)]; exact I.base.free b o q n x, I.base.there, fun b xs q => by
      have r := I.base.tups b xs q
      rw [upd_ne (ne_of_none r hn)]; exact r, fun b o u q => by
      have r := I.base.frzs b o u q
      rw [upd_ne (ne_of_none r hn)]; exact r, fun b ps q => by
      obtain ⟨m, r⟩ := I.base.tbls b ps q
      exact ⟨m, by rw [upd_ne (ne_of_none r hn)]; exact r⟩⟩,
    I.loc, I.cell, by rw [upd_ne fun q => nL q.symm]; exact I.free, fun x c ec => by
      rw [upd_ne (fun q => by
        subst q
        obtain ⟨v, o, ho, hd⟩ := I.cell x c ec
        rw [e] at ho
        cases ho
        obtain ⟨vs, d⟩ := d
        rw [d] at hd
        cases hd)]
      exact I.freeC x c ec, fun p hp => by
      obtain ⟨q1, q2, q3⟩ := I.pin p hp
      exact ⟨q1, by rw [upd_ne (np p hp)]; exact q2, q3⟩, I.hok.laidN (fun _ _ q => q) hn (exC_ok e z d), I.len⟩
end
/-- what a try whose suite keeps the exception asks of it -/
def wKeep (K : PySem.W.Frag) (c : Value) (i : Nat) (ts : Addr → Value → Option Addr → TS) (Wout : L2.WX) (D : Ends) : L2.WX := fun cls d σ H =>
  ∃ b, PySem.W.exmOne K cls c = some b ∧ (b = true → d = none ∧ ∀ a, H a = none → ts a cls d { nx := fun σ' H' => H' a = none → D.nx (σ'.set i none) (upd H' a (ExC cls a)), rt := fun v H' => H' a = none → D.rt v (upd H' a (ExC cls a)), bk := fun σ' H' => H' a = none → D.bk (σ'.set i none) (upd H' a (ExC cls a)), ct := fun σ' H' => H' a = none → D.ct (σ'.set i none) (upd H' a (ExC cls a)) } (σ.set i (some (.ref a))) H) ∧
    (b = false → Wout cls d σ H)
section
variable {X : Cx} {x n : Str} {c : Value} {i : Nat} {body suite : List Stmt} {b₀ : Stmt} {np pos pos' : Pos} {tb : L2.WX → TS} {ts : Addr → Value → Option Addr → TS} {Wout : L2.WX}
theorem ps_try_keep (hx : X.ex = []) (hs : X.stack = X.env :: X.outer) (hf : X.env.frame = some X.env.locals) (hN : X.N.Nodup) (hi : X.N[i]? = some n) (hln : X.env.kindOf n = some .local) (hc : Names X x c) (tk : Takes X Wout)
    (hb : ∀ (W : L2.WX) (pn : List (Addr × Obj)) (xe : Value → Shared → Prop), Takes (X.tr pn xe) W → PassesOwn (model X.prog X.w) X.A X.env xe → PSs (X.tr pn xe) body (tb W))
    (hsu : ∀ (a : Addr) (oe : Obj) (cls : Value) (d : Option Addr) (pn : List (Addr × Obj)), Zc cls d oe → (∃ vs, oe.data = .fields vs) → PSs (X.suite a ((a, oe) :: pn)) (b₀ :: suite) (ts a cls d)) :
    PS X (.Try body [.ExceptHandler (some (.Name x np)) (some n) (b₀ :: suite) pos'] [] [] pos) (fun D σ H => tb (wKeep X.K c i ts Wout D) D σ H) := by
  refine ⟨fun pins s σ H D I h => ?_⟩
  have ok := I.ok
  have hfr : X.A.frames = some (X.env :: X.outer) := by rw [ok.frames, hs]
  have hloc : Loc X.env.scope n := .inl hln
  refine wpAny_Try_except ?_
  refine wpAny_mono ((hb (wKeep X.K c i ts Wout D) (X.pn ++ pins) (fun e s₁ => wpAny (model X.prog X.w) X.A (noteFrame e X.env) (fun _ s₂ => wpAny (model X.prog X.w) X.A (setFlight e none) (fun _ s₃ =>
    wpAny (model X.prog X.w) X.A (handleBy e X.env [.ExceptHandler (some (.Name x np)) (some n) (b₀ :: suite) pos']) (SP X pins D) X.xe s₃) X.xe s₂) X.xe s₁) (fun u s' xx => ?_) PassesOwn.looking).run [] s σ H D (I.toTry _) h) (fun f s1 hsp => ?_) (fun e s1 he => he)
  · -- the catch
    obtain ⟨a, B, sI, pins', σ', H', cls, d, rfl, J', nb, up, sky, na, os, ag, b, hb1, hyes, hno⟩ := xx
    have J : Inv X pins σ' H' sI := J'.ofTry ok
    have sky' : Sky B (X.env :: X.outer) a (Zc cls d) X.env.locals s'.heap := by rw [← hs]; exact sky
    show wpAny (model X.prog X.w) X.A (noteFrame (.ref a) X.env) _ _ _
    refine Sky.land Zc.steady hfr hf sky' fun h3 fl3 up3 => ?_
    have J3 : Inv X pins σ' H' { s' with heap := h3 } := J.landed nb fl3.1 (up.trans up3) os ag
    obtain ⟨oe3, vs3, he3, hz3, hd3⟩ := fl3.there
    have notFr : ∀ {h : Heap} {o : Obj} {vs : Array Value}, h.FunFrames B (X.env :: X.outer) → h.get? a = some o → o.data = .fields vs → a ∉ frs (X.env :: X.outer) := fun {h o vs} ff e dd hm => by
      obtain ⟨_, o', e', hnf⟩ := ff.mem hm
      rw [e] at e'; cases e'
      exact hnf _ dd
    have nfr := notFr fl3.2.2.1 he3 hd3
    have nI : sI.heap.get? a = none := by
      cases q : sI.heap.get? a with
      | none => rfl
      | some o =>
        have z := nb a o q (by rw [hs]; exact nfr)
        rw [fl3.2.1] at z
        cases z
    have n0 : X.s_0.heap.get? a = none := by
      cases q : X.s_0.heap.get? a with
      | none => rfl
      | some o =>
        obtain ⟨o', z⟩ := J.base.there a o q (by rw [hx]; exact fun z => nomatch z)
        rw [nI] at z
        cases z
    have npn : ∀ p ∈ X.pn ++ pins, p.1 ≠ a := fun p hp e => by
      have z := (J.pin p hp).1
      rw [e, nI] at z
      cases z
    have nL : a ≠ X.env.locals := fun z => nfr (List.mem_filterMap.mpr ⟨X.env, List.mem_cons_self, by rw [hf, z]⟩)
    have nF : a ∉ X.fs := fun hm => by
      obtain ⟨e, he, q⟩ := List.mem_filterMap.mp hm
      exact nfr (List.mem_filterMap.mpr ⟨e, List.mem_cons_of_mem _ he, q⟩)
    have S3 := J3.suite he3 hd3 na nL nF
    refine wpAny_handleBy_cons (codeAny_handlers_test ?_) (by intro q; cases q)
    have LT : PySem.W.Looks (model X.prog X.w) h3 (typeOf (.ref a)) cls := fun A Q E s k q => wpAny_typeOf_ref (k _ _ he3) (by rw [hz3.1]; exact q)
    have LM := PySem.W.exm_one (M := model X.prog X.w) (J3.kIn) LT hb1
    have test : ∀ {Q : Value → Shared → Prop} {E : Value → Shared → Prop}, Q c { s' with heap := h3 } → wpAny (model X.prog X.w) (X.A.mark (some (.ref a))) (eval (.Name x np) X.env) Q E { s' with heap := h3 } := fun {Q E} q => by
      obtain ⟨hg, hdbg, hm | ⟨hm, hv, hnn⟩⟩ := hc
      · exact ld_glob (X := X.suite a ((a, oe3) :: (X.pn ++ pins))) S3 hg hm q hdbg
      · exact ld_blt (X := X.suite a ((a, oe3) :: (X.pn ++ pins))) S3 hg hm hv q hnn hdbg
    refine test (LM.here ?_)
    cases b with
    | true =>
      obtain ⟨hdn, hyes⟩ := hyes rfl
      subst hdn
      refine codeAny_handlers_suite_as ?_
      refine HandSPX.lands_againZ fl3 fun h4 fl4 up4 => ?_
      have J4 : Inv X pins σ' H' { s' with heap := h4 } := J.landed nb fl4.1 ((up.trans up3).trans up4) os ag
      obtain ⟨oe4, vs4, he4, hz4, hd4⟩ := fl4.there
      have S4 := J4.suite he4 hd4 na nL nF
      refine store_ok (X := X.suite a ((a, oe4) :: (X.pn ++ pins))) (v := .ref a) S4 hN hi hloc rfl (fun s5 S5 => ?_) (.inr hln)
      refine wpAny_mono ((hsu a oe4 cls none (X.pn ++ pins) hz4 ⟨_, hd4⟩).run [] s5 _ H' _ S5 (hyes a na)) (fun f s6 hsp => ?_) (fun _ _ z => False.elim z)
      have free6 : ∀ {σ6 : L2.St} {H6 : Hp}, Inv (X.suite a ((a, oe4) :: (X.pn ++ pins))) [] σ6 H6 s6 → H6 a = none := fun {σ6 H6} S6 => (S6.pin (a, oe4) (List.mem_append_left _ List.mem_cons_self)).2.1
      have end_ : ∀ {σ6 : L2.St} {H6 : Hp} {Q : Shared → Prop}, Inv (X.suite a ((a, oe4) :: (X.pn ++ pins))) [] σ6 H6 s6 → (∀ s7, Inv X pins (σ6.set i none) (upd H6 a (ExC cls a)) s7 → Q s7) →
          wpAny (model X.prog X.w) X.A (do bindName X.env n .none; unbindBehindTheSuite X.env n pos') (fun _ s7 => Q s7) X.xe s6 := fun {σ6 H6 Q} S6 hq =>
        gone_ok (trackE (S6.unsuite ok) (S6.pin (a, oe4) (List.mem_append_left _ List.mem_cons_self)).1 hz4 ⟨_, hd4⟩ (free6 S6) nL n0 npn) hN hi hln hq
      cases f with
      | next =>
        obtain ⟨σ6, H6, S6, q6⟩ := hsp
        exact end_ S6 fun s7 J7 => ⟨_, _, J7, q6 (free6 S6)⟩
      | brk =>
        obtain ⟨σ6, H6, S6, q6⟩ := hsp
        exact end_ S6 fun s7 J7 => ⟨_, _, J7, q6 (free6 S6)⟩
      | cont =>
        obtain ⟨σ6, H6, S6, q6⟩ := hsp
        exact end_ S6 fun s7 J7 => ⟨_, _, J7, q6 (free6 S6)⟩
      | ret u =>
        obtain ⟨v6, σ6, H6, S6, r6, q6⟩ := hsp
        exact end_ S6 fun s7 J7 => ⟨_, _, _, J7, r6, q6 (free6 S6)⟩
    | false =>
      show wpAny _ X.A (handleBy (.ref a) X.env []) _ _ _
      refine wpAny_handleBy_nil ?_
      obtain ⟨k1, k2, k3, oe, vs, T, oT, ts', he, hz, hd, h1, hr⟩ := id fl3
      unfold PySem.passOn
      refine wpAny_bind (wpAny_field he hd h1 ?_)
      rw [if_neg (show ¬ ((Value.ref T == Value.none) = true) from by simp)]
      have fin : wpAny (model X.prog X.w) X.A (setFlight (.ref a) X.env.frame) (fun _ s4 => wpAny (model X.prog X.w) X.A (throw (.ref a) : Sem Flow) (SP X pins D) X.xe s4) X.xe { s' with heap := h3 } := by
        rw [hf]
        refine HandSPX.setFlight_upZ fl3 fun h4 hh4 up4 => wpAny_throw (tk _ _ ?_)
        exact ⟨a, B, sI, pins, σ', H', cls, d, rfl, J, nb, (up.trans up3).trans up4, .inr (.inr (by rw [hs]; exact hh4)), na, os, ag, hno rfl⟩
      first
        | exact wpAny_bind (wpAny_pure (wpAny_bind fin))
        | exact wpAny_bind fin
  · cases f with
    | next =>
      obtain ⟨σ', H', J', q⟩ := hsp
      exact wpAny_execs_nil ⟨σ', H', J'.ofTry ok, q⟩
    | brk =>
      obtain ⟨σ', H', J', q⟩ := hsp
      exact ⟨σ', H', J'.ofTry ok, q⟩
    | cont =>
      obtain ⟨σ', H', J', q⟩ := hsp
      exact ⟨σ', H', J'.ofTry ok, q⟩
    | ret u =>
      obtain ⟨v, σ', H', J', r, q⟩ := hsp
      exact ⟨v, σ', H', J'.ofTry ok, r, q⟩
end
/-- what the class C must say, so that isinstance asks its instances rightly -/
structure XOk (K : PySem.W.Frag) (C : Addr) : Prop where
  c : ExcC K C
  f : ∀ T ∈ (["str", "int", "bool", "list", "tuple", "dict"] : List String), PySem.W.kitOne K (.ref C) (.type T) = some false
theorem exC_inst {P : Program} {w : World} {H : Hp} {h : Heap} {a C : Addr} (ok : HOk P w H h) (r : Rd H a (ExC (.ref C) a)) : ∃ oe, PySem.W.InstAt h a oe C none := by
  obtain ⟨⟨oe, e, z, vs, hv⟩, _⟩ := rd_of ok r
  obtain ⟨oc, od, oda, osl⟩ := oe
  obtain ⟨h1, h2⟩ := z
  dsimp only at h1 h2 hv
  subst h1 h2 hv
  exact ⟨_, e, rfl, rfl, trivial⟩
end EV
end
section
set_option Elab.async false
set_option linter.all false
set_option maxRecDepth 100000
set_option autoImplicit true
set_option maxHeartbeats 4000000
/-! EvA: a small core of Python over trees of data (PyData): its terms, what they come to -/
namespace EV
open PySem PySem.Spec PyProof.Rows L2

abbrev D := PyData
/-- a value: data, what stands in slot i at the moment, or the n-th shared thing -/
inductive Vl where
  | d (x : D) | pk (i : Nat) | r (n : Nat)
/-- a slot: nothing, a value, a list or dict of its own, the same while it is walked -/
inductive Slot where
  | non | v (x : Vl) | own (x : D) | lck (x : D)
structure Ste where
  rho : List Slot
  hp : List D
inductive Res (α : Type) where
  | ok (a : α) (s : Ste) | er (c : Nat) (s : Ste) | stuck
inductive Out where
  | nx (s : Ste) | rt (x : Vl) (s : Ste) | bk (s : Ste) | ct (s : Ste) | er (c : Nat) (s : Ste) | stuck
inductive CRes where
  | ok (x : Vl) (h : List D) | er (c : Nat) (h : List D) | stuck

inductive Ty where
  | str | int | bool | list | tuple | dict
inductive Op where
  | add | sub | mul | fdiv | mod | pow | neg
  | eq | ne | lt | le | gt | ge | is_ | isnt | in_ | notin
  | idx | slice | len | isinst (t : Ty) | isLT | all | any | abs | max2 | min2 | repr | strip
  | ofList | ofTuple | int1 | toi | setlen | sorted | rev | dIn (kvs : List (Str × Str)) (no : Bool) | dAt (kvs : List (Str × Str))
  | join | split | str1 | isEx (tb : List (Str × Bool))
inductive Mu where
  | app | pop | popAt | ext | rev | clr
inductive Tg where
  | nm (i : Nat) | tp (ts : List Tg)

mutual
inductive C where
  | var (i : Nat) | peek (i : Nat) | kst (x : D) | glob (j : Nat)
  | op (o : Op) (as : Cs) | chain (o1 o2 : Op) (a b c : C)
  | tup (as : Cs) | lst (as : Cs) | dct (kvs : List (Key × D)) | nref (as : Cs)
  | not (a : C) | and (a b : C) | or (a b : C) | ite (t a b : C)
  | call (f : Nat) (as : Cs) | mut (i : Nat) (m : Mu) (as : Cs) | meth (o : Op) (a : C) (as : Cs)
  | lc (vs : List Nat) (tg : Tg) (it : It) (cs : Cs) (e : C)
  | share (a : C) | extF (i : Nat) (a : C)
inductive Cs where
  | nil | cons (a : C) (as : Cs)
inductive It where
  | seq (a : C) | slot (i : Nat) | rng (as : Cs) | enum (a : C) | zip (as : Cs)
end
mutual
inductive CS where
  | set (i : Nat) (e : C) | setO (i : Nat) (e : C) | setT (ts : List Tg) (e : C) | put (i : Nat) (k v : C)
  | expr (e : C) | ret (e : C) | retN | ite (t : C) (a b : CSs) | for (tg : Tg) (it : It) (b : CSs) | while (t : C) (b : CSs)
  | raise (c : Nat) | pass | brk | cnt
  | tryK (b : CSs) (tb : List (Nat × Str × Bool)) (i j : Nat)
inductive CSs where
  | nil | cons (s : CS) (r : CSs)
end

/-! ### data -/
def keyD : Key → D
  | .inl i => .int i
  | .inr x => .str x
def lim : Nat := 1000000
def bigB : Nat := 2 ^ 400000
def notDict : D → Bool
  | .dict _ => false
  | _ => true
def plainD (x : D) : Bool := x.plain && decide (x.depth ≤ 64)
def nth {α : Type} (xs : List α) (i : Int) : Option α := atI xs i
def cut {α : Type} (xs : List α) (lo hi : Option Int) : List α := (xs.drop (HT.sIx xs.length 0 lo)).take (HT.sIx xs.length xs.length hi - HT.sIx xs.length 0 lo)
def part? : D → Option (Option Int)
  | .none => some none
  | .int i => some (some i)
  | _ => none
def isC : D → Bool
  | .list _ => true
  | .dict _ => true
  | _ => false
def truth : D → Option Bool
  | .none => some false
  | .bool b => some b
  | .int i => some (i != 0)
  | .str x => if x.length ≤ lim then some (x.length != 0) else none
  | .list xs => some (!xs.isEmpty)
  | .tuple xs => some (!xs.isEmpty)
  | .dict _ => none
/-- an exception, by its class's name -/
def exD (n : Str) : D := .dict [(.none, .str n)]
def isX : List (D × D) → Bool
  | (.none, _) :: _ => true
  | _ => false
mutual
def noX : D → Bool
  | .list xs => noXs xs
  | .tuple xs => noXs xs
  | .dict kvs => !isX kvs && noXv kvs
  | _ => true
def noXs : List D → Bool
  | [] => true
  | x :: r => noX x && noXs r
def noXv : List (D × D) → Bool
  | [] => true
  | p :: r => noX p.2 && noXv r
end
def isTy : Ty → D → Bool
  | .str, .str _ => true
  | .int, .int _ => true
  | .int, .bool _ => true
  | .bool, .bool _ => true
  | .list, .list _ => true
  | .tuple, .tuple _ => true
  | .dict, .dict kvs => !isX kvs
  | _, _ => false
def bools? : List D → Option (List Bool)
  | [] => some []
  | .bool b :: r => (bools? r).map (b :: ·)
  | _ => none
def inD (x : D) (xs : List D) : Bool := xs.any fun y => PyData.eqv y x
def occIn (a b : Str) : Bool := !(Builtin.Str.occurrences b a 0 b.length 1).isEmpty
def fAdd : List D → Option D
  | [.int i, .int j] => some (.int (i + j))
  | [.str a, .str b] => if a.length + b.length ≤ lim then some (.str (a ++ b)) else none
  | [.list a, .list b] => if a.length + b.length ≤ lim then some (.list (a ++ b)) else none
  | [.tuple a, .tuple b] => if a.length + b.length ≤ lim then some (.tuple (a ++ b)) else none
  | _ => none
def fSub : List D → Option D
  | [.int i, .int j] => some (.int (i - j))
  | _ => none
def repS (a : Str) (n : Nat) : Str := ⟨(List.replicate n a.cps.toList).flatten.toArray⟩
def fMul : List D → Option D
  | [.int i, .int j] => if i.natAbs < bigB ∧ j.natAbs < bigB then some (.int (i * j)) else none
  | [.str a, .int j] => if 0 ≤ j ∧ j < 2 ^ 30 ∧ a.length * j.toNat ≤ lim then some (.str (repS a j.toNat)) else none
  | _ => none
def fDiv : List D → Option D
  | [.int i, .int j] => if 0 < j ∧ j < 1073741824 then some (.int (i / j)) else none
  | _ => none
def fMod : List D → Option D
  | [.int i, .int j] => if 0 < j then some (.int (i % j)) else none
  | _ => none
def fPow : List D → Option D
  | [.int i, .int j] => if 0 ≤ j ∧ (Builtin.Int.intBits i : Int) * j ≤ 2 ^ 27 then some (.int (i ^ j.toNat)) else none
  | _ => none
def fNeg : List D → Option D
  | [.int i] => some (.int (-i))
  | _ => none
/-- a list beside [], whatever is in it -/
def isNil : D → D → Option D
  | .list xs, .list [] => some (.bool xs.isEmpty)
  | _, _ => none
def notNil : D → D → Option D
  | .list xs, .list [] => some (.bool (!xs.isEmpty))
  | _, _ => none
def fEq : List D → Option D
  | [a, b] => if plainD a && plainD b then some (.bool (PyData.eqv a b)) else isNil a b
  | _ => none
def fNe : List D → Option D
  | [a, b] => if plainD a && plainD b then some (.bool (!PyData.eqv a b)) else notNil a b
  | _ => none
def fLt : List D → Option D
  | [.int i, .int j] => some (.bool (decide (i < j)))
  | _ => none
def fLe : List D → Option D
  | [.int i, .int j] => some (.bool (decide (i ≤ j)))
  | _ => none
def fGt : List D → Option D
  | [.int i, .int j] => some (.bool (decide (j < i)))
  | _ => none
def fGe : List D → Option D
  | [.int i, .int j] => some (.bool (decide (j ≤ i)))
  | _ => none
def isNon : D → Bool
  | .none => true
  | _ => false
def fIs : List D → Option D
  | [x, .none] => some (.bool (isNon x))
  | [.bool a, .bool b] => some (.bool (decide (a = b)))
  | _ => none
def fIsnt : List D → Option D
  | [x, .none] => some (.bool (!isNon x))
  | [.bool a, .bool b] => some (.bool (!decide (a = b)))
  | _ => none
def isTupD : D → Bool
  | .tuple _ => true
  | _ => false
/-- a dict is none of tuples -/
def dictNo : D → List D → Option D
  | .dict kvs, ys => if !isX kvs && ys.all isTupD then some (.bool false) else none
  | _, _ => none
def fIn : List D → Option D
  | [.str a, .str b] => some (.bool (occIn a b))
  | [x, .list ys] => if plainD x && ys.all plainD then some (.bool (inD x ys)) else dictNo x ys
  | [x, .tuple ys] => if plainD x && ys.all plainD then some (.bool (inD x ys)) else none
  | _ => none
def fNotin : List D → Option D
  | [.str a, .str b] => some (.bool (!occIn a b))
  | [x, .list ys] => if plainD x && ys.all plainD then some (.bool (!inD x ys)) else none
  | [x, .tuple ys] => if plainD x && ys.all plainD then some (.bool (!inD x ys)) else none
  | _ => none
def fIdx : List D → Option D
  | [.list xs, .int i] => nth xs i
  | [.tuple xs, .int i] => nth xs i
  | [.str z, .int i] => if z.length ≤ lim then (atI z.cps.toList i).map fun c => .str ⟨#[c]⟩ else none
  | _ => none
def fSlice : List D → Option D
  | [.list xs, lo, hi] => match part? lo, part? hi with
    | some l, some h => some (.list (cut xs l h))
    | _, _ => none
  | [.str z, lo, hi] => match part? lo, part? hi with
    | some l, some h => if z.length ≤ lim then some (.str (cutS z l h)) else none
    | _, _ => none
  | [.tuple xs, lo, hi] => match part? lo, part? hi with
    | some l, some h => some (.tuple (cut xs l h))
    | _, _ => none
  | _ => none
def fLen : List D → Option D
  | [.list xs] => some (.int xs.length)
  | [.tuple xs] => some (.int xs.length)
  | [.str z] => if z.length ≤ lim then some (.int z.length) else none
  | _ => none
def fIsinst (t : Ty) : List D → Option D
  | [x] => some (.bool (isTy t x))
  | _ => none
def fIsLT : List D → Option D
  | [x] => some (.bool (isTy .list x || isTy .tuple x))
  | _ => none
def fAll : List D → Option D
  | [.list xs] => match bools? xs with
    | some bs => some (.bool (bs.all id))
    | none => none
  | _ => none
def fAny : List D → Option D
  | [.list xs] => match bools? xs with
    | some bs => some (.bool (bs.any id))
    | none => none
  | _ => none
def fAbs : List D → Option D
  | [.int i] => some (.int (if i < 0 then -i else i))
  | _ => none
def fMax2 : List D → Option D
  | [.int i, .int j] => some (.int (if j > i then j else i))
  | _ => none
def fMin2 : List D → Option D
  | [.int i, .int j] => some (.int (if j < i then j else i))
  | _ => none
def showB (b : Bool) : Str := if b then "True" else "False"
def fRepr : List D → Option D
  | [x] => if x.showable && decide (x.depth ≤ 64) && decide (x.shown.length ≤ lim) && noX x then some (.str x.shown) else none
  | _ => none
def fStrip : List D → Option D
  | [.str a, .str b] => if a.length ≤ lim then some (.str (Txt.stripChars a b)) else none
  | _ => none
def fOfList : List D → Option D
  | [.list xs] => some (.list xs)
  | [.tuple xs] => some (.list xs)
  | _ => none
def fOfTuple : List D → Option D
  | [.list xs] => some (.tuple xs)
  | _ => none
/-- how many of the first i are unlike those ahead of them -/
def cntS (xs : List Str) : Nat → Nat
  | 0 => 0
  | i + 1 => if (xs.take i).any (· == xs.getD i Str.empty) then cntS xs i else cntS xs i + 1
def strs? : List D → Option (List Str)
  | [] => some []
  | .str x :: r => (strs? r).map (x :: ·)
  | _ => none
def fSetlen : List D → Option D
  | [.list ys] => match strs? ys with
    | some xs => if xs.length < 4000 then some (.int (cntS xs xs.length)) else none
    | none => none
  | _ => none
def bigT : D → Bool
  | .tuple (_ :: _) => true
  | _ => false
def noT : D → Bool
  | .tuple _ => false
  | .none => false
  | _ => true
def sortOk (ys : List D) : Bool := (ys.all fun a => ys.all fun b => PySem.W.alike a b) && (ys.all bigT || ys.all noT) && ys.all plainD && decide (ys.length ≤ lim)
def fSorted : List D → Option D
  | [.list ys] => if sortOk ys then some (.list (ys.mergeSort (PySem.W.dataLe false id))) else none
  | _ => none
def fInt : List D → Option D
  | [.bool b] => some (.int (if b then 1 else 0))
  | [.int i] => some (.int i)
  | [.str z] => if z.length ≤ 640 then (PySem.intText? z).map .int else none
  | _ => none
def joinO (a : Str) (xs : List D) : Option D := match strs? xs with
  | some ys => if (ys.map (·.length)).sum + ys.length * a.length ≤ lim then some (.str (Txt.join a ys)) else none
  | none => none
/-- isinstance(e, C), e an exception or None -/
def fIsEx (tb : List (Str × Bool)) : List D → Option D
  | [.none] => some (.bool false)
  | [.dict [(.none, .str n)]] => (tb.lookup n).map .bool
  | _ => none
def fJoin : List D → Option D
  | [.str a, .list xs] => joinO a xs
  | [.str a, .tuple xs] => joinO a xs
  | _ => none
def fSplit : List D → Option D
  | [.str a, .str b] => if a.length ≤ 100000 ∧ (b.length == 0) = false then some (.list ((Txt.split a b).map .str)) else none
  | _ => none
def fStr1 : List D → Option D
  | [.int i] => if i.natAbs.log2 < 1920 then some (.str (toString i)) else none
  | [.str z] => some (.str z)
  | _ => none
def fToi : List D → Option D
  | [.int i] => some (.int i)
  | _ => none
/-- a text among a written dict's keys; what stands there -/
def fDin (kvs : List (Str × Str)) (neg : Bool) : List D → Option D
  | [.str z] => some (.bool ((kvs.lookup z).isSome != neg))
  | _ => none
def fDat (kvs : List (Str × Str)) : List D → Option D
  | [.str z] => (kvs.lookup z).map .str
  | _ => none
def fRev : List D → Option D
  | [.list xs] => if xs.length ≤ lim then some (.list xs.reverse) else none
  | _ => none
def Op.fn : Op → List D → Option D
  | .add => fAdd | .sub => fSub | .mul => fMul | .fdiv => fDiv | .mod => fMod | .pow => fPow | .neg => fNeg
  | .eq => fEq | .ne => fNe | .lt => fLt | .le => fLe | .gt => fGt | .ge => fGe | .is_ => fIs | .isnt => fIsnt | .in_ => fIn | .notin => fNotin
  | .idx => fIdx | .slice => fSlice | .len => fLen | .isinst t => fIsinst t | .isLT => fIsLT | .all => fAll | .any => fAny | .abs => fAbs | .max2 => fMax2 | .min2 => fMin2
  | .repr => fRepr | .strip => fStrip | .ofList => fOfList | .ofTuple => fOfTuple | .int1 => fInt | .toi => fToi | .setlen => fSetlen | .sorted => fSorted | .rev => fRev | .dIn kvs no => fDin kvs no | .dAt kvs => fDat kvs | .join => fJoin | .split => fSplit | .str1 => fStr1 | .isEx tb => fIsEx tb
/-- methods: of what -/
def mty : Op → D → Bool
  | .strip, .str _ => true
  | .join, .str _ => true
  | .split, .str _ => true
  | _, _ => false
/-- what it gives is new, where it stands in the heap -/
def Op.fresh : Op → Bool
  | .idx => false
  | .ofTuple => false
  | _ => true
/-- a list that is changed: what the method tells, what stands then -/
def mApp : D → List D → Option (D × D)
  | .list xs, [y] => if xs.length < lim then some (.none, .list (xs ++ [y])) else none
  | _, _ => none
def mPop : D → List D → Option (D × D)
  | .list xs, [] => match xs[xs.length - 1]? with
    | some y => some (y, .list xs.dropLast)
    | none => none
  | _, _ => none
def mPopAt : D → List D → Option (D × D)
  | .list xs, [.int i] => if 0 ≤ i ∧ i < 2 ^ 62 then (match xs[i.toNat]? with
    | some y => some (y, .list (xs.eraseIdx i.toNat))
    | none => none) else none
  | _, _ => none
def mRev : D → List D → Option (D × D)
  | .list xs, [] => some (.none, .list xs.reverse)
  | _, _ => none
def mClr : D → List D → Option (D × D)
  | .list _, [] => some (.none, .list [])
  | _, _ => none
def mExt : D → List D → Option (D × D)
  | .list xs, [.list ys] => if xs.length + ys.length < lim then some (.none, .list (xs ++ ys)) else none
  | _, _ => none
def Mu.fn : Mu → D → List D → Option (D × D)
  | .app => mApp | .pop => mPop | .popAt => mPopAt | .ext => mExt | .rev => mRev | .clr => mClr
def putD : D → D → D → Option D
  | .list xs, .int k, v => (ixN xs.length k).map fun j => .list (xs.set j v)
  | _, _, _ => none

/-! ### values, slots -/
/-- what a value is as data now -/
def Ste.res (s : Ste) : Vl → Option D
  | .d x => some x
  | .r n => s.hp[n]?
  | .pk i => match s.rho[i]? with
    | some (.v (.d x)) => some x
    | some (.v (.r n)) => s.hp[n]?
    | some (.own x) => some x
    | some (.lck x) => some x
    | _ => none
def Ste.ress (s : Ste) : List Vl → Option (List D)
  | [] => some []
  | x :: r => match s.res x, s.ress r with
    | some d, some ds => some (d :: ds)
    | _, _ => none
/-- data that stands by itself -/
def dats : List Vl → Option (List D)
  | [] => some []
  | .d x :: r => (dats r).map (x :: ·)
  | _ => none
def frees : List Nat → List Slot → Bool
  | [], _ => true
  | i :: r, rho => (match rho[i]? with | some (.own _) => false | some (.lck _) => false | _ => true) && frees r rho
/-- the list or dict that slot i has or names, with what puts another in its place -/
def Ste.cell (s : Ste) (i : Nat) : Option (D × (D → Ste)) :=
  match s.rho[i]? with
  | some (.own x) => some (x, fun y => { s with rho := s.rho.set i (.own y) })
  | some (.v (.r n)) => match s.hp[n]? with
    | some x => some (x, fun y => { s with hp := s.hp.set n y })
    | none => none
  | _ => none
def cellOk (m : Mu) : Option (D × (D → Ste)) → Bool
  | some (.list _, _) => true
  | _ => false
mutual
def bindT : Tg → D → List Slot → Option (List Slot)
  | .nm i, x, rho => if i < rho.length then (match rho[i]? with | some (.lck _) => none | _ => some (rho.set i (.v (.d x)))) else none
  | .tp ts, .tuple xs, rho => bindTs ts xs rho
  | .tp ts, .list xs, rho => bindTs ts xs rho
  | _, _, _ => none
def bindTs : List Tg → List D → List Slot → Option (List Slot)
  | [], [], rho => some rho
  | t :: ts, x :: xs, rho => (bindT t x rho).bind (bindTs ts xs)
  | _, _, _ => none
end
def wipeR (rho : List Slot) : List Nat → List Slot
  | [] => rho
  | v :: vs => (wipeR rho vs).set v .non
def backR (rho0 : List Slot) (rho : List Slot) : List Nat → List Slot
  | [] => rho
  | v :: vs => match rho0[v]? with
    | some x => (backR rho0 rho vs).set v x
    | none => backR rho0 rho vs
def lcLoop (turn : D → Ste → Res (Option D)) : List D → List D → Ste → Res (List D)
  | [], acc, s => .ok acc s
  | x :: xs, acc, s => match turn x s with
    | .ok none s' => lcLoop turn xs acc s'
    | .ok (some y) s' => lcLoop turn xs (acc ++ [y]) s'
    | _ => .stuck
def forLoop (turn : D → Ste → Out) : List D → Ste → Out
  | [], s => .nx s
  | x :: xs, s => match turn x s with
    | .nx s' => forLoop turn xs s'
    | .ct s' => forLoop turn xs s'
    | .bk s' => .nx s'
    | o => o
def whileLoop (test : Ste → Res Bool) (body : Ste → Out) : Nat → Ste → Out
  | 0, _ => .stuck
  | n + 1, s => match test s with
    | .ok false s' => .nx s'
    | .ok true s' => (match body s' with
      | .nx s'' => whileLoop test body n s''
      | .ct s'' => whileLoop test body n s''
      | .bk s'' => .nx s''
      | o => o)
    | .er c s' => .er c s'
    | .stuck => .stuck
def wfuel : Nat := 1000000
def Res.bind {α β : Type} (r : Res α) (f : α → Ste → Res β) : Res β := match r with
  | .ok a s => f a s
  | .er c s => .er c s
  | .stuck => .stuck
def Res.of {α : Type} (o : Option α) (s : Ste) : Res α := match o with
  | some a => .ok a s
  | none => .stuck
def iran : Int → Nat → List D
  | _, 0 => []
  | lo, n + 1 => .int lo :: iran (lo + 1) n
def rngItems : List D → Option (List D)
  | [.int n] => if -(2 ^ 60) < n ∧ n < 2 ^ 60 then some (iran 0 n.toNat) else none
  | [.int a, .int b] => if -(2 ^ 60) < a ∧ a < 2 ^ 60 ∧ -(2 ^ 60) < b ∧ b < 2 ^ 60 then some (iran a (b - a).toNat) else none
  | _ => none
def seqItems : D → Option (List D)
  | .list xs => some xs
  | .tuple xs => some xs
  | .str z => some (z.cps.toList.map fun c => .str ⟨#[c]⟩)
  | _ => none
def enumD : Nat → List D → List D
  | _, [] => []
  | i, x :: xs => .tuple [.int i, x] :: enumD (i + 1) xs
/-- zip of two things that are gone through -/
def zipD : List D → Option (List D)
  | [x, y] => match seqItems x, seqItems y with
    | some xs, some ys => some (List.zipWith (fun a b => .tuple [a, b]) xs ys)
    | _, _ => none
  | _ => none
def unlock : Option Nat → List Slot → List Slot
  | none, rho => rho
  | some i, rho => match rho[i]? with
    | some (.lck x) => rho.set i (.own x)
    | _ => rho
structure Env where
  consts : List D
  call : Nat → List Vl → List D → CRes
mutual
def ev (P : Env) : C → Ste → Res Vl
  | .var i, s => match s.rho[i]? with
    | some (.v x) => .ok x s
    | some (.own x) => .ok (.d x) { s with rho := s.rho.set i (.v (.d x)) }
    | _ => .stuck
  | .peek i, s => match s.rho[i]? with
    | some .non => .stuck
    | none => .stuck
    | some _ => .ok (.pk i) s
  | .kst x, s => .ok (.d x) s
  | .glob j, s => match P.consts[j]? with
    | some x => .ok (.d x) s
    | none => .stuck
  | .op o as, s => (evs P as s).bind fun xs s => Res.of (((s.ress xs).bind o.fn).map .d) s
  | .chain o1 o2 a b c, s => (ev P a s).bind fun x s => (ev P b s).bind fun y s => match (s.ress [x, y]).bind o1.fn with
    | some (.bool true) => (ev P c s).bind fun z s => Res.of (((s.ress [y, z]).bind o2.fn).map .d) s
    | some (.bool false) => .ok (.d (.bool false)) s
    | _ => .stuck
  | .tup as, s => (evs P as s).bind fun xs s => Res.of ((dats xs).bind fun ds => if ds.length ≤ lim then some (.d (.tuple ds)) else none) s
  | .lst as, s => (evs P as s).bind fun xs s => Res.of ((dats xs).bind fun ds => if ds.length ≤ lim then some (.d (.list ds)) else none) s
  | .dct kvs, s => .ok (.d (.dict (kvs.map fun p => (keyD p.1, p.2)))) s
  | .nref as, s => (evs P as s).bind fun xs s => match dats xs with
    | some ds => if ds.length ≤ lim then .ok (.r s.hp.length) { s with hp := s.hp ++ [.list ds] } else .stuck
    | none => .stuck
  | .not a, s => (ev P a s).bind fun x s => match s.res x with
    | some (.bool b) => .ok (.d (.bool (!b))) s
    | _ => .stuck
  | .and a b, s => (ev P a s).bind fun x s => match s.res x with
    | some (.bool true) => ev P b s
    | some (.bool false) => .ok (.d (.bool false)) s
    | _ => .stuck
  | .or a b, s => (ev P a s).bind fun x s => match s.res x with
    | some (.bool true) => .ok (.d (.bool true)) s
    | some (.bool false) => ev P b s
    | _ => .stuck
  | .ite t a b, s => (ev P t s).bind fun x s => match (s.res x).bind truth with
    | some true => ev P a s
    | some false => ev P b s
    | none => .stuck
  | .call f as, s => (evs P as s).bind fun xs s => match P.call f xs s.hp with
    | .ok x h => .ok x { s with hp := h }
    | .er c h => .er c { s with hp := h }
    | .stuck => .stuck
  | .mut i m as, s => if cellOk m (s.cell i) then (evs P as s).bind fun xs s => match s.cell i, dats xs with
      | some (x, f), some ds => (match m.fn x ds with
        | some (y, x') => .ok (.d y) (f x')
        | none => .stuck)
      | _, _ => .stuck
    else .stuck
  | .meth o a as, s => (ev P a s).bind fun x s => match s.res x with
    | some d => if mty o d then (evs P as s).bind fun xs s => Res.of (((s.ress (x :: xs)).bind o.fn).map .d) s else .stuck
    | none => .stuck
  | .lc vs tg it cs e, s => (evIt P it s).bind fun xs s1 => if frees vs s1.rho then
      match lcLoop (fun x s => match bindT tg x s.rho with
          | some rho => (evTs P cs { s with rho := rho }).bind fun b s =>
              if b then (ev P e s).bind fun y s => (match y with
                | .d y => .ok (some y) { s with rho := wipeR s.rho vs }
                | _ => .stuck) else .ok none { s with rho := wipeR s.rho vs }
          | none => .stuck) xs.1 [] { s1 with rho := wipeR s1.rho vs } with
      | .ok ys s2 => if ys.length ≤ lim then .ok (.d (.list ys)) { s2 with rho := unlock xs.2 (backR s1.rho s2.rho vs) } else .stuck
      | _ => .stuck
    else .stuck
  | .share a, s => (ev P a s).bind fun x s => match x with
    | .d x => if isC x then .ok (.r s.hp.length) { s with hp := s.hp ++ [x] } else .stuck
    | _ => .stuck
  | .extF i a, s => if cellOk .ext (s.cell i) then (ev P a s).bind fun x s => match x, s.cell i with
      | .d (.list ys), some (.list xs, f) => if xs.length + ys.length < lim then .ok (.d .none) (f (.list (xs ++ ys))) else .stuck
      | _, _ => .stuck
    else .stuck
def evs (P : Env) : Cs → Ste → Res (List Vl)
  | .nil, s => .ok [] s
  | .cons a as, s => (ev P a s).bind fun x s => (evs P as s).bind fun xs s => .ok (x :: xs) s
/-- all tests, as long as they are true -/
def evTs (P : Env) : Cs → Ste → Res Bool
  | .nil, s => .ok true s
  | .cons a as, s => (ev P a s).bind fun x s => match (s.res x).bind truth with
    | some true => evTs P as s
    | some false => .ok false s
    | none => .stuck
/-- what is walked; the slot that is locked -/
def evIt (P : Env) : It → Ste → Res (List D × Option Nat)
  | .seq a, s => (ev P a s).bind fun x s => match x with
    | .d x => Res.of ((seqItems x).map fun xs => (xs, none)) s
    | _ => .stuck
  | .slot i, s => match s.rho[i]? with
    | some (.own (.list xs)) => .ok (xs, some i) { s with rho := s.rho.set i (.lck (.list xs)) }
    | some (.lck (.list xs)) => .ok (xs, none) s
    | some (.v (.d x)) => Res.of ((seqItems x).map fun xs => (xs, none)) s
    | _ => .stuck
  | .rng as, s => (evs P as s).bind fun xs s => Res.of (((s.ress xs).bind rngItems).map fun xs => (xs, none)) s
  | .enum a, s => (ev P a s).bind fun x s => match x with
    | .d (.list xs) => .ok (enumD 0 xs, none) s
    | _ => .stuck
  | .zip as, s => (evs P as s).bind fun xs s => Res.of (((dats xs).bind zipD).map fun xs => (xs, none)) s
end
def Slot.open : Option Slot → Bool
  | some (.lck _) => false
  | some _ => true
  | none => false
mutual
def exS (P : Env) : CS → Ste → Out
  | .set i e, s => match ev P e s with
    | .ok (.d x) s => if Slot.open s.rho[i]? then .nx { s with rho := s.rho.set i (.v (.d x)) } else .stuck
    | .ok (.r n) s => if Slot.open s.rho[i]? then .nx { s with rho := s.rho.set i (.v (.r n)) } else .stuck
    | .ok (.pk _) _ => .stuck
    | .er c s => .er c s
    | .stuck => .stuck
  | .setO i e, s => match ev P e s with
    | .ok (.d x) s => if isC x && Slot.open s.rho[i]? then .nx { s with rho := s.rho.set i (.own x) } else .stuck
    | .ok _ _ => .stuck
    | .er c s => .er c s
    | .stuck => .stuck
  | .setT ts e, s => match ev P e s with
    | .ok (.d x) s => (match bindT (.tp ts) x s.rho with
      | some rho => .nx { s with rho := rho }
      | none => .stuck)
    | .ok _ _ => .stuck
    | .er c s => .er c s
    | .stuck => .stuck
  | .put i k v, s => match ev P v s with
    | .ok (.d y) s => if (s.cell i).isSome then (match ev P k s with
      | .ok (.d x) s => (match s.cell i with
        | some (o, f) => (match putD o x y with
          | some o' => .nx (f o')
          | none => .stuck)
        | none => .stuck)
      | .ok _ _ => .stuck
      | .er c s => .er c s
      | .stuck => .stuck) else .stuck
    | .ok _ _ => .stuck
    | .er c s => .er c s
    | .stuck => .stuck
  | .expr e, s => match ev P e s with
    | .ok _ s => .nx s
    | .er c s => .er c s
    | .stuck => .stuck
  | .ret e, s => match ev P e s with
    | .ok (.d x) s => .rt (.d x) s
    | .ok (.r n) s => .rt (.r n) s
    | .ok (.pk _) _ => .stuck
    | .er c s => .er c s
    | .stuck => .stuck
  | .retN, s => .rt (.d .none) s
  | .ite t a b, s => match ev P t s with
    | .ok x s => (match (s.res x).bind truth with
      | some true => exs P a s
      | some false => exs P b s
      | none => .stuck)
    | .er c s => .er c s
    | .stuck => .stuck
  | .for tg it b, s => match evIt P it s with
    | .ok xs s => (match forLoop (fun x s => match bindT tg x s.rho with
          | some rho => exs P b { s with rho := rho }
          | none => .stuck) xs.1 s with
      | .nx s => .nx { s with rho := unlock xs.2 s.rho }
      | o => o)
    | .er c s => .er c s
    | .stuck => .stuck
  | .while t b, s => whileLoop (fun s => (ev P t s).bind fun x s => Res.of ((s.res x).bind truth) s) (exs P b) wfuel s
  | .raise c, s => .er c s
  | .tryK b tb i j, s => match exs P b s with
    | .er c s => (match tb.lookup c with
      | some (nm, true) => if Slot.open s.rho[i]? && Slot.open s.rho[j]? then .nx { s with rho := ((s.rho.set i (.v (.d (exD nm)))).set j (.v (.d (exD nm)))).set i .non } else .stuck
      | some (_, false) => .er c s
      | none => .stuck)
    | o => o
  | .pass, s => .nx s
  | .brk, s => .bk s
  | .cnt, s => .ct s
def exs (P : Env) : CSs → Ste → Out
  | .nil, s => .nx s
  | .cons c r, s => match exS P c s with
    | .nx s => exs P r s
    | o => o
end
structure FunI where
  nslots : Nat
  nparams : Nat
  body : CSs
def noPk : List Vl → Bool
  | [] => true
  | .pk _ :: _ => false
  | _ :: r => noPk r
def callF (fs : List FunI) (consts : List D) : Nat → Nat → List Vl → List D → CRes
  | 0, _, _, _ => .stuck
  | k + 1, f, xs, h => match fs[f]? with
    | some fi => if xs.length = fi.nparams ∧ noPk xs = true then
        (match exs ⟨consts, callF fs consts k⟩ fi.body ⟨xs.map .v ++ List.replicate (fi.nslots - xs.length) .non, h⟩ with
        | .nx s => .ok (.d .none) s.hp
        | .rt x s => .ok x s.hp
        | .er c s => .er c s.hp
        | _ => .stuck) else .stuck
    | none => .stuck
end EV
end
section
set_option Elab.async false
set_option linter.all false
set_option maxRecDepth 100000
set_option autoImplicit false
set_option maxHeartbeats 4000000
/-! EvB: how data lies in the heap; what stands at a moment; what a step keeps -/
namespace EV
open PySem L2

def KLst (K : PySem.W.Frag) (a : Addr) (xs : List V) : Prop :=
  ∃ (o : Obj) (its : Array Value) (n : Nat), K.lookup a = some o ∧ o.cls = .type "list" ∧ o.dict = none ∧ o.data = .seq its n ∧ its.size ≤ sizeLine ∧ Vals xs its.toList
def KTup (K : PySem.W.Frag) (a : Addr) (xs : List V) : Prop :=
  ∃ (o : Obj) (its : Array Value) (n : Nat), K.lookup a = some o ∧ o.cls = .type "tuple" ∧ o.data = .seq its n ∧ its.size ≤ sizeLine ∧ Vals xs its.toList

mutual
inductive Dn (K : PySem.W.Frag) (M : Addr → Prop) (H : Hp) : Bool → D → V → Prop
  | non {b : Bool} : Dn K M H b .none .non
  | bl {b : Bool} (k : Bool) : Dn K M H b (.bool k) (.bl k)
  | int {b : Bool} (i : Int) : Dn K M H b (.int i) (.int i)
  | str {b : Bool} (x : Str) : Dn K M H b (.str x) (.str x)
  | lst {b : Bool} {a : Addr} {xs : List D} {vs : List V} : Rd H a (.lst vs) → (b = true → ¬ M a) → DnL K M H xs vs → Dn K M H b (.list xs) (.ref a)
  | lstK {b : Bool} {a : Addr} {xs : List D} {vs : List V} : KLst K a vs → DnL K M H xs vs → Dn K M H b (.list xs) (.ref a)
  | tup {b : Bool} {a : Addr} {xs : List D} {vs : List V} : Rd H a (.tup vs) → ¬ M a → DnL K M H xs vs → Dn K M H b (.tuple xs) (.ref a)
  | tupK {b : Bool} {a : Addr} {xs : List D} {vs : List V} : KTup K a vs → DnL K M H xs vs → Dn K M H b (.tuple xs) (.ref a)
  | dK {b : Bool} {a : Addr} {kvs : List (D × D)} {ds : List D} {vs : List V} {es : List (Key × V)} : Rd H a (.dK es) → (b = true → ¬ M a) → kvs.map (·.1) = es.map (fun p => keyD p.1) → kvs.map (·.2) = ds → DnL K M H ds vs → vs = es.map (·.2) → Dn K M H b (.dict kvs) (.ref a)
  | dT {b : Bool} {a : Addr} {kvs : List (D × D)} {ds : List D} {vs : List V} {es : List (List Key × V)} : Rd H a (.dT es) → (b = true → ¬ M a) → kvs.map (·.1) = es.map (fun p => .tuple (p.1.map keyD)) → kvs.map (·.2) = ds → DnL K M H ds vs → vs = es.map (·.2) → Dn K M H b (.dict kvs) (.ref a)
  | exc {b : Bool} {a C : Addr} {n : Str} : PySem.W.nsIn K mainGlobals n = some (some (.ref C)) → XOk K C → Rd H a (ExC (.ref C) a) → ¬ M a → Dn K M H b (.dict [(.none, .str n)]) (.ref a)
inductive DnL (K : PySem.W.Frag) (M : Addr → Prop) (H : Hp) : List D → List V → Prop
  | nil : DnL K M H [] []
  | cons {x : D} {v : V} {xs : List D} {vs : List V} : Dn K M H true x v → DnL K M H xs vs → DnL K M H (x :: xs) (v :: vs)
end
/-- .. each at its top perhaps changeable -/
inductive DnF (K : PySem.W.Frag) (M : Addr → Prop) (H : Hp) : List D → List V → Prop
  | nil : DnF K M H [] []
  | cons {x : D} {v : V} {xs : List D} {vs : List V} : Dn K M H false x v → DnF K M H xs vs → DnF K M H (x :: xs) (v :: vs)

def Keeps (M : Addr → Prop) (H : Hp) (M' : Addr → Prop) (H' : Hp) : Prop := ∀ a o, H a = some o → ¬ M a → H' a = some o ∧ ¬ M' a
theorem Keeps.refl (M : Addr → Prop) (H : Hp) : Keeps M H M H := fun _ _ h n => ⟨h, n⟩
theorem Keeps.trans {M M1 M2 : Addr → Prop} {H H1 H2 : Hp} (a : Keeps M H M1 H1) (b : Keeps M1 H1 M2 H2) : Keeps M H M2 H2 := fun c o h n =>
  let ⟨h1, n1⟩ := a c o h n
  b c o h1 n1
section
variable {K : PySem.W.Frag} {M M' : Addr → Prop} {H H' : Hp}
theorem Keeps.rd {a : Addr} {u : HO} (k : Keeps M H M' H') (r : Rd H a u) (n : ¬ M a) : Rd H' a u ∧ ¬ M' a := by
  rcases r with r | ⟨o, r⟩
  · exact ⟨.inl (k a _ r n).1, (k a _ r n).2⟩
  · exact ⟨.inr ⟨o, (k a _ r n).1⟩, (k a _ r n).2⟩
mutual
theorem Dn.monoB (k : Keeps M H M' H') : ∀ (b : Bool) (x : D) (v : V), Dn K M H b x v → b = true → Dn K M' H' b x v
  | _, _, _, .non, _ => .non
  | _, _, _, .bl b, _ => .bl b
  | _, _, _, .int i, _ => .int i
  | _, _, _, .str x, _ => .str x
  | _, _, _, .lst r n l, e => .lst (k.rd r (n e)).1 (fun _ => (k.rd r (n e)).2) (DnL.mono k _ _ l)
  | _, _, _, .lstK r l, _ => .lstK r (DnL.mono k _ _ l)
  | _, _, _, .tup r n l, e => .tup (k.rd r n).1 (k.rd r n).2 (DnL.mono k _ _ l)
  | _, _, _, .tupK r l, _ => .tupK r (DnL.mono k _ _ l)
  | _, _, _, .dK r n q0 q l q2, e => .dK (k.rd r (n e)).1 (fun _ => (k.rd r (n e)).2) q0 q (DnL.mono k _ _ l) q2
  | _, _, _, .dT r n q0 q l q2, e => .dT (k.rd r (n e)).1 (fun _ => (k.rd r (n e)).2) q0 q (DnL.mono k _ _ l) q2
  | _, _, _, .exc c x r n, _ => .exc c x (k.rd r n).1 (k.rd r n).2
theorem DnL.mono (k : Keeps M H M' H') : ∀ (xs : List D) (vs : List V), DnL K M H xs vs → DnL K M' H' xs vs
  | _, _, .nil => .nil
  | _, _, .cons a r => .cons (Dn.monoB k _ _ _ a rfl) (DnL.mono k _ _ r)
end
theorem Dn.mono (k : Keeps M H M' H') (x : D) (v : V) (h : Dn K M H true x v) : Dn K M' H' true x v := Dn.monoB k _ _ _ h rfl
mutual
theorem Dn.anti (k : ∀ a, M' a → M a) : ∀ (b : Bool) (x : D) (v : V), Dn K M H b x v → Dn K M' H b x v
  | _, _, _, .non => .non
  | _, _, _, .bl b => .bl b
  | _, _, _, .int i => .int i
  | _, _, _, .str x => .str x
  | _, _, _, .lst r n l => .lst r (fun e z => n e (k _ z)) (DnL.anti k _ _ l)
  | _, _, _, .lstK r l => .lstK r (DnL.anti k _ _ l)
  | _, _, _, .tup r n l => .tup r (fun z => n (k _ z)) (DnL.anti k _ _ l)
  | _, _, _, .tupK r l => .tupK r (DnL.anti k _ _ l)
  | _, _, _, .dK r n q0 q l q2 => .dK r (fun e z => n e (k _ z)) q0 q (DnL.anti k _ _ l) q2
  | _, _, _, .dT r n q0 q l q2 => .dT r (fun e z => n e (k _ z)) q0 q (DnL.anti k _ _ l) q2
  | _, _, _, .exc c x r n => .exc c x r fun z => n (k _ z)
theorem DnL.anti (k : ∀ a, M' a → M a) : ∀ (xs : List D) (vs : List V), DnL K M H xs vs → DnL K M' H xs vs
  | _, _, .nil => .nil
  | _, _, .cons a r => .cons (Dn.anti k _ _ _ a) (DnL.anti k _ _ r)
end
theorem Dn.weak {x : D} {v : V} : Dn K M H true x v → Dn K M H false x v
  | .non => .non
  | .bl b => .bl b
  | .int i => .int i
  | .str x => .str x
  | .lst r n l => .lst r (fun e => nomatch e) l
  | .lstK r l => .lstK r l
  | .tup r n l => .tup r n l
  | .tupK r l => .tupK r l
  | .dK r n q0 q l q2 => .dK r (fun e => nomatch e) q0 q l q2
  | .dT r n q0 q l q2 => .dT r (fun e => nomatch e) q0 q l q2
  | .exc c x r n => .exc c x r n
/-- a tuple is never one that is changed -/
theorem Dn.ever {b : Bool} {xs : List D} {v : V} : Dn K M H b (.tuple xs) v → Dn K M H true (.tuple xs) v
  | .tup r n l => .tup r n l
  | .tupK r l => .tupK r l
theorem DnL.weak : ∀ {xs : List D} {vs : List V}, DnL K M H xs vs → DnF K M H xs vs
  | _, _, .nil => .nil
  | _, _, .cons a r => .cons a.weak r.weak
theorem DnL.length : ∀ {xs : List D} {vs : List V}, DnL K M H xs vs → xs.length = vs.length
  | _, _, .nil => rfl
  | _, _, .cons _ r => by simp [r.length]
theorem DnL.append : ∀ {xs ys : List D} {vs us : List V}, DnL K M H xs vs → DnL K M H ys us → DnL K M H (xs ++ ys) (vs ++ us)
  | _, _, _, _, .nil, s => s
  | _, _, _, _, .cons a r, s => .cons a (r.append s)
theorem DnL.get : ∀ {xs : List D} {vs : List V} {i : Nat} {x : D}, DnL K M H xs vs → xs[i]? = some x → ∃ v, vs[i]? = some v ∧ Dn K M H true x v
  | _, _, _, _, .nil, e => by simp at e
  | _, _, 0, _, .cons a _, e => by simp at e; subst e; exact ⟨_, rfl, a⟩
  | _, _, i + 1, x, .cons _ r, e => by
    obtain ⟨v, h1, h2⟩ := DnL.get (i := i) (x := x) r (by simpa using e)
    exact ⟨v, by simpa using h1, h2⟩
theorem DnL.take : ∀ {xs : List D} {vs : List V} (n : Nat), DnL K M H xs vs → DnL K M H (xs.take n) (vs.take n)
  | _, _, 0, _ => .nil
  | _, _, _ + 1, .nil => .nil
  | _, _, n + 1, .cons a r => .cons a (r.take n)
theorem DnL.drop : ∀ {xs : List D} {vs : List V} (n : Nat), DnL K M H xs vs → DnL K M H (xs.drop n) (vs.drop n)
  | _, _, 0, r => r
  | _, _, _ + 1, .nil => .nil
  | _, _, n + 1, .cons _ r => r.drop n
theorem DnL.set {x : D} {v : V} (a : Dn K M H true x v) : ∀ {xs : List D} {vs : List V} (i : Nat), DnL K M H xs vs → DnL K M H (xs.set i x) (vs.set i v)
  | _, _, _, .nil => .nil
  | _, _, 0, .cons _ r => .cons a r
  | _, _, i + 1, .cons b r => .cons b (DnL.set a i r)
theorem DnL.eraseIdx : ∀ {xs : List D} {vs : List V} (i : Nat), DnL K M H xs vs → DnL K M H (xs.eraseIdx i) (vs.eraseIdx i)
  | _, _, _, .nil => .nil
  | _, _, 0, .cons _ r => r
  | _, _, i + 1, .cons b r => .cons b (r.eraseIdx i)
theorem DnL.reverse : ∀ {xs : List D} {vs : List V}, DnL K M H xs vs → DnL K M H xs.reverse vs.reverse
  | _, _, .nil => .nil
  | _, _, .cons a r => by rw [List.reverse_cons, List.reverse_cons]; exact r.reverse.append (.cons a .nil)
theorem DnL.dropLast {xs : List D} {vs : List V} (h : DnL K M H xs vs) : DnL K M H xs.dropLast vs.dropLast := by
  rw [List.dropLast_eq_take, List.dropLast_eq_take, h.length]; exact h.take _
theorem Dn.sql {b : Bool} {xs : List D} {v : V} (h : Dn K M H b (.list xs) v) : ∃ a vs, v = .ref a ∧ SqL K H a vs ∧ DnL K M H xs vs := by
  cases h with
  | lst r n l => exact ⟨_, _, rfl, .inl r, l⟩
  | lstK r l => exact ⟨_, _, rfl, .inr r, l⟩
theorem Dn.sqt {b : Bool} {xs : List D} {v : V} (h : Dn K M H b (.tuple xs) v) : ∃ a vs, v = .ref a ∧ SqT K H a vs ∧ DnL K M H xs vs := by
  cases h with
  | tup r n l => exact ⟨_, _, rfl, .inl r, l⟩
  | tupK r l => exact ⟨_, _, rfl, .inr r, l⟩
end

/-! ### what stands -/
structure Gh where
  io : List Addr
  A : Addr → Prop
def Gh.plus (G : Gh) (p : Addr) : Gh := { G with A := fun a => a = p ∨ G.A a }
def OwnAt (rho : List Slot) (σ : St) (i : Nat) (a : Addr) : Prop := (∃ x, rho[i]? = some (.own x) ∨ rho[i]? = some (.lck x)) ∧ σ[i]? = some (some (.ref a))
def Own (rho : List Slot) (σ : St) (a : Addr) : Prop := ∃ i, OwnAt rho σ i a
def MM (G : Gh) (rho : List Slot) (σ : St) : Addr → Prop := fun a => a ∈ G.io ∨ Own rho σ a ∨ G.A a
def Cont (K : PySem.W.Frag) (M : Addr → Prop) (H : Hp) (a : Addr) : D → Prop
  | .list xs => ∃ vs, H a = some (.lst vs) ∧ DnL K M H xs vs
  | .dict kvs => (∃ es, H a = some (.dK es) ∧ kvs.map (·.1) = es.map (fun p => keyD p.1) ∧ DnL K M H (kvs.map (·.2)) (es.map (·.2))) ∨
      (∃ es, H a = some (.dT es) ∧ kvs.map (·.1) = es.map (fun p => .tuple (p.1.map keyD)) ∧ DnL K M H (kvs.map (·.2)) (es.map (·.2)))
  | _ => False
/-- a value that may be kept -/
def SD (K : PySem.W.Frag) (io : List Addr) (M : Addr → Prop) (H : Hp) : Vl → V → Prop
  | .d x, v => Dn K M H true x v
  | .r n, v => ∃ a, io[n]? = some a ∧ v = .ref a
  | .pk _, _ => False
def VD (K : PySem.W.Frag) (io : List Addr) (M : Addr → Prop) (σ : St) (H : Hp) : Vl → V → Prop
  | .pk i, v => σ[i]? = some (some v)
  | x, v => SD K io M H x v
structure Ok (K : PySem.W.Frag) (G : Gh) (S : Ste) (σ : St) (H : Hp) : Prop where
  len : S.rho.length = σ.length
  val : ∀ (i : Nat) (x : Vl), S.rho[i]? = some (.v x) → ∃ v, σ[i]? = some (some v) ∧ SD K G.io (MM G S.rho σ) H x v
  own : ∀ (i : Nat) (x : D), (S.rho[i]? = some (.own x) ∨ S.rho[i]? = some (.lck x)) → ∃ a, σ[i]? = some (some (.ref a)) ∧ Cont K (MM G S.rho σ) H a x
  inj : ∀ (i j : Nat) (a : Addr), OwnAt S.rho σ i a → OwnAt S.rho σ j a → i = j
  hlen : G.io.length = S.hp.length
  heap : ∀ (n : Nat) (x : D), S.hp[n]? = some x → ∃ a, G.io[n]? = some a ∧ Cont K (MM G S.rho σ) H a x
  nd : G.io.Nodup
  s1 : ∀ a, a ∈ G.io → ¬ Own S.rho σ a ∧ ¬ G.A a
  s2 : ∀ a, Own S.rho σ a → ¬ G.A a
  tr : ∀ a, G.A a → ∃ o, H a = some o
structure Stp (G : Gh) (S : Ste) (σ : St) (H : Hp) (G' : Gh) (S' : Ste) (σ' : St) (H' : Hp) : Prop where
  io : ∃ l, G'.io = G.io ++ l
  A : G'.A = G.A
  mono : Keeps (MM G S.rho σ) H (MM G' S'.rho σ') H'
  anon : ∀ a, G.A a → H' a = H a
  lck : ∀ (i : Nat) (x : D), S.rho[i]? = some (.lck x) → S'.rho[i]? = some (.lck x) ∧ σ'[i]? = σ[i]?
  tr : ∀ a o, H a = some o → ∃ u, H' a = some u
theorem Stp.refl (G : Gh) (S : Ste) (σ : St) (H : Hp) : Stp G S σ H G S σ H :=
  ⟨⟨[], by simp⟩, rfl, Keeps.refl _ _, fun _ _ => rfl, fun _ _ e => ⟨e, rfl⟩, fun _ o e => ⟨o, e⟩⟩
theorem Stp.trans {G G1 G2 : Gh} {S S1 S2 : Ste} {σ σ1 σ2 : St} {H H1 H2 : Hp} (a : Stp G S σ H G1 S1 σ1 H1) (b : Stp G1 S1 σ1 H1 G2 S2 σ2 H2) : Stp G S σ H G2 S2 σ2 H2 := by
  refine ⟨?_, b.A.trans a.A, a.mono.trans b.mono, fun c h => ?_, fun i x e => ?_, fun c o e => let ⟨o1, e1⟩ := a.tr c o e; b.tr c o1 e1⟩
  · obtain ⟨l, e⟩ := a.io
    obtain ⟨l2, e2⟩ := b.io
    exact ⟨l ++ l2, by rw [e2, e, List.append_assoc]⟩
  · rw [b.anon c (by rw [a.A]; exact h), a.anon c h]
  · obtain ⟨e1, e2⟩ := a.lck i x e
    obtain ⟨e3, e4⟩ := b.lck i x e1
    exact ⟨e3, e4.trans e2⟩
section
variable {K : PySem.W.Frag} {G G' : Gh} {S S' : Ste} {σ σ' : St} {H H' : Hp}
theorem Ok.tracked (o : Ok K G S σ H) {a : Addr} (h : MM G S.rho σ a) : ∃ u, H a = some u := by
  have cont : ∀ x, Cont K (MM G S.rho σ) H a x → ∃ u, H a = some u := fun x c => by
    cases x with
    | list xs => obtain ⟨vs, e, _⟩ := c; exact ⟨_, e⟩
    | dict kvs => rcases c with ⟨_, e, _⟩ | ⟨_, e, _⟩ <;> exact ⟨_, e⟩
    | _ => exact c.elim
  rcases h with h | ⟨i, ⟨x, h⟩, e⟩ | h
  · obtain ⟨n, hn, e⟩ := List.getElem_of_mem h
    have hn' : n < S.hp.length := by rw [← o.hlen]; exact hn
    obtain ⟨b, eb, c⟩ := o.heap n _ (List.getElem?_eq_getElem hn')
    rw [List.getElem?_eq_getElem hn] at eb
    have : G.io[n] = b := Option.some.inj eb
    rw [← this, e] at c
    exact cont _ c
  · obtain ⟨b, eb, c⟩ := o.own i x h
    rw [e] at eb
    cases eb
    exact cont _ c
  · exact o.tr a h
theorem SD.mono {io io' : List Addr} {M M' : Addr → Prop} {x : Vl} {v : V} (k : Keeps M H M' H') (l : ∃ l, io' = io ++ l) (h : SD K io M H x v) : SD K io' M' H' x v := by
  cases x with
  | d x => exact Dn.mono k _ _ h
  | r n =>
    obtain ⟨a, e, rfl⟩ := h
    obtain ⟨l, rfl⟩ := l
    refine ⟨a, ?_, rfl⟩
    rw [List.getElem?_append_left (List.getElem?_eq_some_iff.mp e).1]
    exact e
  | pk i => exact h.elim
theorem VD.step {x : Vl} {v : V} (st : Stp G S σ H G' S' σ H') (h : VD K G.io (MM G S.rho σ) σ H x v) : VD K G'.io (MM G' S'.rho σ) σ H' x v := by
  cases x with
  | pk i => exact h
  | d x => exact SD.mono (K := K) (x := .d x) st.mono st.io h
  | r n => exact SD.mono (K := K) (x := .r n) st.mono st.io h
/-- what a value is as data -/
theorem Ok.res (o : Ok K G S σ H) {x : Vl} {v : V} {d : D} (h : VD K G.io (MM G S.rho σ) σ H x v) (e : S.res x = some d) : Dn K (MM G S.rho σ) H false d v := by
  have cont : ∀ (a : Addr) (x : D), Cont K (MM G S.rho σ) H a x → Dn K (MM G S.rho σ) H false x (.ref a) := fun a x c => by
    cases x with
    | list xs => obtain ⟨vs, e, l⟩ := c; exact .lst (.inl e) (fun z => nomatch z) l
    | dict kvs =>
      rcases c with ⟨es, e, ek, l⟩ | ⟨es, e, ek, l⟩
      · exact .dK (.inl e) (fun z => nomatch z) ek rfl l rfl
      · exact .dT (.inl e) (fun z => nomatch z) ek rfl l rfl
    | _ => exact c.elim
  have href : ∀ n a, G.io[n]? = some a → S.hp[n]? = some d → Dn K (MM G S.rho σ) H false d (.ref a) := fun n a e1 e2 => by
    obtain ⟨b, e3, c⟩ := o.heap n d e2
    rw [e1] at e3
    cases e3
    exact cont _ _ c
  cases x with
  | d x =>
    cases e
    exact Dn.weak h
  | r n =>
    obtain ⟨a, e1, rfl⟩ := h
    exact href n a e1 e
  | pk i =>
    have h : σ[i]? = some (some v) := h
    unfold Ste.res at e
    simp only at e
    split at e
    · rename_i y hy
      cases e
      obtain ⟨u, h1, h2⟩ := o.val i _ hy
      rw [h] at h1
      cases h1
      exact Dn.weak h2
    · rename_i n hy
      obtain ⟨u, h1, a, h2, rfl⟩ := o.val i _ hy
      rw [h] at h1
      cases h1
      exact href n a h2 e
    · rename_i y hy
      cases e
      obtain ⟨a, h1, h2⟩ := o.own i _ (.inl hy)
      rw [h] at h1
      cases h1
      exact cont _ _ h2
    · rename_i y hy
      cases e
      obtain ⟨a, h1, h2⟩ := o.own i _ (.inr hy)
      rw [h] at h1
      cases h1
      exact cont _ _ h2
    · cases e
inductive VDs (K : PySem.W.Frag) (io : List Addr) (M : Addr → Prop) (σ : St) (H : Hp) : List Vl → List V → Prop
  | nil : VDs K io M σ H [] []
  | cons {x : Vl} {v : V} {xs : List Vl} {vs : List V} : VD K io M σ H x v → VDs K io M σ H xs vs → VDs K io M σ H (x :: xs) (v :: vs)
theorem VDs.step : ∀ {xs : List Vl} {vs : List V} (st : Stp G S σ H G' S' σ H') (h : VDs K G.io (MM G S.rho σ) σ H xs vs), VDs K G'.io (MM G' S'.rho σ) σ H' xs vs
  | _, _, _, .nil => .nil
  | _, _, st, .cons a r => .cons (VD.step st a) (VDs.step st r)
theorem Ok.ress (o : Ok K G S σ H) : ∀ {xs : List Vl} {vs : List V} {ds : List D}, VDs K G.io (MM G S.rho σ) σ H xs vs → S.ress xs = some ds → DnF K (MM G S.rho σ) H ds vs
  | _, _, _, .nil, e => by cases e; exact .nil
  | x :: xs, v :: vs, ds, .cons a r, e => by
    unfold Ste.ress at e
    split at e
    · rename_i d ds' h1 h2
      cases e
      exact .cons (o.res a h1) (o.ress r h2)
    · cases e
theorem VDs.dats : ∀ {xs : List Vl} {vs : List V} {ds : List D}, VDs K G.io (MM G S.rho σ) σ H xs vs → dats xs = some ds → DnL K (MM G S.rho σ) H ds vs
  | _, _, _, .nil, e => by cases e; exact .nil
  | .d x :: xs, v :: vs, ds, .cons a r, e => by
    unfold EV.dats at e
    cases h : EV.dats xs with
    | none => rw [h] at e; cases e
    | some ds' =>
      rw [h] at e
      cases e
      exact .cons a (r.dats h)
  | .r _ :: xs, v :: vs, ds, .cons a r, e => by cases e
  | .pk _ :: xs, v :: vs, ds, .cons a r, e => by cases e
end
end EV
end
section
set_option Elab.async false
set_option linter.all false
set_option maxRecDepth 100000
set_option autoImplicit false
set_option maxHeartbeats 4000000
/-! EvC: readings of what a term comes to -/
namespace EV
open PySem L2

abbrev WX := Nat → St → Hp → Prop
abbrev RL (α β : Type) := St → Gh → Ste → Hp → α → β → Prop
def Post {α β : Type} (K : PySem.W.Frag) (W : WX) (R : RL α β) (G : Gh) (S : Ste) (σ : St) (H : Hp) (Q : β → Hp → Prop) : Res α → Prop
  | .ok x S' => ∀ G' v H', Ok K G' S' σ H' → Stp G S σ H G' S' σ H' → R σ G' S' H' x v → Q v H'
  | .er c S' => ∀ G' H', Ok K G' S' σ H' → Stp G S σ H G' S' σ H' → W c σ H'
  | .stuck => False
def At {α β : Type} (K : PySem.W.Frag) (W : WX) (R : RL α β) (r : Ste → Res α) : St → Hp → (β → Hp → Prop) → Prop := fun σ H Q => ∃ G S, Ok K G S σ H ∧ Post K W R G S σ H Q (r S)
def RV (K : PySem.W.Frag) : RL Vl V := fun σ G S H x v => VD K G.io (MM G S.rho σ) σ H x v
def RVs (K : PySem.W.Frag) : RL (List Vl) (List V) := fun σ G S H x v => VDs K G.io (MM G S.rho σ) σ H x v
def RB : RL Bool Bool := fun _ _ _ _ x v => x = v
def tE (K : PySem.W.Frag) (W : WX) (r : Ste → Res Vl) : TE := fun σ H Q => At K W (RV K) r σ H Q
def tA (K : PySem.W.Frag) (W : WX) (r : Ste → Res (List Vl)) : TA := fun σ H Q => At K W (RVs K) r σ H Q
def tT (K : PySem.W.Frag) (W : WX) (r : Ste → Res Bool) : TT := fun σ H Q => At K W RB r σ H Q
theorem _root_.L2.PE.imp {X : Cx} {e : Expr} {t t' : TE} (h : PE X e t) (i : ∀ σ H Q, t' σ H Q → t σ H Q) : PE X e t' := ⟨fun p s σ H Q I q => h.run p s σ H Q I (i _ _ _ q)⟩
theorem _root_.L2.PT.imp {X : Cx} {e : Expr} {t t' : TT} (h : PT X e t) (i : ∀ σ H Q, t' σ H Q → t σ H Q) : PT X e t' := ⟨fun p s σ H Q I q => h.run p s σ H Q I (i _ _ _ q)⟩
theorem _root_.L2.PW.imp {X : Cx} {e : Expr} {t t' : TT} (h : PW X e t) (i : ∀ σ H Q, t' σ H Q → t σ H Q) : PW X e t' := ⟨fun w p s σ H Q I q => h.run w p s σ H Q I (i _ _ _ q)⟩
theorem _root_.L2.PA.imp {X : Cx} {e : List Expr} {t t' : TA} (h : PA X e t) (i : ∀ σ H Q, t' σ H Q → t σ H Q) : PA X e t' := ⟨fun o p s σ H Q I q => h.run o p s σ H Q I (i _ _ _ q)⟩
theorem _root_.L2.PS.imp {X : Cx} {e : Stmt} {t t' : TS} (h : PS X e t) (i : ∀ D σ H, t' D σ H → t D σ H) : PS X e t' := ⟨fun p s σ H D I q => h.run p s σ H D I (i _ _ _ q)⟩
theorem _root_.L2.PSs.imp {X : Cx} {e : List Stmt} {t t' : TS} (h : PSs X e t) (i : ∀ D σ H, t' D σ H → t D σ H) : PSs X e t' := ⟨fun p s σ H D I q => h.run p s σ H D I (i _ _ _ q)⟩
theorem _root_.L2.PG.imp {X : Cx} {e : Expr} {t t' : TG} (h : PG X e t) (i : ∀ v σ H Q, t' v σ H Q → t v σ H Q) : PG X e t' := ⟨fun p s σ H v u Q I r q => h.run p s σ H v u Q I r (i _ _ _ _ q)⟩
theorem _root_.L2.PI.imp {X : Cx} {g e : Expr} {t t' : TI} (h : PI X g e t) (i : ∀ σ H Q, t' σ H Q → t σ H Q) : PI X g e t' := ⟨fun p s σ H R I q => h.run p s σ H R I (i _ _ _ q)⟩
section
variable {α β γ δ : Type} {K : PySem.W.Frag} {W : WX} {R : RL α β} {R' : RL γ δ} {G G1 : Gh} {S S1 : Ste} {σ : St} {H H1 : Hp}
theorem Post.shift {Q : β → Hp → Prop} {r : Res α} (h : Post K W R G S σ H Q r) (st : Stp G S σ H G1 S1 σ H1) : Post K W R G1 S1 σ H1 Q r := by
  cases r with
  | ok x S' => exact fun G' v H' o s r => h G' v H' o (st.trans s) r
  | er c S' => exact fun G' H' o s => h G' H' o (st.trans s)
  | stuck => exact h
theorem Post.seq {Q : δ → Hp → Prop} {Q' : β → Hp → Prop} {r : Res α} {f : α → Ste → Res γ} (h : Post K W R' G S σ H Q (r.bind f))
    (k : ∀ G1 S1 x v H1, Ok K G1 S1 σ H1 → Stp G S σ H G1 S1 σ H1 → R σ G1 S1 H1 x v → Post K W R' G1 S1 σ H1 Q (f x S1) → Q' v H1) : Post K W R G S σ H Q' r := by
  cases r with
  | ok x S' => exact fun G' v H' o s r => k G' S' x v H' o s r (h.shift s)
  | er c S' => exact h
  | stuck => exact h
theorem Post.of {Q : β → Hp → Prop} {o : Option α} (h : Post K W R G S σ H Q (Res.of o S)) : ∃ x, o = some x ∧ Post K W R G S σ H Q (.ok x S) := by
  cases o with
  | none => exact h.elim
  | some x => exact ⟨x, rfl, h⟩
/-- further things are laid, nothing else is done -/
theorem Ok.same (o : Ok K G S σ H) (s : Same H H1) : Ok K G S σ H1 := by
  have k : Keeps (MM G S.rho σ) H (MM G S.rho σ) H1 := fun a u h n => ⟨s a u h, n⟩
  have cont : ∀ a x, Cont K (MM G S.rho σ) H a x → Cont K (MM G S.rho σ) H1 a x := fun a x c => by
    cases x with
    | list xs => obtain ⟨vs, e, l⟩ := c; exact ⟨vs, s _ _ e, DnL.mono k _ _ l⟩
    | dict kvs =>
      rcases c with ⟨es, e, q, l⟩ | ⟨es, e, q, l⟩
      · exact .inl ⟨es, s _ _ e, q, DnL.mono k _ _ l⟩
      · exact .inr ⟨es, s _ _ e, q, DnL.mono k _ _ l⟩
    | _ => exact c.elim
  refine ⟨o.len, fun i x e => ?_, fun i x e => ?_, o.inj, o.hlen, fun n x e => ?_, o.nd, o.s1, o.s2, fun a h => ?_⟩
  · obtain ⟨v, h1, h2⟩ := o.val i x e
    exact ⟨v, h1, SD.mono k ⟨[], by simp⟩ h2⟩
  · obtain ⟨a, h1, h2⟩ := o.own i x e
    exact ⟨a, h1, cont _ _ h2⟩
  · obtain ⟨a, h1, h2⟩ := o.heap n x e
    exact ⟨a, h1, cont _ _ h2⟩
  · obtain ⟨u, h⟩ := o.tr a h
    exact ⟨u, s _ _ h⟩
theorem Stp.same (o : Ok K G S σ H) (s : Same H H1) : Stp G S σ H G S σ H1 :=
  ⟨⟨[], by simp⟩, rfl, fun a u h n => ⟨s a u h, n⟩, fun a h => by obtain ⟨u, e⟩ := o.tr a h; rw [e]; exact s _ _ e, fun _ _ e => ⟨e, rfl⟩, fun a o e => ⟨o, s a o e⟩⟩
end
theorem Same.upd {H : Hp} {p : Addr} {o : HO} (h : H p = none) : Same H (upd H p o) := fun b x e => by
  rw [upd_ne (ne_of_none e h)]
  exact e
section
variable {K : PySem.W.Frag} {M : Addr → Prop} {H : Hp}
theorem Keeps.upd {p : Addr} {o : HO} (h : H p = none) : Keeps M H M (upd H p o) := fun a u e n => ⟨Same.upd h a u e, n⟩
theorem newL {p : Addr} {xs : List D} {vs : List V} (tr : ∀ a, M a → ∃ o, H a = some o) (h : H p = none) (l : DnL K M H xs vs) : Dn K M (upd H p (.lst vs)) true (.list xs) (.ref p) :=
  .lst (.inl upd_same) (fun _ m => by obtain ⟨o, e⟩ := tr p m; rw [h] at e; cases e) (DnL.mono (Keeps.upd h) _ _ l)
theorem newT {p : Addr} {xs : List D} {vs : List V} (tr : ∀ a, M a → ∃ o, H a = some o) (h : H p = none) (l : DnL K M H xs vs) : Dn K M (upd H p (.tup vs)) true (.tuple xs) (.ref p) :=
  .tup (.inl upd_same) (fun m => by obtain ⟨o, e⟩ := tr p m; rw [h] at e; cases e) (DnL.mono (Keeps.upd h) _ _ l)
/-- a new list at a -/
def NewC (K : PySem.W.Frag) (M : Addr → Prop) (H : Hp) (d : D) (a : Addr) (H' : Hp) : Prop := (isC d = true → H a = none) ∧ ∀ ys, d = .list ys → ∃ us, H' = upd H a (.lst us) ∧ DnL K M H ys us
theorem NewC.of {K : PySem.W.Frag} {M : Addr → Prop} {H : Hp} {d : D} {a : Addr} {H' : Hp} (n : H a = none) (h : ∀ ys, d = .list ys → ∃ us, H' = upd H a (.lst us) ∧ DnL K M H ys us) : NewC K M H d a H' := ⟨fun _ => n, h⟩
theorem NewC.tup {K : PySem.W.Frag} {M : Addr → Prop} {H : Hp} {xs : List D} {a : Addr} {H' : Hp} : NewC K M H (.tuple xs) a H' := ⟨fun c => (nomatch c), fun ys e => (nomatch e)⟩
/-- an operation on data that changes nothing -/
def rP (K : PySem.W.Frag) (fr : Bool) (g : List D → Option D) : List V → Hp → VK → Prop := fun vs H Q => ∃ (M : Addr → Prop) (ds : List D) (d : D), (∀ a, M a → ∃ o, H a = some o) ∧ DnF K M H ds vs ∧ g ds = some d ∧
  ∀ z H', Same H H' → Dn K M H' true d z → (fr = true → ∀ a, z = .ref a → NewC K M H d a H') → Q z H'
end
section
variable {K : PySem.W.Frag} {W : WX} {G : Gh} {S : Ste} {σ : St} {H : Hp}
theorem rP_of {fr : Bool} {g : List D → Option D} {xs : List Vl} {vs : List V} {Q : VK} (o : Ok K G S σ H) (h : VDs K G.io (MM G S.rho σ) σ H xs vs) (p : Post K W (RV K) G S σ H Q (Res.of (((S.ress xs).bind g).map .d) S)) : rP K fr g vs H Q := by
  obtain ⟨x, e, p⟩ := Post.of p
  cases e1 : S.ress xs with
  | none => rw [e1] at e; cases e
  | some ds =>
    rw [e1] at e
    cases e2 : g ds with
    | none =>
      have : Option.map Vl.d (g ds) = some x := e
      rw [e2] at this
      cases this
    | some d =>
      have : Option.map Vl.d (g ds) = some x := e
      rw [e2] at this
      cases this
      exact ⟨MM G S.rho σ, ds, d, fun a m => o.tracked m, o.ress h e1, e2, fun z H' s dn _ => p G z H' (o.same s) (Stp.same o s) dn⟩
end

/-! ### arguments -/
section
variable {X : Cx} {K : PySem.W.Frag} {W : WX}
theorem sa_nil {P : Env} : PA X [] (tA K W (evs P .nil)) := pa_nil.imp fun σ H Q h => by
  obtain ⟨G, S, o, p⟩ := h
  unfold evs at p
  exact p G [] H o (Stp.refl _ _ _ _) .nil
theorem sa_cons {P : Env} {e : Expr} {es : List Expr} {a : C} {as : Cs} (ha : PE X e (tE K W (ev P a))) (hr : PA X es (tA K W (evs P as))) (hs : starEach (e :: es) X.env = (false, eval e X.env) :: starEach es X.env) : PA X (e :: es) (tA K W (evs P (.cons a as))) := (pa_cons ha hr hs).imp fun σ H Q h => by
  obtain ⟨G, S, o, p⟩ := h
  unfold evs at p
  exact ⟨G, S, o, p.seq fun G1 S1 x v H1 o1 st1 r1 p1 => ⟨G1, S1, o1, p1.seq fun G2 S2 xs vs H2 o2 st2 r2 p2 => p2 G2 _ _ o2 (Stp.refl _ _ _ _) (.cons (VD.step st2 r1) r2)⟩⟩
end
end EV
end
section
set_option Elab.async false
set_option linter.all false
set_option maxRecDepth 100000
set_option maxHeartbeats 4000000
set_option autoImplicit false
/-! EvOd: a tuple beside a dict; a dict in a list of tuples -/
namespace EV
open PySem PySem.Spec PySem.SeqAt L2
theorem tuple_eq_declines_dict (l b : Addr) (items : Array Value) (es : Array DictEntry) (n n2 : Nat) (dd dd2 : Option Addr) (sl sl2 : Array (Option Value)) :
    Meets (Builtin.«tuple.__eq__» ⟨[.ref l, .ref b], []⟩) (fun _ R s => s.heap.get? l = some { cls := .type "tuple", dict := dd, data := .seq items n, slots := sl } ∧ s.heap.get? b = some { cls := .type "dict", dict := dd2, data := .dict es n2, slots := sl2 } ∧ R (.ok (.ret .notImplemented)) s) :=
  .of_wp fun prog w A R s h => by obtain ⟨hp, g, d, tk, os⟩ := s; obtain ⟨hl, hb, h⟩ := h; have f1 := F.sub_dict_tuple; wp_walk using wpAny_loadPart' hl, wpAny_loadPart' hb; exact ⟨_, rfl, h⟩
theorem dict_eq_declines {prog : Program} {w : World} {A : Around} {E : Value → Shared → Prop} {s : Shared} {l b : Addr} {items : Array Value} {es : Array DictEntry} {n n2 : Nat} {dd dd2 : Option Addr} {sl sl2 : Array (Option Value)} {Q : Value → Shared → Prop}
    (hl : s.heap.get? l = some { cls := .type "tuple", dict := dd, data := .seq items n, slots := sl }) (hb : s.heap.get? b = some { cls := .type "dict", dict := dd2, data := .dict es n2, slots := sl2 }) (hq : Q .notImplemented s) :
    wpAny (model prog w) A (call (.builtin "dict.__eq__") [.ref b, .ref l]) Q E s := by
  have tb : s.TypeIs (.ref b) "dict" := ⟨_, hb, rfl⟩
  have tl : s.TypeIs (.ref l) "tuple" := ⟨_, hl, rfl⟩
  refine wpAny_call_entry PySem.F.slot_dict_eq tb PySem.F.entry_dict_eq ?_ (PySem.F.args_dict_eq_2 _ _)
  show wpAny _ _ (Builtin.Dict.dictSlotArgs "__eq__" ⟨[.ref b, .ref l], []⟩ >>= _) _ _ s
  refine wpAny_bind ?_
  unfold Builtin.Dict.dictSlotArgs
  refine wpAny_bind (wpAny_notOrdered_dict tb ?_)
  show wpAny _ _ (pure (Value.ref b, Value.ref l)) _ _ s
  refine wpAny_pure ?_
  refine wpAny_bind (wpAny_isInstance (T := "tuple") tl F.sub_tuple_dict ?_)
  simp only [Bool.not_false, if_true]
  exact wpAny_bind (wpAny_rule (wpAny_pure ⟨_, rfl, hq⟩))
section
variable {A : Around} {s : Shared}
theorem eqAt_tuple_dict {l b : Addr} {items : Array Value} {o : Obj} {es : Array DictEntry} {n : Nat} (hl : s.heap.IsTuple l items) (hb : s.heap.get? b = some o) (hc2 : o.cls = .type "dict") (hd2 : o.data = .dict es n) (hu : A.units < cLine) : EqAt A s (.ref l) (.ref b) false := by
  have hne : l ≠ b := fun e => by
    subst e
    obtain ⟨o', ho, hc, _⟩ := hl
    rw [hb] at ho
    cases ho
    rw [hc2] at hc
    exact absurd hc (by simp)
  refine .of_refs hne fun prog w E Q h => ?_
  obtain ⟨⟨cls, dd, data, sl⟩, ho, hc, n1, hd⟩ := id hl
  obtain ⟨cls2, dd2, data2, sl2⟩ := o
  simp only at hc hd hc2 hd2
  subst hc hd hc2 hd2
  exact (rc_eq_decline_or (k := false) ⟨_, ho, rfl⟩ ⟨_, hb, rfl⟩ (by decide) F.sub_dict_tuple F.slot_tuple_eq F.slot_dict_eq_refl
    (fun _ hq => call_meets F.slot_tuple_eq ⟨_, ho, rfl⟩ F.entry_tuple_eq (F.args_tuple_eq_2 _ _) (tuple_eq_declines_dict l b items es n1 n dd dd2 sl sl2) ⟨ho, hb, hq⟩)
    (fun _ hq => dict_eq_declines ho hb hq)
    (fun _ hq => wpAny_isSame_ref_other' hne ho hb (by simp) hq) (.inr hu) h)
end
theorem dictNo_of {x : D} {ys : List D} {d : D} (h : dictNo x ys = some d) : ∃ kvs, x = .dict kvs ∧ isX kvs = false ∧ (∀ y ∈ ys, ∃ zs, y = .tuple zs) ∧ d = .bool false := by
  cases x with
  | dict kvs =>
    have h : (if !isX kvs && ys.all isTupD then some (PyData.bool false) else none) = some d := h
    by_cases hl : (!isX kvs && ys.all isTupD) = true
    · rw [if_pos hl] at h
      cases h
      rw [Bool.and_eq_true, Bool.not_eq_true'] at hl
      refine ⟨kvs, rfl, hl.1, fun y hy => ?_, rfl⟩
      have := List.all_eq_true.mp hl.2 y hy
      cases y with
      | tuple zs => exact ⟨zs, rfl⟩
      | _ => cases this
    · rw [if_neg hl] at h
      cases h
  | _ => cases h
section
variable {X : Cx}
theorem Dn.dobj {pins : List (Addr × Obj)} {σ : St} {H : Hp} {s : Shared} {M : Addr → Prop} {x : V} {v : Value} {b : Bool} {kvs : List (D × D)} (I : Inv X pins σ H s) (nx : isX kvs = false) (h : Dn X.K M H b (.dict kvs) x) (r : RelV x v) :
    ∃ a o es n, v = .ref a ∧ s.heap.get? a = some o ∧ o.cls = .type "dict" ∧ o.data = .dict es n := by
  cases h with
  | dK e _ q0 q l q2 =>
    cases r
    obtain ⟨_, far, ps, kv, o, a, n, g, c, dt, _, pr, _⟩ := dk_rd I.hok e
    exact ⟨_, o, _, _, rfl, g, c.1, dt⟩
  | dT e _ q0 q l q2 =>
    cases r
    obtain ⟨_, far, xs, kt, o, a, n, g, c, dt, ee, ks, _⟩ := dt_rd I.hok e
    exact ⟨_, o, _, _, rfl, g, c.1, dt⟩
  | exc _ _ _ _ => exact nomatch (show true = false from nx)
theorem tups_mem {pins : List (Addr × Obj)} {σ : St} {H : Hp} {s : Shared} {M : Addr → Prop} (I : Inv X pins σ H s) : ∀ {ys : List D} {vs : List V} {its : List Value}, DnL X.K M H ys vs → Vals vs its → (∀ y ∈ ys, ∃ zs, y = PyData.tuple zs) → ∀ u ∈ its, ∃ l items, u = .ref l ∧ s.heap.IsTuple l items
  | _, _, _, .nil, r, _ => by cases r; exact fun u m => nomatch m
  | _, _, _, .cons a l, r, t => by
    cases r with
    | cons r1 r2 =>
      intro u m
      cases m with
      | tail _ m => exact tups_mem I l r2 (fun y hy => t y (List.Mem.tail _ hy)) u m
      | head =>
        obtain ⟨zs, rfl⟩ := t _ List.mem_cons_self
        obtain ⟨a1, vs1, rfl, h1, _⟩ := a.sqt
        cases r1
        obtain ⟨i1, _, ⟨o, g, c, n, dt⟩, _⟩ := I.tuple h1
        exact ⟨_, _, rfl, _, g, c, _, dt⟩
theorem in_no {pins : List (Addr × Obj)} {σ : St} {H : Hp} {s : Shared} {M : Addr → Prop} {x y : V} {v u : Value} {b b' : Bool} {kvs : List (D × D)} {ys : List D} {Q : Value → Shared → Prop} {E : Value → Shared → Prop} (hu : X.A.units + 200 < cLine) (I : Inv X pins σ H s) (nx : isX kvs = false) (ha : Dn X.K M H b (.dict kvs) x) (hb : Dn X.K M H b' (.list ys) y) (rx : RelV x v) (ry : RelV y u)
    (t : ∀ y ∈ ys, ∃ zs, y = PyData.tuple zs) (h : Q (.bool false) s) : wpAny (model X.prog X.w) X.A (compareOp .In v u) Q E s := by
  obtain ⟨a, o, es, n, rfl, g, c, dt⟩ := Dn.dobj I nx ha rx
  obtain ⟨a2, us, rfl, h2, l2⟩ := hb.sql
  cases ry
  obtain ⟨its, rv, p1, _⟩ := I.list h2
  refine in_listAt (fun _ => false) p1.isList (fun z m => ?_) ?_
  · obtain ⟨l, items, rfl, tl⟩ := tups_mem I l2 rv t z (by simpa using m)
    exact eqAt_tuple_dict tl g c dt (show X.A.units + 1 < cLine by omega)
  · rw [show (its.toArray.any fun _ => false) = false by simp]
    exact h
end
end EV
end
section
set_option Elab.async false
set_option linter.all false
set_option maxRecDepth 100000
set_option maxHeartbeats 4000000
set_option autoImplicit false
/-! EvO: operations on data -/
namespace EV
open PySem L2
theorem DnF.one {K : PySem.W.Frag} {M : Addr → Prop} {H : Hp} {ds : List D} {x : V} (h : DnF K M H ds [x]) : ∃ a, ds = [a] ∧ Dn K M H false a x := by
  cases h with
  | cons a r => cases r; exact ⟨_, rfl, a⟩
theorem DnF.two {K : PySem.W.Frag} {M : Addr → Prop} {H : Hp} {ds : List D} {x y : V} (h : DnF K M H ds [x, y]) : ∃ a b, ds = [a, b] ∧ Dn K M H false a x ∧ Dn K M H false b y := by
  cases h with
  | cons a r => cases r with
    | cons b r => cases r; exact ⟨_, _, rfl, a, b⟩
section
variable {X : Cx} {pins : List (Addr × Obj)} {σ : St} {H : Hp} {s : Shared} {M : Addr → Prop}
/-! ### data is read -/
mutual
theorem Dn.reads (I : Inv X pins σ H s) : ∀ (b : Bool) (d : D) (v : V) (u : Value), Dn X.K M H b d v → RelV v u → d.plain = true → ∃ as, Reads s.heap u d as
  | _, .none, _, _, h, r, _ => by
    cases h
    cases r
    exact ⟨_, Reads.none⟩
  | _, .bool b, _, _, h, r, _ => by
    cases h
    cases r
    exact ⟨_, Reads.bool b⟩
  | _, .int i, _, _, h, r, _ => by
    cases h
    obtain ⟨t, rfl⟩ := r
    exact ⟨_, Reads.int i t⟩
  | _, .str x, _, _, h, r, _ => by
    cases h
    obtain ⟨t, rfl⟩ := r
    exact ⟨_, Reads.str x t⟩
  | _, .list ds, _, _, h, r, p => by
    obtain ⟨a, vs, rfl, hs, ha⟩ := h.sql
    cases r
    obtain ⟨its, rv, ⟨o, n, ho, hc, _, hd⟩, _⟩ := I.list hs
    obtain ⟨as, hr⟩ := DnL.reads I ds _ its ha rv (by simpa [PyData.plain] using p)
    exact ⟨_, Reads.list ho hc hd hr⟩
  | _, .tuple ds, _, _, h, r, p => by
    obtain ⟨a, vs, rfl, hs, ha⟩ := h.sqt
    cases r
    obtain ⟨its, rv, ⟨o, ho, hc, n, hd⟩, _⟩ := I.tuple hs
    obtain ⟨as, hr⟩ := DnL.reads I ds _ its ha rv (by simpa [PyData.plain] using p)
    exact ⟨_, Reads.tuple ho hc hd hr⟩
  | _, .dict _, _, _, _, _, p => by simp [PyData.plain] at p
theorem DnL.reads (I : Inv X pins σ H s) : ∀ (ds : List D) (vs : List V) (us : List Value), DnL X.K M H ds vs → Vals vs us → PyData.plainAll ds = true → ∃ as, ReadsAll s.heap us ds as
  | [], _, _, h, r, _ => by
    cases h
    cases r
    exact ⟨_, ReadsAll.nil⟩
  | d :: ds, _, _, h, r, p => by
    simp only [PyData.plainAll, Bool.and_eq_true] at p
    cases h with
    | cons h1 h2 =>
      cases r with
      | cons r1 r2 =>
        obtain ⟨as, q1⟩ := Dn.reads I true d _ _ h1 r1 p.1
        obtain ⟨bs, q2⟩ := DnL.reads I ds _ _ h2 r2 p.2
        exact ⟨_, ReadsAll.cons q1 q2⟩
end
end
section
variable {X : Cx}
def OpP (X : Cx) (f : Value → Value → Sem Value) (fr : Bool) (g : List D → Option D) : Prop := OpR X f fun x y H Q => rP X.K fr g [x, y] H Q
theorem fin0 {K : PySem.W.Frag} {M : Addr → Prop} {d : D} {H' : Hp} {fr : Bool} {z : V} (h : ∀ a, z ≠ .ref a) (H : Hp) : fr = true → ∀ a, z = .ref a → NewC K M H d a H' := fun _ a e => absurd e (h a)
theorem o_sub : OpP X (binaryOp .Sub) true fSub := by
  intro pins s σ H x y v u Q I rx ry h
  obtain ⟨M, ds, d, tr, hd, hg, q⟩ := h
  obtain ⟨a, b, rfl, ha, hb⟩ := hd.two
  unfold fSub at hg
  split at hg
  · rename_i i j e
    cases e; cases hg; cases ha; cases hb
    exact op_sub pins s σ H _ _ v u Q I rx ry ⟨_, _, rfl, rfl, q _ H (Same.refl H) (.int _) (fin0 (by intro a e; cases e) H)⟩
  · cases hg
theorem o_add : OpP X (binaryOp .Add) true fAdd := by
  intro pins s σ H x y v u Q I rx ry h
  obtain ⟨M, ds, d, tr, hd, hg, q⟩ := h
  obtain ⟨a, b, rfl, ha, hb⟩ := hd.two
  unfold fAdd at hg
  split at hg
  · rename_i i j e
    cases e; cases hg; cases ha; cases hb
    exact op_add pins s σ H _ _ v u Q I rx ry ⟨_, _, rfl, rfl, q _ H (Same.refl H) (.int _) (fin0 (by intro a e; cases e) H)⟩
  · rename_i i j e
    cases e
    split at hg
    · rename_i hl
      cases hg; cases ha; cases hb
      exact op_add_str pins s σ H _ _ v u Q I rx ry ⟨_, _, rfl, rfl, Nat.le_trans hl (by decide), q _ H (Same.refl H) (.str _) (fin0 (by intro a e; cases e) H)⟩
    · cases hg
  · rename_i as bs e
    cases e
    split at hg
    · rename_i hl
      cases hg
      obtain ⟨p1, vs, rfl, h1, l1⟩ := ha.sql
      obtain ⟨p2, us, rfl, h2, l2⟩ := hb.sql
      cases rx; cases ry
      obtain ⟨its, r1, ⟨⟨c1, d1, t1, sl1⟩, n1, e1, hc1, hd1, hs1⟩, z1⟩ := I.list h1
      obtain ⟨its2, r2, ⟨⟨c2, d2, t2, sl2⟩, n2, e2, hc2, hd2, hs2⟩, z2⟩ := I.list h2
      simp only at hc1 hd1 hs1 hc2 hd2 hs2
      subst hc1 hd1 hs1 hc2 hd2 hs2
      have hlen : vs.length + us.length ≤ sizeLine := by
        have e1 := l1.length
        have e2 := l2.length
        have h4 : lim = 1000000 := rfl
        have h5 : sizeLine = 16777216 := sizeLine_eq
        omega
      have e : its.toArray ++ its2.toArray = (its ++ its2).toArray := by simp
      refine concat_meets ⟨_, e1, rfl⟩ ⟨_, e2, rfl⟩ noFill_list_add seq_list_add PySem.F.slot_list_add PySem.F.entry_list_add (PySem.F.args_list_add_2 _ _)
        (PyProof.Rows.list_addW p1 p2 its.toArray its2.toArray n1 n2 none none sl1 sl2 (by rw [List.size_toArray, List.size_toArray, ← r1.length, ← r2.length]; exact hlen)) ⟨e1, e2, ?_⟩
      rw [e]
      have I1 := I.lnew (t' := s.toks) (r1.append r2) (by rw [List.length_append]; exact hlen)
      exact ⟨.ref _, _, I1, rfl, q _ _ (Same.upd I.fresh) (newL tr I.fresh (l1.append l2)) (fun _ a e => by cases e; exact ⟨fun _ => I.fresh, fun ys e => by cases e; exact ⟨_, rfl, l1.append l2⟩⟩)⟩
    · cases hg
  · rename_i as bs e
    cases e
    split at hg
    · rename_i hl
      cases hg
      have ha2 := ha.ever
      have hb2 := hb.ever
      obtain ⟨p1, vs, rfl, h1, l1⟩ := ha.sqt
      obtain ⟨p2, us, rfl, h2, l2⟩ := hb.sqt
      have e1 := l1.length
      have e2 := l2.length
      have h4 : lim = 1000000 := rfl
      have h5 : sizeLine = 16777216 := sizeLine_eq
      refine op_catA pins s σ H _ _ v u Q I rx ry ⟨p1, p2, vs, us, rfl, rfl, h1, h2, by omega, fun z => ?_, fun z1 z2 => ?_, fun _ _ p hp => q _ _ (Same.upd hp) (newT tr hp (l1.append l2)) fun _ a e => .tup⟩
      · subst z
        cases l1
        exact q _ H (Same.refl H) (by rw [List.nil_append]; exact hb2) fun _ a e => .tup
      · subst z2
        cases l2
        exact q _ H (Same.refl H) (by rw [List.append_nil]; exact ha2) fun _ a e => .tup
    · cases hg
  · cases hg
theorem bigB_ok {i j : Int} (h1 : i.natAbs < bigB) (h2 : j.natAbs < bigB) : CMulW i j := wide_mul (a := 400000) (b := 400000) h1 h2 (by decide) (by decide) (by decide)
theorem rep_cps (x : Array Nat) : ∀ n : Nat, ∀ acc : Array Nat, (List.replicate n x).foldl (· ++ ·) acc = acc ++ (List.replicate n x.toList).flatten.toArray
  | 0, acc => by simp
  | n + 1, acc => by
    rw [List.replicate_succ, List.foldl_cons, rep_cps x n, List.replicate_succ, List.flatten_cons]
    apply Array.toList_inj.mp
    simp
theorem o_mul : OpP X (binaryOp .Mult) true fMul := by
  intro pins s σ H x y v u Q I rx ry h
  obtain ⟨M, ds, d, tr, hd, hg, q⟩ := h
  obtain ⟨a, b, rfl, ha, hb⟩ := hd.two
  unfold fMul at hg
  split at hg
  · rename_i i j e
    cases e
    split at hg
    · rename_i hl
      cases hg; cases ha; cases hb
      exact op_mulW pins s σ H _ _ v u Q I rx ry ⟨_, _, rfl, rfl, bigB_ok hl.1 hl.2, q _ H (Same.refl H) (.int _) (fin0 (by intro a e; cases e) H)⟩
    · cases hg
  · rename_i z j e
    cases e
    split at hg
    · rename_i hl
      obtain ⟨h0, h1, h2⟩ := hl
      cases hg; cases ha; cases hb
      obtain ⟨t, rfl⟩ := rx
      obtain ⟨t', rfl⟩ := ry
      have hz : (z.length * j.toNat : Nat) ≤ lim := h2
      refine PySem.P.mul_str (by rw [decide_eq_false (by omega), decide_eq_false (by omega)]; rfl) (fun n1 n2 => ?_) (fun n1 n2 => ?_) ?_
      · simp only [Bool.or_eq_false_iff, beq_eq_false_iff_ne] at n2
        have hj : (0 : Int) < j := by omega
        have : (z.length : Int) ≤ 1000000 := by
          have h3 : z.length * 1 ≤ z.length * j.toNat := Nat.mul_le_mul_left _ (by omega)
          have h4 : lim = 1000000 := rfl
          omega
        have h5 : (1000000 : Int) ≤ (2 ^ 63 - 1) / j := by
          rw [Int.le_ediv_iff_mul_le hj]
          omega
        omega
      · unfold Builtin.Str.tooLong
        have h4 : lim = 1000000 := rfl
        have h5 : sizeLine = 16777216 := sizeLine_eq
        simp
        omega
      · have fin : ∀ w : Str, w = repS z j.toNat → ∀ tk tk', EP X pins σ Q (.str w tk) { s with toks := tk' } := fun w e tk tk' => by
          subst e
          exact ⟨.str _, H, I.tok _, ⟨_, rfl⟩, q _ H (Same.refl H) (.str _) (fin0 (by intro a e; cases e) H)⟩
        split
        · rename_i n1
          refine ⟨by decide, fin _ ?_ _ _⟩
          have : j.toNat = 0 := by omega
          rw [this]; rfl
        · split
          · rename_i n2
            simp only [Bool.or_eq_true, beq_iff_eq] at n2
            refine fin z ?_ _ s.toks
            rcases n2 with n2 | n2
            · subst n2
              show z = repS z 1
              unfold repS
              simp
            · have : z.cps.toList = [] := by
                have : z.cps.size = 0 := n2
                simpa using this
              unfold repS
              rw [this]
              have e0 : z = ⟨#[]⟩ := by
                obtain ⟨c⟩ := z
                simp at this
                rw [this]
              rw [e0]
              simp
          · rename_i n1 n2
            have eq : (⟨(List.replicate j.toNat z.cps).foldl (· ++ ·) #[]⟩ : Str) = repS z j.toNat := by
              rw [rep_cps]
              unfold repS
              simp
            rw [eq]
            refine ⟨?_, fin _ rfl _ _⟩
            unfold repS Str.length
            simp
            have h4 : lim = 1000000 := rfl
            have h5 : sizeLine = 16777216 := sizeLine_eq
            have h6 : j.toNat * z.cps.size = z.length * j.toNat := Nat.mul_comm _ _
            omega
    · cases hg
  · cases hg
theorem o_lt : OpP X (compareOp .Lt) true fLt := by
  intro pins s σ H x y v u Q I rx ry h
  obtain ⟨M, ds, d, tr, hd, hg, q⟩ := h
  obtain ⟨a, b, rfl, ha, hb⟩ := hd.two
  unfold fLt at hg
  split at hg
  · rename_i i j e
    cases e; cases hg; cases ha; cases hb
    exact op_lt pins s σ H _ _ v u Q I rx ry ⟨_, _, rfl, rfl, q _ H (Same.refl H) (.bl _) (fin0 (by intro a e; cases e) H)⟩
  · cases hg
theorem o_le : OpP X (compareOp .LtE) true fLe := by
  intro pins s σ H x y v u Q I rx ry h
  obtain ⟨M, ds, d, tr, hd, hg, q⟩ := h
  obtain ⟨a, b, rfl, ha, hb⟩ := hd.two
  unfold fLe at hg
  split at hg
  · rename_i i j e
    cases e; cases hg; cases ha; cases hb
    exact op_le pins s σ H _ _ v u Q I rx ry ⟨_, _, rfl, rfl, q _ H (Same.refl H) (.bl _) (fin0 (by intro a e; cases e) H)⟩
  · cases hg
theorem o_gt : OpP X (compareOp .Gt) true fGt := by
  intro pins s σ H x y v u Q I rx ry h
  obtain ⟨M, ds, d, tr, hd, hg, q⟩ := h
  obtain ⟨a, b, rfl, ha, hb⟩ := hd.two
  unfold fGt at hg
  split at hg
  · rename_i i j e
    cases e; cases hg; cases ha; cases hb
    exact op_gt pins s σ H _ _ v u Q I rx ry ⟨_, _, rfl, rfl, q _ H (Same.refl H) (.bl _) (fin0 (by intro a e; cases e) H)⟩
  · cases hg
theorem o_ge : OpP X (compareOp .GtE) true fGe := by
  intro pins s σ H x y v u Q I rx ry h
  obtain ⟨M, ds, d, tr, hd, hg, q⟩ := h
  obtain ⟨a, b, rfl, ha, hb⟩ := hd.two
  unfold fGe at hg
  split at hg
  · rename_i i j e
    cases e; cases hg; cases ha; cases hb
    exact op_ge pins s σ H _ _ v u Q I rx ry ⟨_, _, rfl, rfl, q _ H (Same.refl H) (.bl _) (fin0 (by intro a e; cases e) H)⟩
  · cases hg
theorem o_fdiv : OpP X (binaryOp .FloorDiv) true fDiv := by
  intro pins s σ H x y v u Q I rx ry h
  obtain ⟨M, ds, d, tr, hd, hg, q⟩ := h
  obtain ⟨a, b, rfl, ha, hb⟩ := hd.two
  unfold fDiv at hg
  split at hg
  · rename_i i j e
    cases e
    split at hg
    · rename_i hl
      cases hg; cases ha; cases hb
      exact op_fdiv pins s σ H _ _ v u Q I rx ry ⟨_, _, rfl, rfl, hl, q _ H (Same.refl H) (.int _) (fin0 (by intro a e; cases e) H)⟩
    · cases hg
  · cases hg
theorem o_mod : OpP X (binaryOp .Mod) true fMod := by
  intro pins s σ H x y v u Q I rx ry h
  obtain ⟨M, ds, d, tr, hd, hg, q⟩ := h
  obtain ⟨a, b, rfl, ha, hb⟩ := hd.two
  unfold fMod at hg
  split at hg
  · rename_i i j e
    cases e
    split at hg
    · rename_i hl
      cases hg; cases ha; cases hb
      exact op_mod pins s σ H _ _ v u Q I rx ry ⟨_, _, rfl, rfl, hl, q _ H (Same.refl H) (.int _) (fin0 (by intro a e; cases e) H)⟩
    · cases hg
  · cases hg
theorem op_powW : OpR X (binaryOp .Pow) (rI (fun i j => 0 ≤ j ∧ (Builtin.Int.intBits i : Int) * j ≤ 2 ^ 27) fun i j => .int (i ^ j.toNat)) := opI fun _ _ _ _ _ _ _ hc q => PyProof.Rows.pow_int hc.1 hc.2 q
theorem o_pow : OpP X (binaryOp .Pow) true fPow := by
  intro pins s σ H x y v u Q I rx ry h
  obtain ⟨M, ds, d, tr, hd, hg, q⟩ := h
  obtain ⟨a, b, rfl, ha, hb⟩ := hd.two
  unfold fPow at hg
  split at hg
  · rename_i i j e
    cases e
    split at hg
    · rename_i hl
      cases hg; cases ha; cases hb
      exact op_powW pins s σ H _ _ v u Q I rx ry ⟨_, _, rfl, rfl, hl, q _ H (Same.refl H) (.int _) (fin0 (by intro a e; cases e) H)⟩
    · cases hg
  · cases hg
theorem nil_plain : plainD (.list []) = true := by decide
theorem isNil_of {a b d : D} (h : isNil a b = some d) (n : ¬ (plainD a && plainD b) = true) : ∃ xs, a = .list xs ∧ b = .list [] ∧ xs ≠ [] ∧ d = .bool false := by
  unfold isNil at h
  split at h
  · rename_i xs
    cases h
    cases xs with
    | nil => exact absurd (by rw [nil_plain]; rfl) n
    | cons x xs => exact ⟨_, rfl, rfl, List.cons_ne_nil _ _, rfl⟩
  · cases h
theorem notNil_of {a b d : D} (h : notNil a b = some d) (n : ¬ (plainD a && plainD b) = true) : ∃ xs, a = .list xs ∧ b = .list [] ∧ xs ≠ [] ∧ d = .bool true := by
  unfold notNil at h
  split at h
  · rename_i xs
    cases h
    cases xs with
    | nil => exact absurd (by rw [nil_plain]; rfl) n
    | cons x xs => exact ⟨_, rfl, rfl, List.cons_ne_nil _ _, rfl⟩
  · cases h
theorem unlike_lists {pins : List (Addr × Obj)} {σ : St} {H : Hp} {s : Shared} {M : Addr → Prop} {x y : V} {v u : Value} {b b' : Bool} {xs : List D} (I : Inv X pins σ H s) (ha : Dn X.K M H b (.list xs) x) (hb : Dn X.K M H b' (.list []) y) (rx : RelV x v) (ry : RelV y u) (ne : xs ≠ []) :
    ∃ a1 a2, v = .ref a1 ∧ u = .ref a2 ∧ ∃ i1 i2 : Array Value, s.heap.IsList a1 i1 ∧ s.heap.IsList a2 i2 ∧ (i1.size != i2.size) = true := by
  obtain ⟨a1, vs, rfl, h1, l1⟩ := ha.sql
  obtain ⟨a2, us, rfl, h2, l2⟩ := hb.sql
  cases rx
  cases ry
  obtain ⟨i1, r1, p1, _⟩ := I.list h1
  obtain ⟨i2, r2, p2, _⟩ := I.list h2
  refine ⟨a1, a2, rfl, rfl, i1.toArray, i2.toArray, p1.isList, p2.isList, ?_⟩
  have e1 := l1.length
  have e2 := l2.length
  have e3 := r1.length
  have e4 := r2.length
  have : 0 < xs.length := List.length_pos_iff.mpr ne
  simp only [List.length_nil] at e2
  rw [bne_iff_ne, List.size_toArray, List.size_toArray]
  omega
theorem o_eq (hu : X.A.units + 200 < cLine) : OpP X (compareOp .Eq) true fEq := by
  intro pins s σ H x y v u Q I rx ry h
  obtain ⟨M, ds, d, tr, hd, hg, q⟩ := h
  obtain ⟨a, b, rfl, ha, hb⟩ := hd.two
  have hg : (if plainD a && plainD b then some (PyData.bool (PyData.eqv a b)) else isNil a b) = some d := hg
  split at hg
  · rename_i hl
    · cases hg
      simp only [plainD, Bool.and_eq_true, decide_eq_true_eq] at hl
      obtain ⟨⟨p1, d1⟩, p2, d2⟩ := hl
      obtain ⟨as, r1⟩ := Dn.reads I _ _ _ _ ha rx p1
      obtain ⟨bs, r2⟩ := Dn.reads I _ _ _ _ hb ry p2
      exact PySem.SeqAt.eq_plain r1 r2 p1 p2 (by omega) ⟨.bl _, H, I, rfl, q _ H (Same.refl H) (.bl _) (fin0 (by intro a e; cases e) H)⟩
  · obtain ⟨xs, rfl, rfl, ne, rfl⟩ := isNil_of hg ‹_›
    obtain ⟨a1, a2, rfl, rfl, i1, i2, l1, l2, ls⟩ := unlike_lists I ha hb rx ry ne
    exact PySem.SeqAt.eq_list_lengthsAt l1 l2 ls (by omega) ⟨.bl _, H, I, rfl, q _ H (Same.refl H) (.bl _) (fin0 (by intro a e; cases e) H)⟩
theorem o_ne (hu : X.A.units + 200 < cLine) : OpP X (compareOp .NotEq) true fNe := by
  intro pins s σ H x y v u Q I rx ry h
  obtain ⟨M, ds, d, tr, hd, hg, q⟩ := h
  obtain ⟨a, b, rfl, ha, hb⟩ := hd.two
  have hg : (if plainD a && plainD b then some (PyData.bool (!PyData.eqv a b)) else notNil a b) = some d := hg
  split at hg
  · rename_i hl
    · cases hg
      simp only [plainD, Bool.and_eq_true, decide_eq_true_eq] at hl
      obtain ⟨⟨p1, d1⟩, p2, d2⟩ := hl
      obtain ⟨as, r1⟩ := Dn.reads I _ _ _ _ ha rx p1
      obtain ⟨bs, r2⟩ := Dn.reads I _ _ _ _ hb ry p2
      exact PySem.SeqAt.ne_plain r1 r2 p1 p2 (by omega) ⟨.bl _, H, I, rfl, q _ H (Same.refl H) (.bl _) (fin0 (by intro a e; cases e) H)⟩
  · obtain ⟨xs, rfl, rfl, ne, rfl⟩ := notNil_of hg ‹_›
    obtain ⟨a1, a2, rfl, rfl, i1, i2, l1, l2, ls⟩ := unlike_lists I ha hb rx ry ne
    exact PySem.SeqAt.RcNeAt.lists_lengths l1 l2 ls (by omega) X.prog X.w _ _ ⟨.bl _, H, I, rfl, q _ H (Same.refl H) (.bl _) (fin0 (by intro a e; cases e) H)⟩
theorem o_is : OpP X (compareOp .Is) true fIs := by
  intro pins s σ H x y v u Q I rx ry h
  obtain ⟨M, ds, d, tr, hd, hg, q⟩ := h
  obtain ⟨a, b, rfl, ha, hb⟩ := hd.two
  unfold fIs at hg
  split at hg
  · rename_i z e
    cases e; cases hg; cases hb
    have e2 : decide (x = V.non) = isNon a := by cases ha <;> simp [isNon]
    refine op_isN pins s σ H _ _ v u Q I rx ry ⟨rfl, ?_⟩
    rw [e2]
    exact q _ H (Same.refl H) (.bl _) (fin0 (by intro a e; cases e) H)
  · rename_i i j e
    cases e; cases hg; cases ha; cases hb
    exact op_is_bl pins s σ H _ _ v u Q I rx ry ⟨_, _, rfl, rfl, q _ H (Same.refl H) (.bl _) (fin0 (by intro a e; cases e) H)⟩
  · cases hg
theorem o_isnt : OpP X (compareOp .IsNot) true fIsnt := by
  intro pins s σ H x y v u Q I rx ry h
  obtain ⟨M, ds, d, tr, hd, hg, q⟩ := h
  obtain ⟨a, b, rfl, ha, hb⟩ := hd.two
  unfold fIsnt at hg
  split at hg
  · rename_i z e
    cases e; cases hg; cases hb
    have e2 : decide (x = V.non) = isNon a := by cases ha <;> simp [isNon]
    refine op_notN pins s σ H _ _ v u Q I rx ry ⟨rfl, ?_⟩
    rw [e2]
    exact q _ H (Same.refl H) (.bl _) (fin0 (by intro a e; cases e) H)
  · rename_i i j e
    cases e; cases hg; cases ha; cases hb
    exact op_isnot_bl pins s σ H _ _ v u Q I rx ry ⟨_, _, rfl, rfl, q _ H (Same.refl H) (.bl _) (fin0 (by intro a e; cases e) H)⟩
  · cases hg
theorem plain_all : ∀ {ys : List D}, ys.all plainD = true → PyData.plainAll ys = true
  | [], _ => rfl
  | y :: ys, h => by
    simp only [List.all_cons, Bool.and_eq_true, plainD] at h
    simp only [PyData.plainAll, Bool.and_eq_true]
    exact ⟨h.1.1, plain_all (by simpa [plainD] using h.2)⟩
theorem o_in (hu : X.A.units + 200 < cLine) : OpP X (compareOp .In) true fIn := by
  intro pins s σ H x y v u Q I rx ry h
  obtain ⟨M, ds, d, tr, hd, hg, q⟩ := h
  obtain ⟨a, b, rfl, ha, hb⟩ := hd.two
  unfold fIn at hg
  split at hg
  · rename_i i j e
    cases e; cases hg; cases ha; cases hb
    exact op_in_str pins s σ H _ _ v u Q I rx ry ⟨_, _, rfl, rfl, q _ H (Same.refl H) (.bl _) (fin0 (by intro a e; cases e) H)⟩
  · rename_i z ys e
    cases e
    split at hg
    · rename_i hl
      cases hg
      simp only [Bool.and_eq_true] at hl
      obtain ⟨h1, h2⟩ := hl
      have h2 := plain_all h2
      simp only [plainD, Bool.and_eq_true, decide_eq_true_eq] at h1
      obtain ⟨as, r1⟩ := Dn.reads I _ _ _ _ ha rx h1.1
      obtain ⟨bs, r2⟩ := Dn.reads I _ _ _ _ hb ry (by simpa [PyData.plain] using h2)
      exact PySem.SeqAt.in_list_data r2 r1 h2 h1.1 (by omega) ⟨.bl _, H, I, rfl, q _ H (Same.refl H) (.bl _) (fin0 (by intro a e; cases e) H)⟩
    · obtain ⟨kvs, rfl, nx, t, rfl⟩ := dictNo_of hg
      exact in_no hu I nx ha hb rx ry t ⟨.bl _, H, I, rfl, q _ H (Same.refl H) (.bl _) (fin0 (by intro a e; cases e) H)⟩
  · rename_i z ys e
    cases e
    split at hg
    · rename_i hl
      cases hg
      simp only [Bool.and_eq_true] at hl
      obtain ⟨h1, h2⟩ := hl
      have h2 := plain_all h2
      simp only [plainD, Bool.and_eq_true, decide_eq_true_eq] at h1
      obtain ⟨as, r1⟩ := Dn.reads I _ _ _ _ ha rx h1.1
      obtain ⟨bs, r2⟩ := Dn.reads I _ _ _ _ hb ry (by simpa [PyData.plain] using h2)
      exact PySem.SeqAt.in_tuple_data r2 r1 h2 h1.1 (by omega) ⟨.bl _, H, I, rfl, q _ H (Same.refl H) (.bl _) (fin0 (by intro a e; cases e) H)⟩
    · cases hg
  · cases hg
theorem o_notin (hu : X.A.units + 200 < cLine) : OpP X (compareOp .NotIn) true fNotin := by
  intro pins s σ H x y v u Q I rx ry h
  obtain ⟨M, ds, d, tr, hd, hg, q⟩ := h
  obtain ⟨a, b, rfl, ha, hb⟩ := hd.two
  unfold fNotin at hg
  split at hg
  · rename_i i j e
    cases e; cases hg; cases ha; cases hb
    exact op_notin_str pins s σ H _ _ v u Q I rx ry ⟨_, _, rfl, rfl, q _ H (Same.refl H) (.bl _) (fin0 (by intro a e; cases e) H)⟩
  · rename_i z ys e
    cases e
    split at hg
    · rename_i hl
      cases hg
      simp only [Bool.and_eq_true] at hl
      obtain ⟨h1, h2⟩ := hl
      have h2 := plain_all h2
      simp only [plainD, Bool.and_eq_true, decide_eq_true_eq] at h1
      obtain ⟨as, r1⟩ := Dn.reads I _ _ _ _ ha rx h1.1
      obtain ⟨bs, r2⟩ := Dn.reads I _ _ _ _ hb ry (by simpa [PyData.plain] using h2)
      exact PySem.SeqAt.notIn_list_data r2 r1 h2 h1.1 (by omega) ⟨.bl _, H, I, rfl, q _ H (Same.refl H) (.bl _) (fin0 (by intro a e; cases e) H)⟩
    · cases hg
  · rename_i z ys e
    cases e
    split at hg
    · rename_i hl
      cases hg
      simp only [Bool.and_eq_true] at hl
      obtain ⟨h1, h2⟩ := hl
      have h2 := plain_all h2
      simp only [plainD, Bool.and_eq_true, decide_eq_true_eq] at h1
      obtain ⟨as, r1⟩ := Dn.reads I _ _ _ _ ha rx h1.1
      obtain ⟨bs, r2⟩ := Dn.reads I _ _ _ _ hb ry (by simpa [PyData.plain] using h2)
      exact PySem.SeqAt.notIn_tuple_data r2 r1 h2 h1.1 (by omega) ⟨.bl _, H, I, rfl, q _ H (Same.refl H) (.bl _) (fin0 (by intro a e; cases e) H)⟩
    · cases hg
  · cases hg
end
end EV
end
section
set_option Elab.async false
set_option linter.all false
set_option maxRecDepth 100000
set_option maxHeartbeats 4000000
set_option autoImplicit false
/-! EvO2: further operations on data: items, slices, built-ins -/
namespace EV
open PySem L2
section
variable {X : Cx}
def IxP (X : Cx) (fr : Bool) (g : List D → Option D) : Prop := IxR X fun x y H Q => rP X.K fr g [x, y] H Q
def vO : Option Int → V
  | none => .non
  | some i => .int i
def SlP (X : Cx) (g : List D → Option D) : Prop := SlR X fun x lo hi H Q => rP X.K true g [x, vO lo, vO hi] H Q
def CallP (X : Cx) (f : Value) (fr : Bool) (g : List D → Option D) : Prop := CallR X f fun xs H Q => rP X.K fr g xs H Q
def MtP (X : Cx) (id : String) (fr : Bool) (g : List D → Option D) : Prop := MtR X id fun x xs H Q => rP X.K fr g (x :: xs) H Q
def UnP (X : Cx) (f : Value → Sem Value) (g : List D → Option D) : Prop := UnR X f fun x H Q => rP X.K true g [x] H Q
theorem DnL.atI {K : PySem.W.Frag} {M : Addr → Prop} {H : Hp} {xs : List D} {vs : List V} {i : Int} {x : D} (h : DnL K M H xs vs) (e : atI xs i = some x) : ∃ v, atI vs i = some v ∧ Dn K M H true x v := by
  unfold L2.atI at e ⊢
  cases hj : ixN xs.length i with
  | none => rw [hj] at e; cases e
  | some j =>
    rw [hj] at e
    rw [← h.length, hj]
    exact h.get e
theorem o_idx : IxP X false fIdx := by
  intro value slice pins s σ H x y v u Q I rx ry h hs
  obtain ⟨M, ds, d, tr, hd, hg, q⟩ := h
  obtain ⟨a, b, rfl, ha, hb⟩ := hd.two
  unfold fIdx at hg
  split at hg
  · rename_i xs i e
    cases e; cases hb
    obtain ⟨p, vs, rfl, h1, l1⟩ := ha.sql
    obtain ⟨z, ez, dz⟩ := l1.atI hg
    exact ix_list value slice pins s σ H _ _ v u Q I rx ry ⟨_, _, _, _, rfl, rfl, h1, ez, q _ H (Same.refl H) dz (fun e => nomatch e)⟩ hs
  · rename_i xs i e
    cases e; cases hb
    obtain ⟨p, vs, rfl, h1, l1⟩ := ha.sqt
    obtain ⟨z, ez, dz⟩ := l1.atI hg
    exact ix_tup value slice pins s σ H _ _ v u Q I rx ry ⟨_, _, _, _, rfl, rfl, h1, ez, q _ H (Same.refl H) dz (fun e => nomatch e)⟩ hs
  · rename_i z i e
    cases e
    split at hg
    · rename_i hl
      cases ha; cases hb
      cases ec : L2.atI z.cps.toList i with
      | none => rw [ec] at hg; cases hg
      | some c =>
        rw [ec] at hg
        cases hg
        exact ix_str value slice pins s σ H _ _ v u Q I rx ry ⟨_, _, _, rfl, rfl, Nat.le_trans hl (by decide), ec, q _ H (Same.refl H) (.str _) (fun e => nomatch e)⟩ hs
    · cases hg
  · cases hg
theorem Dn.part {K : PySem.W.Frag} {M : Addr → Prop} {H : Hp} {d : D} {lo l : Option Int} (h : Dn K M H false d (vO lo)) (e : part? d = some l) : l = lo := by
  cases d <;> simp [part?] at e
  · cases lo <;> cases h; exact e.symm
  · cases lo <;> cases h; exact e.symm
theorem DnL.cut {K : PySem.W.Frag} {M : Addr → Prop} {H : Hp} {xs : List D} {vs : List V} (h : DnL K M H xs vs) (lo hi : Option Int) : DnL K M H (EV.cut xs lo hi) (cutV vs lo hi) := by
  unfold EV.cut cutV
  rw [h.length]
  exact (h.drop _).take _
theorem o_slice : SlP X fSlice := by
  intro pins s σ H x v vl vu lo hi sl Q I rx hs pl pu h
  obtain ⟨M, ds, d, tr, hd, hg, q⟩ := h
  cases hd with
  | cons ha r =>
  obtain ⟨b, c, rfl, hb, hc⟩ := r.two
  unfold fSlice at hg
  split at hg
  · rename_i xs l h e
    cases e
    split at hg
    · rename_i l' h' e1 e2
      cases hg
      have q1 := hb.part e1
      have q2 := hc.part e2
      subst q1 q2
      obtain ⟨p, vs, rfl, h1, l1⟩ := ha.sql
      exact sl_list pins s σ H _ v vl vu _ _ sl Q I rx hs pl pu ⟨_, _, rfl, h1, fun p hp => q _ _ (Same.upd hp) (newL tr hp (l1.cut _ _)) fun _ a e => by cases e; exact ⟨fun _ => hp, fun ys e => by cases e; exact ⟨_, rfl, l1.cut _ _⟩⟩⟩
    · cases hg
  · rename_i z l h e
    cases e
    split at hg
    · rename_i l' h' e1 e2
      split at hg
      · rename_i hl
        cases hg
        have q1 := hb.part e1
        have q2 := hc.part e2
        subst q1 q2
        cases ha
        exact sl_str pins s σ H _ v vl vu _ _ sl Q I rx hs pl pu ⟨_, rfl, Nat.le_trans hl (by decide), q _ H (Same.refl H) (.str _) (fin0 (by intro a e; cases e) H)⟩
      · cases hg
    · cases hg
  · rename_i xs l h e
    cases e
    split at hg
    · rename_i l' h' e1 e2
      cases hg
      have q1 := hb.part e1
      have q2 := hc.part e2
      subst q1 q2
      have ha2 := ha.ever
      obtain ⟨p, vs, rfl, h1, l1⟩ := ha.sqt
      refine sl_tupA pins s σ H _ v vl vu _ _ sl Q I rx hs pl pu ⟨p, vs, rfl, h1, fun w => ?_, fun _ p hp => q _ _ (Same.upd hp) (newT tr hp (l1.cut _ _)) fun _ a e => .tup⟩
      have whole : cut xs l' h' = xs := by
        unfold cut
        rw [l1.length, w.1, w.2, List.drop_zero, Nat.sub_zero, ← l1.length]
        exact List.take_length
      exact q _ H (Same.refl H) (by rw [whole]; exact ha2) fun _ a e => .tup
    · cases hg
  · cases hg
theorem o_neg : UnP X (unaryOp .USub) fNeg := by
  intro pins s σ H x v Q I rx h
  obtain ⟨M, ds, d, tr, hd, hg, q⟩ := h
  obtain ⟨a, rfl, ha⟩ := hd.one
  unfold fNeg at hg
  split at hg
  · rename_i i e
    cases e; cases hg; cases ha
    exact un_neg pins s σ H _ v Q I rx ⟨_, rfl, q _ H (Same.refl H) (.int _) (fin0 (by intro a e; cases e) H)⟩
  · cases hg
theorem o_len : CallP X (.builtin "len") true fLen := by
  intro pins s σ H xs us Q I r h
  obtain ⟨M, ds, d, tr, hd, hg, q⟩ := h
  unfold fLen at hg
  split at hg
  · rename_i ys
    cases hg
    cases hd with
    | cons ha r2 =>
      cases r2
      obtain ⟨p, vs, rfl, h1, l1⟩ := ha.sql
      refine call_len pins s σ H _ us Q I r ⟨_, _, rfl, .inl ⟨_, h1, l1.length⟩, q _ H (Same.refl H) (.int _) (fin0 (by intro a e; cases e) H)⟩
  · rename_i ys
    cases hg
    cases hd with
    | cons ha r2 =>
      cases r2
      obtain ⟨p, vs, rfl, h1, l1⟩ := ha.sqt
      refine call_len pins s σ H _ us Q I r ⟨_, _, rfl, .inr ⟨_, h1, l1.length⟩, q _ H (Same.refl H) (.int _) (fin0 (by intro a e; cases e) H)⟩
  · rename_i z
    split at hg
    · rename_i hl
      cases hg
      cases hd with
      | cons ha r2 =>
        cases r2; cases ha
        refine call_len pins s σ H _ us Q I r ⟨_, _, rfl, ⟨Nat.le_trans hl (by decide), rfl⟩, q _ H (Same.refl H) (.int _) (fin0 (by intro a e; cases e) H)⟩
    · cases hg
  · cases hg
theorem bools_of {K : PySem.W.Frag} {M : Addr → Prop} {H : Hp} : ∀ {xs : List D} {vs : List V} {bs : List Bool}, DnL K M H xs vs → bools? xs = some bs → vs = bs.map V.bl
  | _, _, _, .nil, e => by cases e; rfl
  | .bool b :: xs, _, bs, .cons a r, e => by
    unfold bools? at e
    cases h : bools? xs with
    | none => rw [h] at e; cases e
    | some cs =>
      rw [h] at e
      cases e
      cases a
      rw [bools_of r h]
      rfl
  | .none :: _, _, _, .cons a r, e => by cases e
  | .int _ :: _, _, _, .cons a r, e => by cases e
  | .str _ :: _, _, _, .cons a r, e => by cases e
  | .list _ :: _, _, _, .cons a r, e => by cases e
  | .tuple _ :: _, _, _, .cons a r, e => by cases e
  | .dict _ :: _, _, _, .cons a r, e => by cases e
theorem o_all (hc : X.calm = true) : CallP X (.builtin "all") true fAll := by
  intro pins s σ H xs us Q I r h
  obtain ⟨M, ds, d, tr, hd, hg, q⟩ := h
  unfold fAll at hg
  split at hg
  · rename_i ys
    split at hg
    · rename_i bs eb
      cases hg
      cases hd with
      | cons ha r2 =>
        cases r2
        obtain ⟨p, vs, rfl, h1, l1⟩ := ha.sql
        rw [bools_of l1 eb] at h1
        exact cr_all hc pins s σ H _ us Q I r ⟨_, bs, rfl, h1, q _ H (Same.refl H) (.bl _) (fin0 (by intro a e; cases e) H)⟩
    · cases hg
  · cases hg
theorem o_any (hc : X.calm = true) : CallP X (.builtin "any") true fAny := by
  intro pins s σ H xs us Q I r h
  obtain ⟨M, ds, d, tr, hd, hg, q⟩ := h
  unfold fAny at hg
  split at hg
  · rename_i ys
    split at hg
    · rename_i bs eb
      cases hg
      cases hd with
      | cons ha r2 =>
        cases r2
        obtain ⟨p, vs, rfl, h1, l1⟩ := ha.sql
        rw [bools_of l1 eb] at h1
        exact cr_any hc pins s σ H _ us Q I r ⟨_, bs, rfl, h1, q _ H (Same.refl H) (.bl _) (fin0 (by intro a e; cases e) H)⟩
    · cases hg
  · cases hg
theorem o_abs : CallP X (.builtin "abs") true fAbs := by
  intro pins s σ H xs us Q I r h
  obtain ⟨M, ds, d, tr, hd, hg, q⟩ := h
  unfold fAbs at hg
  split at hg
  · cases hg
    cases hd with
    | cons ha r2 =>
      cases r2; cases ha
      exact call_abs pins s σ H _ us Q I r ⟨_, rfl, q _ H (Same.refl H) (.int _) (fin0 (by intro a e; cases e) H)⟩
  · cases hg
theorem o_max2 (hc : X.calm = true) : CallP X (.builtin "max") true fMax2 := by
  intro pins s σ H xs us Q I r h
  obtain ⟨M, ds, d, tr, hd, hg, q⟩ := h
  unfold fMax2 at hg
  split at hg
  · cases hg
    cases hd with
    | cons ha r2 => cases r2 with
      | cons hb r3 =>
        cases r3; cases ha; cases hb
        exact call_max2 hc pins s σ H _ us Q I r ⟨_, _, rfl, q _ H (Same.refl H) (.int _) (fin0 (by intro a e; cases e) H)⟩
  · cases hg
theorem o_min2 (hc : X.calm = true) : CallP X (.builtin "min") true fMin2 := by
  intro pins s σ H xs us Q I r h
  obtain ⟨M, ds, d, tr, hd, hg, q⟩ := h
  unfold fMin2 at hg
  split at hg
  · cases hg
    cases hd with
    | cons ha r2 => cases r2 with
      | cons hb r3 =>
        cases r3; cases ha; cases hb
        exact call_min2 hc pins s σ H _ us Q I r ⟨_, _, rfl, q _ H (Same.refl H) (.int _) (fin0 (by intro a e; cases e) H)⟩
  · cases hg
theorem o_int : CallP X (.type "int") true fInt := by
  intro pins s σ H xs us Q I r h
  obtain ⟨M, ds, d, tr, hd, hg, q⟩ := h
  unfold fInt at hg
  split at hg
  · cases hg
    cases hd with
    | cons ha r2 =>
      cases r2; cases ha
      exact call_int1 pins s σ H _ us Q I r (.inr ⟨_, rfl, q _ H (Same.refl H) (.int _) (fin0 (by intro a e; cases e) H)⟩)
  · cases hg
    cases hd with
    | cons ha r2 =>
      cases r2; cases ha
      exact call_int1 pins s σ H _ us Q I r (.inl ⟨_, rfl, q _ H (Same.refl H) (.int _) (fin0 (by intro a e; cases e) H)⟩)
  · split at hg
    · rename_i hl
      cases e : PySem.intText? _ with
      | none => rw [e] at hg; cases hg
      | some n =>
        rw [e] at hg
        cases hg
        cases hd with
        | cons ha r2 =>
          cases r2; cases ha
          exact call_int_str pins s σ H _ us Q I r ⟨_, _, rfl, e, hl, q _ H (Same.refl H) (.int _) (fin0 (by intro a e; cases e) H)⟩
    · cases hg
  · cases hg
theorem o_str1 : CallP X (.type "str") true fStr1 := by
  intro pins s σ H xs us Q I r h
  obtain ⟨M, ds, d, tr, hd, hg, q⟩ := h
  unfold fStr1 at hg
  split at hg
  · split at hg
    · rename_i hl
      cases hg
      cases hd with
      | cons ha r2 =>
        cases r2; cases ha
        exact call_str_int pins s σ H _ us Q I r ⟨_, rfl, hl, q _ H (Same.refl H) (.str _) (fin0 (by intro a e; cases e) H)⟩
    · cases hg
  · cases hg
    cases hd with
    | cons ha r2 =>
      cases r2; cases ha
      exact SkE.call_str_str pins s σ H _ us Q I r ⟨_, rfl, q _ H (Same.refl H) (.str _) (fin0 (by intro a e; cases e) H)⟩
  · cases hg
theorem strs_V {K : PySem.W.Frag} {M : Addr → Prop} {H : Hp} : ∀ {ds : List D} {xs : List Str} {vs : List V}, strs? ds = some xs → DnL K M H ds vs → vs = xs.map V.str
  | _, _, _, e, .nil => by cases e; rfl
  | _, xs, _, e, .cons a l => by
    cases a with
    | str z =>
      rename_i ds vs
      unfold strs? at e
      cases e2 : strs? ds with
      | none => rw [e2] at e; cases e
      | some ys =>
        rw [e2] at e
        cases e
        rw [strs_V e2 l]
        rfl
    | _ => cases e
theorem strs_D {K : PySem.W.Frag} {M : Addr → Prop} {H : Hp} : ∀ xs : List Str, DnL K M H (xs.map PyData.str) (xs.map V.str)
  | [] => .nil
  | x :: r => .cons (.str x) (strs_D r)
theorem o_join : MtP X "str.join" true fJoin := by
  intro pins s σ H x xs v us Q I rx r h
  obtain ⟨M, ds, d, tr, hd, hg, q⟩ := h
  have key : ∀ (a : Str) (zs : List D) (vs : List V) (p : Addr), joinO a zs = some d → DnL X.K M H zs vs → x = .str a → xs = [.ref p] → (SqL X.K H p vs ∨ SqT X.K H p vs) → wpAny (model X.prog X.w) X.A (call (.builtin "str.join") (v :: us)) (EP X pins σ Q) X.xe s := fun a zs vs p hj l ex exs sq => by
    unfold joinO at hj
    cases e : strs? zs with
    | none => rw [e] at hj; cases hj
    | some ys =>
      rw [e] at hj
      have hj : (if (ys.map (·.length)).sum + ys.length * a.length ≤ lim then some (PyData.str (Txt.join a ys)) else none) = some d := hj
      split at hj
      · rename_i hl
        cases hj
        rw [strs_V e l] at sq
        exact mt_join pins s σ H _ _ v us Q I rx r ⟨a, p, ys, ex, exs, sq, Nat.le_trans hl (by decide), q _ H (Same.refl H) (.str _) (fin0 (by intro a e; cases e) H)⟩
      · cases hj
  unfold fJoin at hg
  split at hg
  · cases hd with
    | cons ha r2 => cases r2 with
      | cons hb r3 =>
        cases r3; cases ha
        obtain ⟨p, vs, rfl, h1, l1⟩ := hb.sql
        exact key _ _ vs p hg l1 rfl rfl (.inl h1)
  · cases hd with
    | cons ha r2 => cases r2 with
      | cons hb r3 =>
        cases r3; cases ha
        obtain ⟨p, vs, rfl, h1, l1⟩ := hb.sqt
        exact key _ _ vs p hg l1 rfl rfl (.inr h1)
  · cases hg
theorem o_split : MtP X "str.split" true fSplit := by
  intro pins s σ H x xs v us Q I rx r h
  obtain ⟨M, ds, d, tr, hd, hg, q⟩ := h
  unfold fSplit at hg
  split at hg
  · split at hg
    · rename_i hl
      cases hg
      cases hd with
      | cons ha r2 => cases r2 with
        | cons hb r3 =>
          cases r3; cases ha; cases hb
          exact mt_split pins s σ H _ _ v us Q I rx r ⟨_, _, rfl, rfl, hl.2, Nat.le_trans (Nat.add_le_add_right hl.1 2) (by decide), fun l hn => q _ _ (Same.upd hn) (newL tr hn (strs_D _)) fun _ a e => by cases e; exact ⟨fun _ => hn, fun ys e => by cases e; exact ⟨_, rfl, strs_D _⟩⟩⟩
    · cases hg
  · cases hg
theorem o_ofList : CallP X (.type "list") true fOfList := by
  intro pins s σ H xs us Q I r h
  obtain ⟨M, ds, d, tr, hd, hg, q⟩ := h
  unfold fOfList at hg
  split at hg
  · cases hg
    cases hd with
    | cons ha r2 =>
      cases r2
      obtain ⟨p, vs, rfl, h1, l1⟩ := ha.sql
      exact call_list_of pins s σ H _ us Q I r ⟨_, _, rfl, .inl h1, fun l hl => q _ _ (Same.upd hl) (newL tr hl l1) fun _ a e => by cases e; exact ⟨fun _ => hl, fun ys e => by cases e; exact ⟨_, rfl, l1⟩⟩⟩
  · cases hg
    cases hd with
    | cons ha r2 =>
      cases r2
      obtain ⟨p, vs, rfl, h1, l1⟩ := ha.sqt
      exact call_list_of pins s σ H _ us Q I r ⟨_, _, rfl, .inr h1, fun l hl => q _ _ (Same.upd hl) (newL tr hl l1) fun _ a e => by cases e; exact ⟨fun _ => hl, fun ys e => by cases e; exact ⟨_, rfl, l1⟩⟩⟩
  · cases hg
theorem o_strip : MtP X "str.strip" true fStrip := by
  intro pins s σ H x xs v us Q I rx r h
  obtain ⟨M, ds, d, tr, hd, hg, q⟩ := h
  unfold fStrip at hg
  split at hg
  · split at hg
    · rename_i hl
      cases hg
      cases hd with
      | cons ha r2 => cases r2 with
        | cons hb r3 =>
          cases r3; cases ha; cases hb
          exact mt_stripChars pins s σ H _ _ v us Q I rx r ⟨_, _, rfl, rfl, Nat.le_trans hl (by decide), q _ H (Same.refl H) (.str _) (fin0 (by intro a e; cases e) H)⟩
    · cases hg
  · cases hg

/-! ### isinstance -/
inductive Top (h : Heap) : Value → D → Prop
  | none : Top h .none .none
  | bool (b : Bool) : Top h (.bool b) (.bool b)
  | int (i : Int) (t : Tok) : Top h (.int i t) (.int i)
  | str (x : Str) (t : Tok) : Top h (.str x t) (.str x)
  | list {a : Addr} {o : Obj} {xs : List D} : h.get? a = some o → o.cls = .type "list" → Top h (.ref a) (.list xs)
  | tuple {a : Addr} {o : Obj} {xs : List D} : h.get? a = some o → o.cls = .type "tuple" → Top h (.ref a) (.tuple xs)
  | dict {a : Addr} {o : Obj} {xs : List (D × D)} : h.get? a = some o → o.cls = .type "dict" → isX xs = false → Top h (.ref a) (.dict xs)
theorem Dn.top {pins : List (Addr × Obj)} {σ : St} {H : Hp} {s : Shared} {M : Addr → Prop} {b : Bool} {d : D} {x : V} {u : Value} (I : Inv X pins σ H s) (h : Dn X.K M H b d x) (r : RelV x u) (nx : ∀ kvs, d = .dict kvs → isX kvs = false) : Top s.heap u d := by
  cases d with
  | none => cases h; cases r; exact .none
  | bool k => cases h; cases r; exact .bool k
  | int i => cases h; obtain ⟨t, rfl⟩ := r; exact .int i t
  | str y => cases h; obtain ⟨t, rfl⟩ := r; exact .str y t
  | list xs =>
    obtain ⟨a, vs, rfl, hs, _⟩ := h.sql
    cases r
    obtain ⟨its, rv, ⟨o, n, ho, hc, _, hd⟩, _⟩ := I.list hs
    exact .list ho hc
  | tuple xs =>
    obtain ⟨a, vs, rfl, hs, _⟩ := h.sqt
    cases r
    obtain ⟨its, rv, ⟨o, ho, hc, n, hd⟩, _⟩ := I.tuple hs
    exact .tuple ho hc
  | dict kvs =>
    cases h with
    | dK rd n q0 q l q2 =>
      cases r
      obtain ⟨_, _, _, _, o, _, _, e, ex, _⟩ := rd.ok I.hok
      exact .dict e ex.1 (nx _ rfl)
    | dT rd n q0 q l q2 =>
      cases r
      obtain ⟨_, _, _, _, o, _, _, e, ex, _⟩ := rd.ok I.hok
      exact .dict e ex.1 (nx _ rfl)
    | exc _ _ _ _ => exact nomatch (show true = false from nx _ rfl)
/-- data, or an exception -/
theorem Dn.exc_or {pins : List (Addr × Obj)} {σ : St} {H : Hp} {s : Shared} {M : Addr → Prop} {b : Bool} {d : D} {x : V} {u : Value} (I : Inv X pins σ H s) (h : Dn X.K M H b d x) (r : RelV x u) :
    (∀ kvs, d = .dict kvs → isX kvs = false) ∨ ∃ (n : Str) (a C : Addr) (oe : Obj), d = exD n ∧ u = .ref a ∧ PySem.W.nsIn X.K mainGlobals n = some (some (.ref C)) ∧ XOk X.K C ∧ PySem.W.InstAt s.heap a oe C none := by
  cases d with
  | dict kvs =>
    cases h with
    | dK rd n q0 q l q2 =>
      refine .inl fun k e => ?_
      cases e
      cases kvs with
      | nil => rfl
      | cons p r2 =>
        rename_i es
        cases es with
        | nil => cases q0
        | cons e es =>
          obtain ⟨p1, p2⟩ := p
          obtain ⟨k1, k2⟩ := e
          have h1 : p1 = keyD k1 := (List.cons.inj q0).1
          subst h1
          cases k1 <;> rfl
    | dT rd n q0 q l q2 =>
      refine .inl fun k e => ?_
      cases e
      cases kvs with
      | nil => rfl
      | cons p r2 =>
        rename_i es
        cases es with
        | nil => cases q0
        | cons e es =>
          obtain ⟨p1, p2⟩ := p
          obtain ⟨k1, k2⟩ := e
          have h1 : p1 = PyData.tuple (k1.map keyD) := (List.cons.inj q0).1
          subst h1
          rfl
    | exc c xo rd nm =>
      cases r
      obtain ⟨oe, i⟩ := exC_inst I.hok rd
      exact .inr ⟨_, _, _, oe, rfl, rfl, c, xo, i⟩
  | _ => exact .inl fun k e => by cases e
/-- isinstance of an exception, beside one class -/
theorem isi_exc {prog : Program} {w : World} {A : Around} {E : Value → Shared → Prop} {s : Shared} {K : PySem.W.Frag} {a C : Addr} {oe : Obj} {c : Value} {b : Bool} {Q : Value → Shared → Prop} (x : XOk K C) (k : K.In s.heap) (i : PySem.W.InstAt s.heap a oe C none) (e : PySem.W.kitOne K (.ref C) c = some b) (h : ∀ tk, Q (.bool b) { s with toks := tk }) :
    wpAny (model prog w) A (call (.builtin "isinstance") [.ref a, c]) Q E s :=
  PySem.W.kia_one (PySem.W.handS_kitx_exc x.c.hg x.c.hk x.c.hs x.c.hd x.c.ha x.c.hn x.c.ht x.c.hm) k i e (fun z => nomatch z) h
def Ty.str' : Ty → String
  | .str => "str" | .int => "int" | .bool => "bool" | .list => "list" | .tuple => "tuple" | .dict => "dict"
section
variable {prog : Program} {w : World} {A : Around} {E : Value → Shared → Prop} {s : Shared} {v : Value} {d : D} {Q : Value → Shared → Prop}
theorem isi_str (r : Top s.heap v d) (h : ∀ tk, Q (.bool (isTy .str d)) { s with toks := tk }) : wpAny (model prog w) A (call (.builtin "isinstance") [v, .type "str"]) Q E s := by
  cases r with
  | none => exact PySem.IsiPair.NoneType_str (h _)
  | bool b => exact PySem.IsiPair.bool_str (h _)
  | int n t => exact PySem.IsiPair.int_str (h _)
  | str x t => exact PySem.IsiPair.str_str (h s.toks)
  | list h1 h2 => exact PySem.IsiPair.list_str h1 h2 (h _)
  | tuple h1 h2 => exact PySem.IsiPair.tuple_str h1 h2 (h _)
  | dict h1 h2 h3 => exact PySem.IsiPair.dict_str h1 h2 (h _)
theorem isi_int (r : Top s.heap v d) (h : ∀ tk, Q (.bool (isTy .int d)) { s with toks := tk }) : wpAny (model prog w) A (call (.builtin "isinstance") [v, .type "int"]) Q E s := by
  cases r with
  | none => exact PySem.IsiPair.NoneType_int (h _)
  | bool b => exact PySem.IsiPair.bool_int (h s.toks)
  | int n t => exact PySem.IsiPair.int_int (h s.toks)
  | str x t => exact PySem.IsiPair.str_int (h _)
  | list h1 h2 => exact PySem.IsiPair.list_int h1 h2 (h _)
  | tuple h1 h2 => exact PySem.IsiPair.tuple_int h1 h2 (h _)
  | dict h1 h2 h3 => exact PySem.IsiPair.dict_int h1 h2 (h _)
theorem isi_bool (r : Top s.heap v d) (h : ∀ tk, Q (.bool (isTy .bool d)) { s with toks := tk }) : wpAny (model prog w) A (call (.builtin "isinstance") [v, .type "bool"]) Q E s := by
  cases r with
  | none => exact PySem.IsiPair.NoneType_bool (h _)
  | bool b => exact PySem.IsiPair.bool_bool (h s.toks)
  | int n t => exact PySem.IsiPair.int_bool (h _)
  | str x t => exact PySem.IsiPair.str_bool (h _)
  | list h1 h2 => exact PySem.IsiPair.list_bool h1 h2 (h _)
  | tuple h1 h2 => exact PySem.IsiPair.tuple_bool h1 h2 (h _)
  | dict h1 h2 h3 => exact PySem.IsiPair.dict_bool h1 h2 (h _)
theorem isi_list (r : Top s.heap v d) (h : ∀ tk, Q (.bool (isTy .list d)) { s with toks := tk }) : wpAny (model prog w) A (call (.builtin "isinstance") [v, .type "list"]) Q E s := by
  cases r with
  | none => exact PySem.IsiPair.NoneType_list (h _)
  | bool b => exact PySem.IsiPair.bool_list (h _)
  | int n t => exact PySem.IsiPair.int_list (h _)
  | str x t => exact PySem.IsiPair.str_list (h _)
  | list h1 h2 => exact PySem.IsiPair.list_list h1 h2 (h s.toks)
  | tuple h1 h2 => exact PySem.IsiPair.tuple_list h1 h2 (h _)
  | dict h1 h2 h3 => exact PySem.IsiPair.dict_list h1 h2 (h _)
theorem isi_tuple (r : Top s.heap v d) (h : ∀ tk, Q (.bool (isTy .tuple d)) { s with toks := tk }) : wpAny (model prog w) A (call (.builtin "isinstance") [v, .type "tuple"]) Q E s := by
  cases r with
  | none => exact PySem.IsiPair.NoneType_tuple (h _)
  | bool b => exact PySem.IsiPair.bool_tuple (h _)
  | int n t => exact PySem.IsiPair.int_tuple (h _)
  | str x t => exact PySem.IsiPair.str_tuple (h _)
  | list h1 h2 => exact PySem.IsiPair.list_tuple h1 h2 (h _)
  | tuple h1 h2 => exact PySem.IsiPair.tuple_tuple h1 h2 (h s.toks)
  | dict h1 h2 h3 => exact PySem.IsiPair.dict_tuple h1 h2 (h _)
theorem isi_dict (r : Top s.heap v d) (h : ∀ tk, Q (.bool (isTy .dict d)) { s with toks := tk }) : wpAny (model prog w) A (call (.builtin "isinstance") [v, .type "dict"]) Q E s := by
  cases r with
  | none => exact PySem.IsiPair.NoneType_dict (h _)
  | bool b => exact PySem.IsiPair.bool_dict (h _)
  | int n t => exact PySem.IsiPair.int_dict (h _)
  | str x t => exact PySem.IsiPair.str_dict (h _)
  | list h1 h2 => exact PySem.IsiPair.list_dict h1 h2 (h _)
  | tuple h1 h2 => exact PySem.IsiPair.tuple_dict h1 h2 (h _)
  | @dict a o xs h1 h2 h3 => exact PySem.IsiPair.dict_dict h1 h2 (by
    have q := h s.toks
    rw [show isTy .dict (.dict xs) = true from congrArg not h3] at q
    exact q)
end
theorem o_isinst (t : Ty) : CallR X (.builtin "isinstance") fun xs H Q => ∃ x, xs = [x, .ty t.str'] ∧ rP X.K true (fIsinst t) [x] H Q := by
  intro pins s σ H xs us Q I r h
  obtain ⟨x, rfl, M, ds, d, tr, hd, hg, q⟩ := h
  obtain ⟨a, rfl, ha⟩ := hd.one
  obtain ⟨u1, u2, rfl, r1, r2⟩ := vals2 r
  cases (show u2 = Value.type t.str' from r2)
  have hg : some (PyData.bool (isTy t a)) = some d := hg
  cases hg
  have fin : ∀ tk, EP X pins σ Q (.bool (isTy t a)) { s with toks := tk } := fun tk => ⟨.bl _, H, I.tok _, rfl, q _ H (Same.refl H) (.bl _) (fin0 (by intro a e; cases e) H)⟩
  rcases ha.exc_or I r1 with nx | ⟨n, b, C, oe, rfl, rfl, _, xo, ii⟩
  case inr =>
    have fb : isTy t (exD n) = false := by cases t <;> rfl
    rw [fb] at fin
    refine isi_exc xo I.kIn ii (xo.f _ ?_) fin
    cases t <;> decide
  have T := ha.top I r1 nx
  cases t
  · exact isi_str T fin
  · exact isi_int T fin
  · exact isi_bool T fin
  · exact isi_list T fin
  · exact isi_tuple T fin
  · exact isi_dict T fin
end
end EV
end
section
set_option Elab.async false
set_option linter.all false
set_option maxRecDepth 100000
set_option maxHeartbeats 4000000
set_option autoImplicit false
/-! EvO3: repr of data with dicts in it. The kit asks that the table of modules be none of ALL addresses; only those of dicts matter -/
namespace EV
open PySem PySem.Spec PyProof.Rows L2
/-- no dict among these is the table of modules -/
def Safe (h : Heap) (as : List Addr) : Prop := ∀ a ∈ as, ∀ (o : Obj) (es : Array DictEntry) (n : Nat), h.get? a = some o → o.data = .dict es n → a ≠ sysModules
theorem Safe.left {h : Heap} {as bs : List Addr} (x : Safe h (as ++ bs)) : Safe h as := fun a m => x a (List.mem_append.mpr (.inl m))
theorem Safe.right {h : Heap} {as bs : List Addr} (x : Safe h (as ++ bs)) : Safe h bs := fun a m => x a (List.mem_append.mpr (.inr m))
theorem Safe.tail {h : Heap} {a : Addr} {as : List Addr} (x : Safe h (a :: as)) : Safe h as := fun b m => x b (List.Mem.tail _ m)
theorem Safe.nil {h : Heap} : Safe h [] := fun a m => nomatch m
theorem Safe.both {h : Heap} {as bs : List Addr} (x : Safe h as) (y : Safe h bs) : Safe h (as ++ bs) := fun a m => (List.mem_append.mp m).elim (x a) (y a)
theorem Safe.list {h : Heap} {a : Addr} {as : List Addr} {o : Obj} {vs : Array Value} {n : Nat} (x : Safe h as) (e : h.get? a = some o) (d : o.data = .seq vs n) : Safe h (a :: as) := fun b m o' es n' e' d' => by
  cases m with
  | head => rw [e] at e'; cases e'; rw [d] at d'; cases d'
  | tail _ m => exact x b m o' es n' e' d'
theorem Safe.dict {h : Heap} {a : Addr} {as : List Addr} (x : Safe h as) (e : (a == sysModules) = false) : Safe h (a :: as) := fun b m o' es n' e' d' => by
  cases m with
  | head => exact beq_eq_false_iff_ne.mp e
  | tail _ m => exact x b m o' es n' e' d'
section
variable {prog : Program} {w : World} {h : Heap}
def Shows (prog : Program) (w : World) (h : Heap) (d : D) (v : Value) : Prop := ∃ bs, ReadAtMost h d.depth bs ∧ ReprK prog w bs h d.depth v d.shown
def ShowsAll (prog : Program) (w : World) (h : Heap) (ds : List D) (vs : List Value) : Prop := ∃ bs, ReadAtMost h (PyData.depthAll ds) bs ∧ ReprAllK prog w bs h (PyData.depthAll ds) vs (PyData.shownAll ds)
theorem Shows.atom {d : D} {v : Value} (x : ReprIs prog w v d.shown) : Shows prog w h d v := ⟨[], fun b m => (nomatch m), .of_is x _ _ _⟩
theorem ShowsAll.nil : ShowsAll prog w h [] [] := ⟨[], fun b m => (nomatch m), by rw [PyData.shownAll]; exact .nil⟩
theorem ShowsAll.cons {d : D} {ds : List D} {v : Value} {vs : List Value} (x : Shows prog w h d v) (y : ShowsAll prog w h ds vs) : ShowsAll prog w h (d :: ds) (v :: vs) := by
  obtain ⟨p, p1, p2⟩ := x
  obtain ⟨q, q1, q2⟩ := y
  have l1 : d.depth ≤ PyData.depthAll (d :: ds) := by rw [PyData.depthAll]; omega
  have l2 : PyData.depthAll ds ≤ PyData.depthAll (d :: ds) := by rw [PyData.depthAll]; omega
  refine ⟨p ++ q, (p1.mono l1).append (q1.mono l2), ?_⟩
  rw [PyData.shownAll]
  exact .cons ((p2.more fun b m => List.mem_append.mpr (.inl m)).level_le l1) (q2.more_le (fun b m => List.mem_append.mpr (.inr m)) l2)
theorem apart {a : Addr} {d : D} {as bs : List Addr} {n : Nat} (r : Reads h (.ref a) d as) (e : d.depth = n + 1) (q : ReadAtMost h n bs) : a ∉ bs := not_mem_of_deeper r (by omega) q
theorem Shows.list {a : Addr} {o : Obj} {vs : Array Value} {n : Nat} {xs : List D} {as : List Addr} (g : h.get? a = some o) (c : o.cls = .type "list") (dt : o.data = .seq vs n) (rs : ReadsAll h vs.toList xs as) (q : ShowsAll prog w h xs vs.toList) : Shows prog w h (.list xs) (.ref a) := by
  obtain ⟨p, p1, p2⟩ := q
  have r : Reads h (.ref a) (.list xs) _ := .list g c dt rs
  have dp : (PyData.list xs).depth = PyData.depthAll xs + 1 := by rw [PyData.depth]
  refine ⟨a :: p, .cons r (by omega) p1, ?_⟩
  rw [dp, PyData.shown]
  obtain ⟨l⟩ := vs
  cases l with
  | nil =>
    cases rs
    rw [PyData.shownAll, listText_nil]
    exact ReprK.listEmpty g c dt
  | cons x l => exact ReprK.list g c dt (apart r dp p1) (by simpa using p2.length_eq) fun i y e => p2.item i y (by simpa using e)
theorem Shows.tuple {a : Addr} {o : Obj} {vs : Array Value} {n : Nat} {xs : List D} {as : List Addr} (g : h.get? a = some o) (c : o.cls = .type "tuple") (dt : o.data = .seq vs n) (rs : ReadsAll h vs.toList xs as) (q : ShowsAll prog w h xs vs.toList) : Shows prog w h (.tuple xs) (.ref a) := by
  obtain ⟨p, p1, p2⟩ := q
  have r : Reads h (.ref a) (.tuple xs) _ := .tuple g c dt rs
  have dp : (PyData.tuple xs).depth = PyData.depthAll xs + 1 := by rw [PyData.depth]
  refine ⟨a :: p, .cons r (by omega) p1, ?_⟩
  rw [dp, PyData.shown]
  exact ReprK.tuple g c dt (apart r dp p1) p2
theorem two {es : Array DictEntry} {kvs : List (D × D)} {p q : List Addr} (p2 : ReprAllK prog w p h (PyData.depthAll (kvs.map (·.1))) (es.toList.map (·.key)) (PyData.shownAll (kvs.map (·.1)))) (q2 : ReprAllK prog w q h (PyData.depthAll (kvs.map (·.2))) (es.toList.map (·.val)) (PyData.shownAll (kvs.map (·.2)))) :
    ReprEntriesK prog w (p ++ q) h (PyData.depthKv kvs) es.toList (PyData.shownKv kvs) := by
  rw [PyData.shownKv_eq]
  exact .of_two _ _ _ (p2.more_le (fun b m => List.mem_append.mpr (.inl m)) (PyData.depthAll_keys_le kvs)) (q2.more_le (fun b m => List.mem_append.mpr (.inr m)) (PyData.depthAll_vals_le kvs))
theorem Shows.dict {a : Addr} {o : Obj} {es : Array DictEntry} {n : Nat} {kvs : List (D × D)} {as bs : List Addr} (g : h.get? a = some o) (c : o.cls = .type "dict") (dt : o.data = .dict es n) (rk : ReadsAll h (es.toList.map (·.key)) (kvs.map (·.1)) as) (rv : ReadsAll h (es.toList.map (·.val)) (kvs.map (·.2)) bs)
    (far : a ≠ sysModules) (q1 : ShowsAll prog w h (kvs.map (·.1)) (es.toList.map (·.key))) (q2 : ShowsAll prog w h (kvs.map (·.2)) (es.toList.map (·.val))) : Shows prog w h (.dict kvs) (.ref a) := by
  obtain ⟨p, p1, p2⟩ := q1
  obtain ⟨q, q1, q2⟩ := q2
  have r : Reads h (.ref a) (.dict kvs) _ := .dict g c dt rk rv
  have dp : (PyData.dict kvs).depth = PyData.depthKv kvs + 1 := by rw [PyData.depth]
  have at_ := (p1.mono (PyData.depthAll_keys_le kvs)).append (q1.mono (PyData.depthAll_vals_le kvs))
  refine ⟨a :: (p ++ q), .cons r (by omega) at_, ?_⟩
  rw [dp, PyData.shown]
  exact ReprK.dict g c dt (beq_eq_false_iff_ne.mpr far) (apart r dp at_) (two p2 q2)
mutual
theorem shows_of : ∀ {v : Value} {d : D} {as : List Addr}, Reads h v d as → d.showable = true → Safe h as → d.shown.length ≤ sizeLine → Shows prog w h d v
  | _, _, _, .none, _, _, _ => .atom (by rw [PyData.shown]; exact ReprIs.none)
  | _, _, _, .bool b, _, _, _ => .atom (by rw [PyData.shown]; exact ReprIs.bool b)
  | _, _, _, .int i t, hs, _, _ => .atom (by rw [PyData.shown]; exact ReprIs.int t (by simpa [PyData.showable] using hs))
  | _, _, _, .str x t, _, _, hz => .atom (by rw [PyData.shown] at hz ⊢; exact ReprIs.str x t hz)
  | _, _, _, .list (xs := xs) g c dt rs, hs, sf, hz => by
    rw [PyData.shown] at hz
    exact .list g c dt rs (showsAll_of rs (by simpa [PyData.showable] using hs) sf.tail fun t ht => Nat.le_trans (listText_mem_le ht) hz)
  | _, _, _, .tuple (xs := xs) g c dt rs, hs, sf, hz => by
    rw [PyData.shown] at hz
    exact .tuple g c dt rs (showsAll_of rs (by simpa [PyData.showable] using hs) sf fun t ht => Nat.le_trans (tupleText_mem_le ht) hz)
  | _, _, _, .dict (kvs := kvs) g c dt rk rv, hs, sf, hz => by
    rw [PyData.shown] at hz
    obtain ⟨s1, s2⟩ := PyData.showableKv_split kvs (by simpa [PyData.showable] using hs)
    refine .dict g c dt rk rv (sf _ (by simp) _ _ _ g dt) (showsAll_of rk s1 ?_ fun t ht => ?_) (showsAll_of rv s2 ?_ fun t ht => ?_)
    · exact sf.left.tail
    · obtain ⟨p, hp, hl⟩ := PyData.shownKv_key_le kvs t ht
      exact Nat.le_trans hl (Nat.le_trans (dictText_mem_le hp) hz)
    · exact sf.right
    · obtain ⟨p, hp, hl⟩ := PyData.shownKv_val_le kvs t ht
      exact Nat.le_trans hl (Nat.le_trans (dictText_mem_le hp) hz)
theorem showsAll_of : ∀ {vs : List Value} {ds : List D} {as : List Addr}, ReadsAll h vs ds as → PyData.showableAll ds = true → Safe h as → (∀ t ∈ PyData.shownAll ds, t.length ≤ sizeLine) → ShowsAll prog w h ds vs
  | _, _, _, .nil, _, _, _ => .nil
  | _, _, _, .cons (d := d) (ds := ds) r rs, hs, sf, hz => by
    rw [PyData.showableAll, Bool.and_eq_true] at hs
    rw [PyData.shownAll] at hz
    exact .cons (shows_of r hs.1 sf.left (hz _ (by simp))) (showsAll_of rs hs.2 sf.right fun t ht => hz t (by simp [ht]))
end
/-- repr of what stands at an address -/
theorem repr_safe {A : Around} {E : Value → Shared → Prop} {s : Shared} {Q : Value → Shared → Prop} {a : Addr} {d : D} {as : List Addr} (r : Reads s.heap (.ref a) d as) (hs : d.showable = true) (sf : Safe s.heap as) (hz : d.shown.length ≤ sizeLine) (hg : A.guards = some []) (hu : A.units + (d.depth + 1) < cLine)
    (hQ : ∀ h' u tk, (∀ b o, s.heap.get? b = some o → h'.get? b = some o) → Q (.str d.shown u) { s with heap := h', toks := tk }) : wpAny (model prog w) A (call (.builtin "repr") [.ref a]) Q E s := by
  have same : ∀ b o, s.heap.get? b = some o → s.heap.get? b = some o := fun _ _ e => e
  have cl : ∀ {bs : List Addr}, ∀ b ∈ bs, Clear [] b := fun b _ => Clear.nil b
  cases r with
  | list g c dt rs =>
    rename_i o vs n xs bs
    rw [PyData.shown] at hz
    rw [PyData.depth] at hu
    simp only [PyData.shown] at hQ
    obtain ⟨p, p1, p2⟩ := showsAll_of (prog := prog) (w := w) rs (by simpa [PyData.showable] using hs) sf.tail fun t ht => Nat.le_trans (listText_mem_le ht) hz
    have na := apart (.list g c dt rs) (by rw [PyData.depth]) p1
    refine call_repr_slot (by omega) ⟨o, g, c⟩ F.slot_list_repr.toG ?_
    obtain ⟨l⟩ := vs
    cases l with
    | nil =>
      cases rs
      rw [PyData.shownAll, listText_nil] at hQ
      exact call_list_repr_empty ⟨o, g, c⟩ g dt ⟨_, _, rfl, hQ s.heap _ _ same⟩
    | cons x l => exact call_list_reprK g c dt na (by simpa using p2.length_eq) (fun i y e => p2.item i y (by simpa using e)) hg (fun b _ => Clear.nil b) (by show A.units + 1 + _ < cLine; omega) same (fun h' u tk k => ⟨_, _, rfl, hQ h' u tk k⟩) hz
  | tuple g c dt rs =>
    rename_i o vs n xs
    rw [PyData.shown] at hz
    rw [PyData.depth] at hu
    simp only [PyData.shown] at hQ
    obtain ⟨p, p1, p2⟩ := showsAll_of (prog := prog) (w := w) rs (by simpa [PyData.showable] using hs) sf fun t ht => Nat.le_trans (tupleText_mem_le ht) hz
    have na := apart (.tuple g c dt rs) (by rw [PyData.depth]) p1
    exact call_repr_slot (by omega) ⟨o, g, c⟩ F.slot_tuple_repr (call_tuple_reprK g c dt na p2 hg (fun b _ => Clear.nil b) (by show A.units + 1 + _ < cLine; omega) same (fun h' u tk k => ⟨_, _, rfl, hQ h' u tk k⟩) hz)
  | dict g c dt rk rv =>
    rename_i o es n kvs as bs
    rw [PyData.shown] at hz
    rw [PyData.depth] at hu
    simp only [PyData.shown] at hQ
    obtain ⟨s1, s2⟩ := PyData.showableKv_split kvs (by simpa [PyData.showable] using hs)
    obtain ⟨p, p1, p2⟩ := showsAll_of (prog := prog) (w := w) rk s1 sf.left.tail fun t ht => (PyData.shownKv_key_le kvs t ht).elim fun p ⟨hp, hl⟩ => Nat.le_trans hl (Nat.le_trans (dictText_mem_le hp) hz)
    obtain ⟨q, q1, q2⟩ := showsAll_of (prog := prog) (w := w) rv s2 sf.right fun t ht => (PyData.shownKv_val_le kvs t ht).elim fun p ⟨hp, hl⟩ => Nat.le_trans hl (Nat.le_trans (dictText_mem_le hp) hz)
    have na := apart (.dict g c dt rk rv) (by rw [PyData.depth]) ((p1.mono (PyData.depthAll_keys_le kvs)).append (q1.mono (PyData.depthAll_vals_le kvs)))
    exact call_repr_slot (by omega) ⟨o, g, c⟩ F.slot_dict_repr (call_dict_reprK g c dt (beq_eq_false_iff_ne.mpr (sf _ (by simp) _ _ _ g dt)) na (two p2 q2) hg (fun b _ => Clear.nil b) (by show A.units + 1 + _ < cLine; omega) same (fun h' u tk k => ⟨_, _, rfl, hQ h' u tk k⟩) hz)
end
/-! ### data is read, dicts too -/
section
variable {X : Cx} {pins : List (Addr × Obj)} {σ : L2.St} {H : Hp} {s : Shared} {M : Addr → Prop} {h : Heap}
theorem key_reads {k : Key} {v : Value} (e : keyIs k v = true) : Reads h v (keyD k) [] := by
  rcases keyIs_shape e with ⟨i, t, rfl, rfl⟩ | ⟨x, t, rfl, rfl⟩
  · exact .int i t
  · exact .str x t
theorem keys_reads {P : Program} {w : World} : ∀ {es : List DictEntry} {kvs : List (Key × Value)}, Pairs (mixKind P w) es kvs → ReadsAll h (es.map (·.key)) (kvs.map fun p => keyD p.1) []
  | _, _, .nil => .nil
  | _, _, .cons e _ r => .cons (as := []) (bs := []) (key_reads e) (keys_reads r)
theorem pairs_vals {P : Program} {w : World} : ∀ {es : List DictEntry} {kvs : List (Key × Value)}, Pairs (mixKind P w) es kvs → es.map (·.val) = kvs.map (·.2)
  | _, _, .nil => rfl
  | _, _, .cons _ e r => by rw [List.map_cons, List.map_cons, e, pairs_vals r]
theorem kv_both {κ : Type} : ∀ {es : List (κ × V)} {vs : List (κ × Value)}, KV es vs → es.map (·.1) = vs.map (·.1) ∧ Vals (es.map (·.2)) (vs.map (·.2))
  | _, _, .nil => ⟨rfl, .nil⟩
  | _, _, .cons ⟨e, r⟩ t => by
    obtain ⟨a, b⟩ := kv_both t
    exact ⟨by rw [List.map_cons, List.map_cons, e, a], .cons r b⟩
theorem items_reads {P : Program} {w : World} : ∀ {ks : List Key} {vs : List Value}, ItemsAre (mixKind P w) ks vs → ReadsAll h vs (ks.map keyD) []
  | _, _, .nil => .nil
  | _, _, .cons e r => .cons (as := []) (bs := []) (key_reads e) (items_reads r)
theorem tups_reads {P : Program} {w : World} : ∀ {xs : List (List Key × Addr × Value)}, (∀ x ∈ xs, (tupleKind (mixKind P w)).is h x.1 x.2.1) → ReadsAll h ((xs.map (entryOfKey (tupleKind (mixKind P w)))).map (·.key)) (xs.map fun x => .tuple (x.1.map keyD)) []
  | [], _ => .nil
  | x :: xs, q => by
    obtain ⟨o, its, n, g, c, dt, r⟩ := q x (by simp)
    exact .cons (as := []) (bs := []) (.tuple g c dt (items_reads r)) (tups_reads fun y hy => q y (List.Mem.tail _ hy))
theorem kt_both {H : Hp} : ∀ {es : List (List Key × V)} {xs : List (List Key × Addr × Value)}, KT H es xs → es.map (·.1) = xs.map (·.1) ∧ Vals (es.map (·.2)) (xs.map fun x => x.2.2)
  | _, _, .nil => ⟨rfl, .nil⟩
  | _, _, .cons ⟨e, _, r⟩ t => by
    obtain ⟨a, b⟩ := kt_both t
    exact ⟨by rw [List.map_cons, List.map_cons, e, a], .cons r b⟩
theorem noXv_map : ∀ kvs : List (D × D), noXv kvs = noXs (kvs.map (·.2))
  | [] => rfl
  | p :: r => by rw [noXv, List.map_cons, noXs, noXv_map r]
mutual
theorem Dn.readsD (I : Inv X pins σ H s) : ∀ {b : Bool} {d : D} {v : V} {u : Value}, Dn X.K M H b d v → RelV v u → noX d = true → ∃ as, Reads s.heap u d as ∧ Safe s.heap as
  | _, _, _, _, .non, r, _ => by cases r; exact ⟨_, .none, .nil⟩
  | _, _, _, _, .bl k, r, _ => by cases r; exact ⟨_, .bool k, .nil⟩
  | _, _, _, _, .int i, r, _ => by obtain ⟨t, rfl⟩ := r; exact ⟨_, .int i t, .nil⟩
  | _, _, _, _, .str x, r, _ => by obtain ⟨t, rfl⟩ := r; exact ⟨_, .str x t, .nil⟩
  | _, _, _, _, .lst e _ l, r, nx => by
    cases r
    obtain ⟨its, rv, ⟨o, n, g, c, _, dt⟩, _⟩ := I.list (.inl e)
    obtain ⟨as, rs, sf⟩ := DnL.readsD I l rv (by rw [noX] at nx; exact nx)
    exact ⟨_, .list g c dt rs, sf.list g dt⟩
  | _, _, _, _, .lstK e l, r, nx => by
    cases r
    obtain ⟨its, rv, ⟨o, n, g, c, _, dt⟩, _⟩ := I.list (.inr e)
    obtain ⟨as, rs, sf⟩ := DnL.readsD I l rv (by rw [noX] at nx; exact nx)
    exact ⟨_, .list g c dt rs, sf.list g dt⟩
  | _, _, _, _, .tup e _ l, r, nx => by
    cases r
    obtain ⟨its, rv, ⟨o, g, c, n, dt⟩, _⟩ := I.tuple (.inl e)
    obtain ⟨as, rs, sf⟩ := DnL.readsD I l rv (by rw [noX] at nx; exact nx)
    exact ⟨_, .tuple g c dt rs, sf⟩
  | _, _, _, _, .tupK e l, r, nx => by
    cases r
    obtain ⟨its, rv, ⟨o, g, c, n, dt⟩, _⟩ := I.tuple (.inr e)
    obtain ⟨as, rs, sf⟩ := DnL.readsD I l rv (by rw [noX] at nx; exact nx)
    exact ⟨_, .tuple g c dt rs, sf⟩
  | _, _, _, _, .dK (es := es) e _ q0 q l q2, r, nx => by
    cases r
    obtain ⟨_, far, ps, kv, o, a, n, g, c, dt, _, pr, _⟩ := dk_rd I.hok e
    obtain ⟨k1, k2⟩ := kv_both kv
    rw [← q2] at k2
    obtain ⟨as, rs, sf⟩ := DnL.readsD I l k2 (by rw [noX, Bool.and_eq_true, noXv_map, q] at nx; exact nx.2)
    refine ⟨_, .dict (as := []) g c.1 dt ?_ ?_, sf.dict far⟩
    · rw [q0]
      have := congrArg (List.map keyD) k1
      rw [List.map_map, List.map_map] at this
      rw [show (es.map fun p => keyD p.1) = ps.map fun p => keyD p.1 from this]
      exact keys_reads pr
    · rw [pairs_vals pr, q]
      exact rs
  | _, _, _, _, .dT (es := es) e _ q0 q l q2, r, nx => by
    cases r
    obtain ⟨_, far, xs, kt, o, a, n, g, c, dt, ee, ks, _⟩ := dt_rd I.hok e
    obtain ⟨k1, k2⟩ := kt_both kt
    rw [← q2] at k2
    obtain ⟨as, rs, sf⟩ := DnL.readsD I l k2 (by rw [noX, Bool.and_eq_true, noXv_map, q] at nx; exact nx.2)
    refine ⟨_, .dict (as := []) g c.1 dt ?_ ?_, sf.dict far⟩
    · rw [q0, ee]
      have := congrArg (List.map fun ks : List Key => (PyData.tuple (ks.map keyD))) k1
      rw [List.map_map, List.map_map] at this
      rw [show (es.map fun p => PyData.tuple (p.1.map keyD)) = xs.map fun p => PyData.tuple (p.1.map keyD) from this]
      exact tups_reads ks
    · rw [ee, List.map_map, q]
      exact rs
  | _, _, _, _, .exc _ _ _ _, _, nx => nomatch (show false = true from nx)
theorem DnL.readsD (I : Inv X pins σ H s) : ∀ {ds : List D} {vs : List V} {us : List Value}, DnL X.K M H ds vs → Vals vs us → noXs ds = true → ∃ as, ReadsAll s.heap us ds as ∧ Safe s.heap as
  | _, _, _, .nil, r, _ => by cases r; exact ⟨_, .nil, .nil⟩
  | _, _, _, .cons a l, r, nx => by
    cases r with
    | cons r1 r2 =>
      rw [noXs, Bool.and_eq_true] at nx
      obtain ⟨as, x1, y1⟩ := Dn.readsD I a r1 nx.1
      obtain ⟨bs, x2, y2⟩ := DnL.readsD I l r2 nx.2
      exact ⟨_, .cons x1 x2, y1.both y2⟩
end
end
section
variable {X : Cx}
theorem o_repr (hg0 : X.A.guards = some []) (hu : X.A.units + 200 < cLine) : CallP X (.builtin "repr") true fRepr := by
  intro pins s σ H xs us Q I r0 h
  obtain ⟨M, ds, d, tr, hd, hg, q⟩ := h
  unfold fRepr at hg
  split at hg
  · rename_i x
    split at hg
    · rename_i hl
      cases hg
      simp only [Bool.and_eq_true, decide_eq_true_eq] at hl
      obtain ⟨⟨⟨sh, dp⟩, sz⟩, nx⟩ := hl
      have sz : x.shown.length ≤ sizeLine := Nat.le_trans sz (by decide)
      cases hd with
      | cons ha hn =>
      cases hn
      obtain ⟨u1, rfl, r1⟩ := vals1 r0
      obtain ⟨as, rd, sf⟩ := Dn.readsD I ha r1 nx
      have fin : ∀ (h' : Heap) (u : Tok) (tk : Nat), (∀ b o, s.heap.get? b = some o → h'.get? b = some o) → EP X pins σ Q (.str x.shown u) { s with heap := h', toks := tk } := fun h' u tk k =>
        ⟨.str _, H, I.kept k, ⟨_, rfl⟩, q _ H (Same.refl H) (.str _) (fin0 (by intro a e; cases e) H)⟩
      have fin1 : ∀ (z : Str) (u : Tok) (tk : Nat), z = x.shown → EP X pins σ Q (.str z u) { s with toks := tk } := fun z u tk e => by
        subst e
        exact fin s.heap u tk fun _ _ e => e
      cases rd with
      | none => exact PySem.P.repr_of_none (fin1 _ _ _ (by simp only [PyData.shown]))
      | bool b => exact PySem.P.repr_of_bool (fin1 _ _ _ (by simp only [PyData.shown]))
      | int i t => exact PySem.P.repr_of_int (by simpa [PyData.showable] using sh) (fin1 _ _ _ (by simp only [PyData.shown]))
      | str z t => exact PySem.P.repr_of_str (fin1 _ _ _ (by simp only [PyData.shown])) (by simpa only [PyData.shown] using sz)
      | list g c dt rs => exact repr_safe (.list g c dt rs) sh sf sz hg0 (by omega) fin
      | tuple g c dt rs => exact repr_safe (.tuple g c dt rs) sh sf sz hg0 (by omega) fin
      | dict g c dt rk rv => exact repr_safe (.dict g c dt rk rv) sh sf sz hg0 (by omega) fin
    · cases hg
  · cases hg
/-! ### isinstance(x, (list, tuple)) -/
theorem ans_lt {h : Heap} {v : Value} {d : D} (r : Top h v d) : ∃ (T : String) (vs : List Bool), AnswersAll (fun s => s.TypeIs v T) v [.type "list", .type "tuple"] vs ∧ vs.any id = (isTy .list d || isTy .tuple d) ∧ ∀ s : Shared, (∀ b o, h.get? b = some o → s.heap.get? b = some o) → s.TypeIs v T := by
  have ml := PySem.F.isi_meta_list
  have mt := PySem.F.isi_meta_tuple
  cases r with
  | none => exact ⟨"NoneType", [false, false], ⟨.of_false_none (by decide +kernel) ml PySem.F.sub_NoneType_list, .of_false_none (by decide +kernel) mt PySem.F.sub_NoneType_tuple, trivial⟩, rfl, fun s _ => rfl⟩
  | bool b => exact ⟨"bool", [false, false], ⟨.of_false_bool (by decide +kernel) ml PySem.F.sub_bool_list, .of_false_bool (by decide +kernel) mt PySem.F.sub_bool_tuple, trivial⟩, rfl, fun s _ => rfl⟩
  | int i t => exact ⟨"int", [false, false], ⟨.of_false_int (by decide +kernel) ml PySem.F.sub_int_list, .of_false_int (by decide +kernel) mt PySem.F.sub_int_tuple, trivial⟩, rfl, fun s _ => rfl⟩
  | str x t => exact ⟨"str", [false, false], ⟨.of_false_str (by decide +kernel) ml PySem.F.sub_str_list, .of_false_str (by decide +kernel) mt PySem.F.sub_str_tuple, trivial⟩, rfl, fun s _ => rfl⟩
  | list g c => exact ⟨"list", [true, false], ⟨.of_true ml PySem.F.sub_list_list, .of_false_list (by decide +kernel) mt PySem.F.sub_list_tuple, trivial⟩, rfl, fun s k => ⟨_, k _ _ g, c⟩⟩
  | tuple g c => exact ⟨"tuple", [false, true], ⟨.of_false_tuple (by decide +kernel) ml PySem.F.sub_tuple_list, .of_true mt PySem.F.isi_sub_tuple, trivial⟩, rfl, fun s k => ⟨_, k _ _ g, c⟩⟩
  | dict g c _ => exact ⟨"dict", [false, false], ⟨.of_false_dict (by decide +kernel) ml PySem.F.sub_dict_list, .of_false_dict (by decide +kernel) mt PySem.F.sub_dict_tuple, trivial⟩, rfl, fun s k => ⟨_, k _ _ g, c⟩⟩
theorem two_types {us : List Value} (r : Vals [V.ty "list", V.ty "tuple"] us) : us = [.type "list", .type "tuple"] := by
  cases r with
  | cons a r =>
    cases r with
    | cons b r =>
      cases r
      cases a
      cases b
      rfl
theorem pe_isLT {p p1 p2 pos tpos : Pos} {kk : Nat} {e : Expr} {te : TE} (he : PE X e te) (hg : Gl X "isinstance") (hm : X.mg "isinstance" = none) (hes : PA X [.Name "list" p1, .Name "tuple" p2] (tCons (tC (.ty "list")) (tCons (tC (.ty "tuple")) tNil)))
    (s1 : starEach [e, .Tuple [.Name "list" p1, .Name "tuple" p2] kk tpos] X.env = (false, eval e X.env) :: starEach [.Tuple [.Name "list" p1, .Name "tuple" p2] kk tpos] X.env) (s2 : starEach [.Tuple [.Name "list" p1, .Name "tuple" p2] kk tpos] X.env = (false, eval (.Tuple [.Name "list" p1, .Name "tuple" p2] kk tpos) X.env) :: starEach [] X.env)
    (hpl : (backTo pos (starEach [.Tuple [.Name "list" p1, .Name "tuple" p2] kk tpos] X.env)).any (·.1) = false) :
    PE X (.Call (.Name "isinstance" p) [e, .Tuple [.Name "list" p1, .Name "tuple" p2] kk tpos] [] pos) fun σ H Q => te σ H fun x H1 => rP X.K true fIsLT [x] H1 Q := by
  refine ⟨fun pins s σ H Q I h => ?_⟩
  refine wpAny_Call_Name_kw (ld_blt I hg hm PyProof.Rows.boot_isinstance (PyProof.Rows.callWith_builtin1 ?_ s1 hpl) (by decide) (by decide))
  rw [s1]
  show wpAny _ _ (spliced ((false, eval e X.env) :: backTo pos (starEach [.Tuple [.Name "list" p1, .Name "tuple" p2] kk tpos] X.env))) _ _ s
  refine PySem.Calls.spliced_cons (thn (he.run pins s σ H _ I h) fun u t1 ⟨x, H1, I1, r1, M, ds, d, tr, hd, hf, q⟩ => ?_)
  rw [s2]
  show wpAny _ _ (spliced ((false, eval (.Tuple [.Name "list" p1, .Name "tuple" p2] kk tpos) X.env) :: backTo pos (starEach [] X.env))) _ _ t1
  refine PySem.Calls.spliced_cons (wpAny_Tuple_spliced (thn (hes.run tpos pins t1 σ H1 (fun ys H' => ys = [.ty "list", .ty "tuple"] ∧ H' = H1) I1 ⟨rfl, rfl⟩) fun us t2 ⟨ys, H2, I2, r2, ey, eH⟩ => ?_))
  subst ey eH
  cases two_types r2
  refine ⟨by show 2 ≤ sizeLine; rw [sizeLine_eq]; omega, PySem.Calls.spliced_nil ?_⟩
  obtain ⟨y, rfl, ha⟩ := hd.one
  have hf : some (PyData.bool (isTy .list y || isTy .tuple y)) = some d := hf
  cases hf
  have up : ∀ b o, t2.heap.get? b = some o → (t2.heap.push { cls := .type "tuple", data := .seq [Value.type "list", Value.type "tuple"].toArray }).get? b = some o := fun b o e => Heap.get?_push_of_some _ e
  rcases ha.exc_or I2 r1 with nx | ⟨n, a1, C, oe, rfl, rfl, _, xo, ii⟩
  case inr =>
    have k1 := xo.f "list" (by decide)
    have k2 := xo.f "tuple" (by decide)
    have kk : PySem.W.kitAny X.K (.ref C) [.type "list", .type "tuple"] = some false := by
      unfold PySem.W.kitAny
      rw [k1]
      unfold PySem.W.kitAny
      rw [k2]
      rfl
    obtain ⟨g1, g2, g3, g4⟩ := ii
    exact PySem.W.kia_tup (its := [.type "list", .type "tuple"]) (PySem.W.handS_kitx_exc xo.c.hg xo.c.hk xo.c.hs xo.c.hd xo.c.ha xo.c.hn xo.c.ht xo.c.hm) (I2.kIn.keeps up) ⟨up _ _ g1, g2, g3, by cases e : oe.dict <;> (rw [e] at g4; exact g4)⟩ (Heap.get?_push_size _ rfl) kk (fun z => nomatch z) fun tk =>
      ⟨.bl _, H2, (I2.kept up), rfl, q _ H2 (Same.refl H2) (.bl _) (fin0 (by intro a e; cases e) H2)⟩
  obtain ⟨T, vs, an, ev, ty⟩ := ans_lt (ha.top I2 r1 nx)
  refine call_isinstance (isinstance_tuple (tp := t2.heap.objs.size) an) ⟨ty _ up, Heap.get?_push_size _ rfl, fun tk => ?_⟩
  rw [ev]
  exact ⟨.bl _, H2, I2.kept up, rfl, q _ H2 (Same.refl H2) (.bl _) (fin0 (by intro a e; cases e) H2)⟩
end
end EV
end
section
set_option Elab.async false
set_option linter.all false
set_option maxRecDepth 100000
set_option maxHeartbeats 2000000
set_option autoImplicit true
/-! EvF: a def's promise, where no repr runs around it; its call; a law's end (after the hand layer's own, with one fact more) -/
namespace EV
open PySem PySem.Spec PyProof.Rows L2
structure FnG (P : Program) (w : World) (K : PySem.W.Frag) (mg : Str → Option Value) (base : Heap) (CX : CXT) (k : Nat) (f : Addr) (fd : FuncData) (ps : List Str) (sp : Sp) : Prop where
  len : ∀ vs H Q E, sp vs H Q E → vs.length = ps.length
  run : ∀ (A : Around) (out : List PySem.Env) (s : Shared) (H : Hp) (args : Args) (us : List Value) (vs : List V) (Q : VK) (E : XK), Room k A → A.guards = some [] → Env0 P w K mg base A out s H → BindsTo s fd args (ps.zip us) → Vals vs us → sp vs H Q E →
    codeAny (model P w) A (.call (.ref f) args) (CR CX out P w H s Q E) s
section
variable {X : Cx} {CX : CXT} {k : Nat} {f : Addr} {fd : FuncData} {ps : List Str} {sp : Sp} {E : L2.St → XK} {x : Str} {p pos : Pos} {e : Expr} {es : List Expr} {t : TA}
theorem run_fnG {pn : List (Addr × Obj)} {ss : L2.St} {H : Hp} {s : Shared} {Q : VK} {us : List Value} {vs : List V} (F : FnG X.prog X.w X.K X.mg X.base CX k f fd ps sp) (hr : Room k X.A) (hgd : X.A.guards = some []) (hb : Binds X.K fd ps []) (hx : PassesAt CX X ss (E ss))
    (I : Inv X pn ss H s) (r : Vals vs us) (h : sp vs H Q (E ss)) : wpAny (model X.prog X.w) X.A (call (.ref f) us) (EP X pn ss Q) X.xe s := by
  have ln : us.length = ps.length := by rw [← r.length]; exact F.len _ _ _ _ h
  have bd := hb s us I.kIn (by rw [List.append_nil]; exact ln)
  rw [List.append_nil] at bd
  refine wpAny_call (codeAny_mono (F.run X.A X.stack s H ⟨us, []⟩ us vs Q (E ss) hr hgd I.env0 bd r h) fun rr s2 hQq => ?_)
  cases rr with
  | error ex => exact hx pn H s ex s2 I hQq
  | ok fl =>
    cases fl with
    | ret u => exact I.after hQq
    | _ => exact hQq.elim
def tCallG (sp : Sp) (E : L2.St → XK) (t : TA) : TE := fun ss H Q => t ss H fun vs H1 => sp vs H1 Q (E ss)
theorem pe_callG (F : FnG X.prog X.w X.K X.mg X.base CX k f fd ps sp) (hr : Room k X.A) (hgd : X.A.guards = some []) (hg : Gl X x) (hm : X.mg x = some (.ref f)) (hk : PySem.W.keepIn X.K (.ref f) = true) (hb : Binds X.K fd ps []) (hx : ∀ ss, PassesAt CX X ss (E ss))
    (ha : PA X (e :: es) t) (hdb : (x == ("__debug__" : Str)) = false) (he : starEach (e :: es) X.env = (false, eval e X.env) :: starEach es X.env) (hpl : (backTo pos (starEach es X.env)).any (·.1) = false) :
    PE X (.Call (.Name x p) (e :: es) [] pos) (tCallG sp E t) := by
  refine ⟨fun pn s ss H Q I h => wpAny_Call_Name_kw (ld_glob I hg hm ?_ hdb)⟩
  exact PySem.W.callWith_K (h₀ := X.base) I.ok.mod.kin hk (thn (ha.run pos pn s ss H _ I h) fun us s2 ⟨vs, H2, I2, r, q⟩ => ⟨I2.kIn, run_fnG F hr hgd hb (hx ss) I2 r q⟩) he hpl
theorem pe_callG0 (F : FnG X.prog X.w X.K X.mg X.base CX k f fd ps sp) (hr : Room k X.A) (hgd : X.A.guards = some []) (hg : Gl X x) (hm : X.mg x = some (.ref f)) (hk : PySem.W.keepIn X.K (.ref f) = true) (hb : Binds X.K fd ps []) (hx : ∀ ss, PassesAt CX X ss (E ss))
    (hdb : (x == ("__debug__" : Str)) = false) : PE X (.Call (.Name x p) [] [] pos) (tCallG sp E tNil) := by
  refine ⟨fun pn s ss H Q I h => wpAny_Call_Name_kw (ld_glob I hg hm ?_ hdb)⟩
  exact PySem.W.callWith_K0 I.kIn hk (run_fnG (us := []) F hr hgd hb (hx ss) I .nil h)
end
/-- a def's promise by its body, which runs at once behind the call -/
theorem FnG.mk' {P : Program} {w : World} {K : PySem.W.Frag} {mg : Str → Option Value} {base : Heap} {CX : CXT} {k : Nat} {f : Addr} {fd : FuncData} {x q : Str} {st : Stmt} {N ps : List Str} {sp : Sp}
    (F : Fun K x q st f fd) (S : FnScope N ps (defScope st)) (len : ∀ vs H Q E, sp vs H Q E → vs.length = ps.length)
    (body : ∀ (cd : Value) (A : Around) (out : List PySem.Env) (s : Shared) (H : Hp) (vs : List V) (Q : VK) (E : XK), Room k (A.deeper (envOfC q (defScope st) s.heap.objs.size f cd)) → A.guards = some [] → sp vs H Q E →
      ∃ t, PSs (cxOf CX P w K mg base N q (defScope st) f cd A out s H E) (defBody st) t ∧ t { nx := fun _ H2 => Q .non H2, rt := Q } (start N vs) H) :
    FnG P w K mg base CX (k + 1) f fd ps sp := by
  obtain ⟨oc, od, kV, doc, pm, an, cd, ct, osl, rfl, lk, hcd⟩ := F.ex
  refine ⟨len, fun A out s H args us vs Q E room gd en bd rel pr => ?_⟩
  have inK : K.In s.heap := en.mod.kin.keeps fun b o e => (en.bs b o e).1
  have par : ∀ y ∈ ps.zip us, (defScope st).names.lookup y.1 = some .local ∨ ((defScope st).names.lookup y.1 = some .cell ∧ ((cellsFrom (s.heap.objs.size + 1) (defScope st).names []).lookup y.1).isSome = true) := by
    intro y hy
    have m : y.1 ∈ ps := (List.of_mem_zip (show (y.1, y.2) ∈ ps.zip us from hy)).1
    exact (S.par _ m).imp id fun c => ⟨c, PySem.W.cellsFrom_some _ _ _ (.inl c)⟩
  refine codeAny_call_function room.depth (inK _ _ lk) rfl S.co S.gen rfl (PySem.W.codeRec_of inK hcd) (bd _ _ _ _ (wpAny_newFunctionEnv_cells S.kind par fun env he s2 cl => ?_))
  subst he
  refine ⟨(en.mod.nolimit.keeps fun b o e => (en.bs b o e).1).keeps cl.toInCall.keep, codeAny_func ?_⟩
  obtain ⟨t, pt, rd⟩ := body cd A out s H vs Q E (room.deeper _) gd pr
  refine wpAny_mono (pt.run [] s2 (start N vs) H _ (inv_start S room.hd en (len _ _ _ _ pr) rel cl) rd) (fun fl s3 z => ?_) fun _ _ z => z
  match fl, z with
  | .ret _, ⟨v, _, H3, J, rv, z⟩ => exact ⟨v, H3, J.os, J.bare, J.base, J.hok, rv, z⟩
  | .next, ⟨_, H3, J, z⟩ => exact ⟨.non, H3, J.os, J.bare, J.base, J.hok, rfl, z⟩
  | .brk, ⟨_, _, _, z⟩ => exact z.elim
  | .cont, ⟨_, _, _, z⟩ => exact z.elim
/-- the heap that is known at the law's start: the script, where the written part has it not -/
def H00 (K : PySem.W.Frag) (a : Addr) (vs : List Value) (ns : List Int) : Hp := fun b => if b = a ∧ K.lookup a = none then some (.frz { cls := .type "list", data := .seq vs.toArray } (.lst (ns.map V.int))) else none
theorem H00_some {K : PySem.W.Frag} {a b : Addr} {vs : List Value} {ns : List Int} {u : HO} (h : H00 K a vs ns b = some u) : b = a ∧ K.lookup a = none ∧ u = .frz { cls := .type "list", data := .seq vs.toArray } (.lst (ns.map V.int)) := by
  unfold H00 at h
  split at h
  · rename_i c
    exact ⟨c.1, c.2, (Option.some.inj h).symm⟩
  · cases h
theorem H00_none {K : PySem.W.Frag} {a b : Addr} {vs : List Value} {ns : List Int} (h : b = a → K.lookup a ≠ none) : H00 K a vs ns b = none := if_neg fun c => h c.1 c.2
/-- the law's call -/
theorem law_callG {P : Program} {w : World} {K : PySem.W.Frag} {mg mb : Str → Option Value} {CX : CXT} {k : Nat} {fa a : Addr} {fd : FuncData} {x : Str} {sp : Sp} {s : Shared} {vs : List Value} {ns : List Int}
    (inK : K.In s.heap) (gl : s.heap.Ns mainGlobals mg) (bl : s.heap.Ns builtinsNs mb) (bb : ∀ x : Str, x ≠ "__name__" → mb x = bootBuiltins x) (lm : s.heap.NoLimit) (gn : s.gens = #[])
    (at' : s.heap.get? a = some { cls := .type "list", data := .seq vs.toArray }) (are : IntsAre vs ns) (few : ns.length ≤ sizeLine) (room : Room k callerA)
    (F : ∀ base : Heap, K.In base → base.Ns mainGlobals mg → FnG P w K mg base CX k fa fd [x] sp) (bd : ∀ (s : Shared) (u : Value), BindsTo s fd ⟨[u], []⟩ [(x, u)])
    (prS : ∀ H : Hp, SqL K H a (ns.map V.int) → sp [.ref a] H (fun v _ => v = .bl true) fun _ _ _ => False)
    (no : ∀ e s', CX [] (H00 K a vs ns) s (fun _ _ _ => False) e s' → False) :
    codeAny (model P w) callerA (.call (.ref fa) ⟨[.ref a], []⟩) (fun r s' => r = .ok (.ret (.bool true)) ∧ OldK s.heap s'.heap ∧ s'.os = s.os ∧ AllBare s'.gens) s := by
  have rel := vals_ints are
  have ok : HOk P w (H00 K a vs ns) s.heap := fun b u h => by
    obtain ⟨rfl, _, rfl⟩ := H00_some h
    exact ⟨at', by rw [List.length_map]; exact few, vs, _, rel, at'⟩
  have sq : SqL K (H00 K a vs ns) a (ns.map V.int) := by
    cases hk : K.lookup a with
    | none => exact .inl (.inr ⟨_, if_pos ⟨rfl, hk⟩⟩)
    | some o =>
      have e := inK a o hk
      rw [at'] at e
      cases e
      exact .inr ⟨_, vs.toArray, _, hk, rfl, rfl, rfl, by rw [List.size_toArray, are.length]; exact few, rel⟩
  have pr := prS _ sq
  have seen : ∀ b o, s.heap.get? b = some o → (b = a → K.lookup a ≠ none) → (hidT s.heap (H00 K a vs ns)).get? b = some o := fun b o e n => hidT_get e (H00_none n)
  have notA : ∀ b o es ep, s.heap.get? b = some o → o.data = .dict es ep → b ≠ a := fun b o es ep e d z => by
    subst z
    rw [at'] at e
    cases e
    exact nomatch (show Data.seq vs.toArray _ = Data.dict es ep from d)
  have names : ∀ b m, s.heap.Ns b m → (hidT s.heap (H00 K a vs ns)).Ns b m := fun b m ⟨o, es, ep, e, d, r⟩ => ⟨o, es, ep, seen b o e fun z => absurd z (notA b o es ep e d), d, r⟩
  have inB : K.In (hidT s.heap (H00 K a vs ns)) := fun b o e => seen b o (inK b o e) fun z c => by rw [← z, e] at c; cases c
  have en : Env0 P w K mg (hidT s.heap (H00 K a vs ns)) callerA [] s (H00 K a vs ns) :=
    { frames := rfl, mod := ⟨inB, names _ _ gl, ⟨mb, names _ _ bl, bb⟩, let ⟨mc, c1, c2⟩ := lm; ⟨mc, names _ _ c1, c2⟩⟩, bs := fun b o e => of_hidT e, bsz := Nat.le_of_eq (hidT_size _ _), funs := trivial
      frf := fun b hb => absurd (show b ∈ ([] : List Addr) from hb) List.not_mem_nil, hok := ok, bare := .of_eq gn }
  refine codeAny_mono ((F _ inB (names _ _ gl)).run callerA [] s _ ⟨[.ref a], []⟩ [.ref a] [.ref a] _ _ room rfl en (bd s (.ref a)) (.cons rfl .nil) pr) fun r s2 z => ?_
  match r, z with
  | .error e, z => exact (no e s2 z).elim
  | .ok .next, z => exact z.elim
  | .ok .brk, z => exact z.elim
  | .ok .cont, z => exact z.elim
  | .ok (.ret u), ⟨v, H2, os, bare, un, ok2, rv, (z : v = .bl true)⟩ =>
    subst z
    obtain rfl : u = Value.bool true := rv
    refine ⟨rfl, OldK.of_keep fun b o e => ?_, os, bare⟩
    cases q : H00 K a vs ns b with
    | none => exact un.keep b o e q List.not_mem_nil List.not_mem_nil
    | some u =>
      obtain ⟨rfl, _, rfl⟩ := H00_some q
      have e1 := (ok b _ q).1
      rw [e] at e1
      cases e1
      exact (ok2 b _ (un.frzs b _ _ q)).1
theorem walk_ofG {l : PySem.W.OpenLaw} {n k : Nat} {q : Program} {loose : List Str} {XP : (Str → Option Value) → Heap → Prop} {YP : World → Heap → Prop} {d : DefRec} {K : Params → PySem.W.Frag} {CX : World → CXT} {sp : World → Sp} {x : Str}
    (most : l.most = some n) (few : n ≤ sizeLine) (nod : d.params.defaults = []) (room : Room k callerA) (inK : ∀ (w : World) (h : Heap), YP w h → (K w.params).In h)
    (F : ∀ (w : World) (mg : Str → Option Value) (fa : Addr) (h : Heap), (K w.params).In h → h.Ns mainGlobals mg → mg d.name = some (.ref fa) →
      ∃ fd : FuncData, (∀ (s : Shared) (u : Value), BindsTo s fd ⟨[u], []⟩ [(x, u)]) ∧ ∀ base : Heap, (K w.params).In base → base.Ns mainGlobals mg → FnG l.prog w (K w.params) mg base (CX w) k fa fd [x] (sp w))
    (pr : ∀ (w : World) (H : Hp) (a : Addr) (ns : List Int), ns.length ≤ n → SqL (K w.params) H a (ns.map V.int) → sp w [.ref a] H (fun v _ => v = .bl true) fun _ _ _ => False)
    (no : ∀ (w : World) (H : Hp) (s : Shared) (e : Value) (s' : Shared), CX w [] H s (fun _ _ _ => False) e s' → False) :
    PySem.W.WalkO q loose XP YP l.row.toRowW d [] (fun f vs => PySem.call f vs) :=
  Att.attach_call most nod fun w s0 s mg mb fa o pm cd doc a vs ns G Y ho hd hcd hmg at' are len gn => by
    obtain ⟨fd, bd, ok⟩ := F w mg fa _ (inK w _ Y) G.T.g hmg
    exact law_callG (inK w _ Y) G.T.g G.T.b G.T.builtins G.T.nolimit gn at' are (Nat.le_trans len few) room ok bd (fun H z => pr w H a ns len z) fun e s' => no w _ s e s'
end EV
end
section
set_option Elab.async false
set_option linter.all false
set_option maxRecDepth 100000
set_option maxHeartbeats 4000000
set_option autoImplicit false
/-! EvD: rules for expressions -/
namespace EV
open PySem L2

section
variable {K : PySem.W.Frag} {G : Gh} {S : Ste} {σ : St} {H : Hp}
/-- the part that is changeable grows less: all stays -/
theorem Ok.less {rho : List Slot} {σ' : St} {G' : Gh} (o : Ok K G S σ H) (len : rho.length = σ'.length) (io : G'.io = G.io)
    (own : ∀ i a, OwnAt rho σ' i a → (∃ x, (rho[i]? = some (.own x) ∨ rho[i]? = some (.lck x)) ∧ Cont K (MM G S.rho σ) H a x) ∧ a ∉ G.io ∧ ¬ G'.A a)
    (inj : ∀ (i j : Nat) (a : Addr), OwnAt rho σ' i a → OwnAt rho σ' j a → i = j) (less : ∀ a, MM G' rho σ' a → MM G S.rho σ a) (hA : ∀ a, G'.A a → G.A a)
    (val : ∀ (i : Nat) (x : Vl), rho[i]? = some (.v x) → ∃ v, σ'[i]? = some (some v) ∧ SD K G.io (MM G S.rho σ) H x v) (at' : ∀ (i : Nat) (x : D), (rho[i]? = some (.own x) ∨ rho[i]? = some (.lck x)) → ∃ a, σ'[i]? = some (some (.ref a))) :
    Ok K G' { S with rho := rho } σ' H := by
  have cont : ∀ a x, Cont K (MM G S.rho σ) H a x → Cont K (MM G' rho σ') H a x := fun a x c => by
    cases x with
    | list xs => obtain ⟨vs, e, l⟩ := c; exact ⟨vs, e, DnL.anti less _ _ l⟩
    | dict kvs =>
      rcases c with ⟨es, e, q, l⟩ | ⟨es, e, q, l⟩
      · exact .inl ⟨es, e, q, DnL.anti less _ _ l⟩
      · exact .inr ⟨es, e, q, DnL.anti less _ _ l⟩
    | _ => exact c.elim
  refine ⟨len, fun i x e => ?_, fun i x e => ?_, inj, by rw [io]; exact o.hlen, fun n x e => ?_, by rw [io]; exact o.nd, fun a m => ⟨?_, ?_⟩, ?_, fun a h => o.tr a (hA a h)⟩
  · obtain ⟨v, h1, h2⟩ := val i x e
    refine ⟨v, h1, ?_⟩
    cases x with
    | d x => exact Dn.anti less _ _ _ h2
    | r n => rw [io]; exact h2
    | pk i => exact h2
  · obtain ⟨a, h1⟩ := at' i x e
    obtain ⟨⟨y, h2, c⟩, _⟩ := own i a ⟨⟨x, e⟩, h1⟩
    have : y = x := by
      rcases e with e | e <;> rcases h2 with h2 | h2 <;> (rw [e] at h2; cases h2) <;> rfl
    subst this
    exact ⟨a, h1, cont _ _ c⟩
  · obtain ⟨a, h1, h2⟩ := o.heap n x e
    exact ⟨a, by rw [io]; exact h1, cont _ _ h2⟩
  · rintro ⟨i, w⟩
    rw [io] at m
    exact (own i a w).2.1 m
  · intro z
    rw [io] at m
    exact (o.s1 a m).2 (hA a z)
  · rintro a ⟨i, w⟩
    exact (own i a w).2.2
theorem Ok.at (o : Ok K G S σ H) {i : Nat} {x : D} (e : S.rho[i]? = some (.own x) ∨ S.rho[i]? = some (.lck x)) : ∃ a, σ[i]? = some (some (.ref a)) ∧ OwnAt S.rho σ i a ∧ Cont K (MM G S.rho σ) H a x := by
  obtain ⟨a, h1, h2⟩ := o.own i x e
  exact ⟨a, h1, ⟨⟨x, e⟩, h1⟩, h2⟩
/-- a list of its own is read as a value: it is changed no more -/
theorem Ok.freeze (o : Ok K G S σ H) {i : Nat} {x : D} (e : S.rho[i]? = some (.own x)) : ∃ a, σ[i]? = some (some (.ref a)) ∧ Ok K G { S with rho := S.rho.set i (.v (.d x)) } σ H ∧
    Stp G S σ H G { S with rho := S.rho.set i (.v (.d x)) } σ H ∧ Dn K (MM G (S.rho.set i (.v (.d x))) σ) H true x (.ref a) := by
  obtain ⟨a, h1, w, c⟩ := o.at (.inl e)
  have hi : i < S.rho.length := (List.getElem?_eq_some_iff.mp e).1
  have ne : ∀ j y, ((S.rho.set i (.v (.d x)))[j]? = some (.own y) ∨ (S.rho.set i (.v (.d x)))[j]? = some (.lck y)) → j ≠ i ∧ (S.rho[j]? = some (.own y) ∨ S.rho[j]? = some (.lck y)) := fun j y h => by
    by_cases hj : j = i
    · subst hj
      rw [List.getElem?_set_self hi] at h
      rcases h with h | h <;> cases h
    · rw [List.getElem?_set_ne (Ne.symm hj)] at h
      exact ⟨hj, h⟩
  have own : ∀ j b, OwnAt (S.rho.set i (.v (.d x))) σ j b → j ≠ i ∧ OwnAt S.rho σ j b := fun j b ⟨⟨y, h⟩, h2⟩ => ⟨(ne j y h).1, ⟨y, (ne j y h).2⟩, h2⟩
  have less : ∀ b, MM G (S.rho.set i (.v (.d x))) σ b → MM G S.rho σ b := fun b h => by
    rcases h with h | ⟨j, h⟩ | h
    · exact .inl h
    · exact .inr (.inl ⟨j, (own j b h).2⟩)
    · exact .inr (.inr h)
  have nM : ¬ MM G (S.rho.set i (.v (.d x))) σ a := by
    rintro (h | ⟨j, h⟩ | h)
    · exact (o.s1 a h).1 ⟨i, w⟩
    · exact (own j a h).1 (o.inj j i a (own j a h).2 w)
    · exact o.s2 a ⟨i, w⟩ h
  have dn : Dn K (MM G (S.rho.set i (.v (.d x))) σ) H true x (.ref a) := by
    cases x with
    | list xs => obtain ⟨vs, e, l⟩ := c; exact .lst (.inl e) (fun _ => nM) (DnL.anti less _ _ l)
    | dict kvs =>
      rcases c with ⟨es, e, q, l⟩ | ⟨es, e, q, l⟩
      · exact .dK (.inl e) (fun _ => nM) q rfl (DnL.anti less _ _ l) rfl
      · exact .dT (.inl e) (fun _ => nM) q rfl (DnL.anti less _ _ l) rfl
    | _ => exact c.elim
  -- the frozen value stands among the values
  have base : Ok K G { S with rho := (S.rho.set i .non) } σ H := by
    have ne0 : ∀ j y, ((S.rho.set i .non)[j]? = some (.own y) ∨ (S.rho.set i .non)[j]? = some (.lck y)) → j ≠ i ∧ (S.rho[j]? = some (.own y) ∨ S.rho[j]? = some (.lck y)) := fun j y h => by
      by_cases hj : j = i
      · subst hj
        rw [List.getElem?_set_self hi] at h
        rcases h with h | h <;> cases h
      · rw [List.getElem?_set_ne (Ne.symm hj)] at h
        exact ⟨hj, h⟩
    refine o.less (by simpa using o.len) rfl (fun j b ⟨⟨y, h⟩, h2⟩ => ?_) (fun j k b ⟨⟨y, h⟩, h2⟩ ⟨⟨z, h3⟩, h4⟩ => o.inj j k b ⟨⟨y, (ne0 j y h).2⟩, h2⟩ ⟨⟨z, (ne0 k z h3).2⟩, h4⟩) (fun b h => ?_) (fun _ h => h) (fun j y h => ?_) (fun j y h => ?_)
    · have w' : OwnAt S.rho σ j b := ⟨⟨y, (ne0 j y h).2⟩, h2⟩
      obtain ⟨b', h5, _, c'⟩ := o.at (ne0 j y h).2
      rw [h2] at h5
      cases h5
      exact ⟨⟨y, h, c'⟩, fun m => (o.s1 b m).1 ⟨j, w'⟩, o.s2 b ⟨j, w'⟩⟩
    · rcases h with h | ⟨j, ⟨y, h⟩, h2⟩ | h
      · exact .inl h
      · exact .inr (.inl ⟨j, ⟨y, (ne0 j y h).2⟩, h2⟩)
      · exact .inr (.inr h)
    · by_cases hj : j = i
      · subst hj
        rw [List.getElem?_set_self hi] at h
        cases h
      · rw [List.getElem?_set_ne (Ne.symm hj)] at h
        exact o.val j y h
    · obtain ⟨b, h5, _⟩ := o.at (ne0 j y h).2
      exact ⟨b, h5⟩
  have mm : MM G (S.rho.set i (.v (.d x))) σ = MM G (S.rho.set i .non) σ := by
    funext b
    unfold MM
    apply propext
    have : Own (S.rho.set i (.v (.d x))) σ b ↔ Own (S.rho.set i .non) σ b := by
      constructor
      · rintro ⟨j, ⟨y, h⟩, h2⟩
        obtain ⟨hj, _⟩ := ne j y h
        rw [List.getElem?_set_ne (Ne.symm hj)] at h
        exact ⟨j, ⟨y, by rw [List.getElem?_set_ne (Ne.symm hj)]; exact h⟩, h2⟩
      · rintro ⟨j, ⟨y, h⟩, h2⟩
        have hj : j ≠ i := by
          rintro rfl
          rw [List.getElem?_set_self hi] at h
          rcases h with h | h <;> cases h
        rw [List.getElem?_set_ne (Ne.symm hj)] at h
        exact ⟨j, ⟨y, by rw [List.getElem?_set_ne (Ne.symm hj)]; exact h⟩, h2⟩
    rw [this]
  refine ⟨a, h1, ⟨by simpa using o.len, fun j y h => ?_, fun j y h => ?_, fun j k b u v => o.inj j k b (own j b u).2 (own k b v).2, o.hlen, fun n y h => ?_, o.nd, fun b m => ⟨fun ⟨j, u⟩ => (o.s1 b m).1 ⟨j, (own j b u).2⟩, (o.s1 b m).2⟩, fun b ⟨j, u⟩ => o.s2 b ⟨j, (own j b u).2⟩, o.tr⟩, ⟨⟨[], by simp⟩, rfl, fun b u h n => ⟨h, fun m => n (less b m)⟩, fun _ _ => rfl, fun j y h => ?_, fun _ u h => ⟨u, h⟩⟩, dn⟩
  · by_cases hj : j = i
    · subst hj
      rw [List.getElem?_set_self hi] at h
      cases h
      exact ⟨_, h1, dn⟩
    · rw [mm]
      refine base.val j y ?_
      show (S.rho.set i .non)[j]? = _
      rw [List.getElem?_set_ne (Ne.symm hj)] at h ⊢
      exact h
  · obtain ⟨hj, h'⟩ := ne j y h
    rw [mm]
    refine base.own j y ?_
    show (S.rho.set i .non)[j]? = _ ∨ (S.rho.set i .non)[j]? = _
    rw [List.getElem?_set_ne (Ne.symm hj)]
    exact h'
  · rw [mm]
    exact base.heap n y h
  · by_cases hj : j = i
    · subst hj
      rw [e] at h
      cases h
    · rw [List.getElem?_set_ne (Ne.symm hj)]
      exact ⟨h, rfl⟩
end

section
variable {X : Cx} {W : WX} {P : Env} {pos : Pos}
theorem se_var {i : Nat} {x : Str} (hN : X.N[i]? = some x) (hv : Vis X.env.scope x) (hd : (x == ("__debug__" : Str)) = false) (hcd : (x == ("__classdict__" : Str)) = false) : PE X (.Name x pos) (tE X.K W (ev P (.var i))) := (pe_var hN hv hd hcd).imp fun σ H Q h => by
  obtain ⟨G, S, o, p⟩ := h
  unfold ev at p
  split at p
  · rename_i y e
    obtain ⟨v, h1, h2⟩ := o.val i y e
    refine ⟨v, h1, p G v H o (Stp.refl _ _ _ _) ?_⟩
    cases y with
    | d y => exact h2
    | r n => exact h2
    | pk j => exact h2.elim
  · rename_i y e
    obtain ⟨a, h1, o2, st, dn⟩ := o.freeze e
    exact ⟨_, h1, p G _ H o2 st dn⟩
  · exact p.elim
theorem se_peek {i : Nat} {x : Str} (hN : X.N[i]? = some x) (hv : Vis X.env.scope x) (hd : (x == ("__debug__" : Str)) = false) (hcd : (x == ("__classdict__" : Str)) = false) : PE X (.Name x pos) (tE X.K W (ev P (.peek i))) := (pe_var hN hv hd hcd).imp fun σ H Q h => by
  obtain ⟨G, S, o, p⟩ := h
  unfold ev at p
  split at p
  · exact p.elim
  · exact p.elim
  · rename_i y n0 e
    have : ∃ v, σ[i]? = some (some v) := by
      cases y with
      | non => exact (n0 rfl).elim
      | v y => obtain ⟨v, h1, _⟩ := o.val i y e; exact ⟨v, h1⟩
      | own y => obtain ⟨a, h1, _⟩ := o.own i y (.inl e); exact ⟨_, h1⟩
      | lck y => obtain ⟨a, h1, _⟩ := o.own i y (.inr e); exact ⟨_, h1⟩
    obtain ⟨v, h1⟩ := this
    exact ⟨v, h1, p G v H o (Stp.refl _ _ _ _) h1⟩
theorem se_kst {e : Expr} {d : D} {v : V} (h : PE X e (tC v)) (dn : ∀ M H, Dn X.K M H true d v) : PE X e (tE X.K W (ev P (.kst d))) := h.imp fun σ H Q h => by
  obtain ⟨G, S, o, p⟩ := h
  unfold ev at p
  exact p G v H o (Stp.refl _ _ _ _) (dn _ _)
theorem se_glob {e : Expr} {j : Nat} {v : V} {d : D} (h : PE X e (tC v)) (hj : P.consts[j]? = some d) (dn : ∀ M H, Dn X.K M H true d v) : PE X e (tE X.K W (ev P (.glob j))) := h.imp fun σ H Q h => by
  obtain ⟨G, S, o, p⟩ := h
  unfold ev at p
  rw [hj] at p
  exact p G v H o (Stp.refl _ _ _ _) (dn _ _)
/-- two values -/
theorem two_read {a b : C} {f : List Vl → Ste → Res Vl} {σ : St} {H : Hp} {Q : VK} {k : V → V → Hp → Prop} (h : tE X.K W (fun S => (evs P (.cons a (.cons b .nil)) S).bind f) σ H Q)
    (fin : ∀ G S x y v u H1, Ok X.K G S σ H1 → VDs X.K G.io (MM G S.rho σ) σ H1 [x, y] [v, u] → Post X.K W (RV X.K) G S σ H1 Q (f [x, y] S) → k v u H1) : tE X.K W (ev P a) σ H fun v H1 => tE X.K W (ev P b) σ H1 fun u H2 => k v u H2 := by
  obtain ⟨G, S, o, p⟩ := h
  have e : (evs P (.cons a (.cons b .nil)) S).bind f = (ev P a S).bind fun x s => (ev P b s).bind fun y s => f [x, y] s := by
    simp only [evs]
    cases ev P a S with
    | ok x s => simp only [Res.bind]; cases ev P b s <;> rfl
    | er c s => rfl
    | stuck => rfl
  replace p := (show Post X.K W (RV X.K) G S σ H Q ((evs P _ S).bind f) from p)
  rw [e] at p
  exact ⟨G, S, o, p.seq fun G1 S1 x v H1 o1 st1 r1 p1 => ⟨G1, S1, o1, p1.seq fun G2 S2 y u H2 o2 st2 r2 p2 => fin G2 S2 x y v u H2 o2 (.cons (VD.step st2 r1) (.cons r2 .nil)) p2⟩⟩
theorem one_read {a : C} {f : List Vl → Ste → Res Vl} {σ : St} {H : Hp} {Q : VK} {k : V → Hp → Prop} (h : tE X.K W (fun S => (evs P (.cons a .nil) S).bind f) σ H Q)
    (fin : ∀ G S x v H1, Ok X.K G S σ H1 → VDs X.K G.io (MM G S.rho σ) σ H1 [x] [v] → Post X.K W (RV X.K) G S σ H1 Q (f [x] S) → k v H1) : tE X.K W (ev P a) σ H k := by
  obtain ⟨G, S, o, p⟩ := h
  have e : (evs P (.cons a .nil) S).bind f = (ev P a S).bind fun x s => f [x] s := by
    simp only [evs]
    cases ev P a S <;> rfl
  replace p := (show Post X.K W (RV X.K) G S σ H Q ((evs P _ S).bind f) from p)
  rw [e] at p
  exact ⟨G, S, o, p.seq fun G1 S1 x v H1 o1 st1 r1 p1 => fin G1 S1 x v H1 o1 (.cons r1 .nil) p1⟩
theorem op_ev {o : Op} {as : Cs} : ev P (.op o as) = fun S => (evs P as S).bind fun xs s => Res.of (((s.ress xs).bind o.fn).map .d) s := by
  funext S
  rw [ev]
theorem se_bin {l r : Expr} {op : Operator} {o : Op} {a b : C} (ho : OpP X (binaryOp op) o.fresh o.fn) (ha : PE X l (tE X.K W (ev P a))) (hb : PE X r (tE X.K W (ev P b))) : PE X (.BinOp l op r pos) (tE X.K W (ev P (.op o (.cons a (.cons b .nil))))) := (pe_op ho ha hb).imp fun σ H Q h => by
  rw [op_ev] at h
  exact two_read h fun G S x y v u H1 o1 vs p => rP_of o1 vs p
theorem se_cmp {l r : Expr} {op : CmpOp} {o : Op} {a b : C} (ho : OpP X (compareOp op) o.fresh o.fn) (ha : PE X l (tE X.K W (ev P a))) (hb : PE X r (tE X.K W (ev P b))) (hm : behindInMarks op r = false) : PE X (.Compare l [op] [r] pos) (tE X.K W (ev P (.op o (.cons a (.cons b .nil))))) := (pe_cmpR ho ha hb hm).imp fun σ H Q h => by
  rw [op_ev] at h
  exact two_read h fun G S x y v u H1 o1 vs p => rP_of o1 vs p
theorem se_un {e : Expr} {op : UnaryOp} {o : Op} {a : C} (ho : UnP X (unaryOp op) o.fn) (hf : o.fresh = true) (ha : PE X e (tE X.K W (ev P a))) : PE X (.UnaryOp op e pos) (tE X.K W (ev P (.op o (.cons a .nil)))) := (pe_un ho ha).imp fun σ H Q h => by
  rw [op_ev] at h
  exact one_read h fun G S x v H1 o1 vs p => by
    have := rP_of (fr := o.fresh) o1 vs p
    rw [hf] at this
    exact this
theorem se_ix {l r : Expr} {o : Op} {a b : C} (ho : IxP X o.fresh o.fn) (ha : PE X l (tE X.K W (ev P a))) (hb : PE X r (tE X.K W (ev P b))) (hs : PlainIx r) : PE X (.Subscript l r pos) (tE X.K W (ev P (.op o (.cons a (.cons b .nil))))) := (pe_ix ho ha hb hs).imp fun σ H Q h => by
  rw [op_ev] at h
  exact two_read h fun G S x y v u H1 o1 vs p => rP_of o1 vs p
theorem se_bi {id : String} {x : Str} {p : Pos} {e : Expr} {es : List Expr} {o : Op} {as : Cs} (hc : CallP X (.builtin id) o.fresh o.fn) (hg : Gl X x) (hm : X.mg x = none) (hv : bootBuiltins x = some (.builtin id)) (ha : PA X (e :: es) (tA X.K W (evs P as))) (hn : x ≠ "__name__") (hdb : (x == ("__debug__" : Str)) = false)
    (he : starEach (e :: es) X.env = (false, eval e X.env) :: starEach es X.env) (hpl : (backTo pos (starEach es X.env)).any (·.1) = false) : PE X (.Call (.Name x p) (e :: es) [] pos) (tE X.K W (ev P (.op o as))) := (pe_callB hc hg hm hv ha hn hdb he hpl).imp fun σ H Q h => by
  rw [op_ev] at h
  obtain ⟨G, S, o1, p1⟩ := h
  exact ⟨G, S, o1, p1.seq fun G2 S2 xs vs H2 o2 st2 r2 p2 => rP_of o2 r2 p2⟩
theorem se_ty {T : String} {x : Str} {p : Pos} {e : Expr} {es : List Expr} {o : Op} {as : Cs} (hc : CallP X (.type T) o.fresh o.fn) (hg : Gl X x) (hm : X.mg x = none) (hv : bootBuiltins x = some (.type T)) (ha : PA X (e :: es) (tA X.K W (evs P as))) (hn : x ≠ "__name__") (hdb : (x == ("__debug__" : Str)) = false)
    (he : starEach (e :: es) X.env = (false, eval e X.env) :: starEach es X.env) (hpl : (backTo pos (starEach es X.env)).any (·.1) = false) : PE X (.Call (.Name x p) (e :: es) [] pos) (tE X.K W (ev P (.op o as))) := (pe_callTy hc hg hm hv ha hn hdb he hpl).imp fun σ H Q h => by
  rw [op_ev] at h
  obtain ⟨G, S, o1, p1⟩ := h
  exact ⟨G, S, o1, p1.seq fun G2 S2 xs vs H2 o2 st2 r2 p2 => rP_of o2 r2 p2⟩
theorem se_isinst {x : Str} {p : Pos} {e et : Expr} {t : Ty} {a : C} (hg : Gl X x) (hm : X.mg x = none) (hv : bootBuiltins x = some (.builtin "isinstance")) (ha : PE X e (tE X.K W (ev P a))) (ht : PE X et (tC (.ty t.str'))) (hn : x ≠ "__name__") (hdb : (x == ("__debug__" : Str)) = false)
    (he : starEach [e, et] X.env = (false, eval e X.env) :: starEach [et] X.env) (he2 : starEach [et] X.env = [(false, eval et X.env)]) (hpl : (backTo pos (starEach [et] X.env)).any (·.1) = false) : PE X (.Call (.Name x p) [e, et] [] pos) (tE X.K W (ev P (.op (.isinst t) (.cons a .nil)))) :=
  (pe_callB (o_isinst t) hg hm hv (pa_cons ha (pa_cons ht pa_nil he2) he) hn hdb he hpl).imp fun σ H Q h => by
    rw [op_ev] at h
    show tE X.K W (ev P a) σ H _
    exact one_read h fun G S x v H1 o1 vs p => ⟨v, rfl, rP_of (g := fIsinst t) o1 vs p⟩
theorem se_isLT {p p1 p2 pos tpos : Pos} {kk : Nat} {e : Expr} {a : C} (hg : Gl X "isinstance") (hm : X.mg "isinstance" = none) (ha : PE X e (tE X.K W (ev P a))) (hl : PE X (.Name "list" p1) (tC (.ty "list"))) (ht : PE X (.Name "tuple" p2) (tC (.ty "tuple")))
    (h1 : starEach [e, .Tuple [.Name "list" p1, .Name "tuple" p2] kk tpos] X.env = (false, eval e X.env) :: starEach [.Tuple [.Name "list" p1, .Name "tuple" p2] kk tpos] X.env) :
    PE X (.Call (.Name "isinstance" p) [e, .Tuple [.Name "list" p1, .Name "tuple" p2] kk tpos] [] pos) (tE X.K W (ev P (.op .isLT (.cons a .nil)))) :=
  (pe_isLT ha hg hm (pa_cons hl (pa_cons ht pa_nil rfl) rfl) h1 rfl rfl).imp fun σ H Q h => by
    rw [op_ev] at h
    show tE X.K W (ev P a) σ H _
    exact one_read h fun G S x v H1 o1 vs p => rP_of (g := fIsLT) o1 vs p
end
end EV
end
section
set_option Elab.async false
set_option linter.all false
set_option maxRecDepth 100000
set_option maxHeartbeats 4000000
set_option autoImplicit false
/-! EvD2: rules for expressions: displays, tests, calls, changes of lists -/
namespace EV
open PySem L2

section
variable {K : PySem.W.Frag} {W : WX} {G : Gh} {S : Ste} {σ : St} {H H' : Hp}
theorem Cont.mono {M M' : Addr → Prop} {a : Addr} {x : D} (k : Keeps M H M' H') (e : H' a = H a) (c : Cont K M H a x) : Cont K M' H' a x := by
  cases x with
  | list xs => obtain ⟨vs, e1, l⟩ := c; exact ⟨vs, e.trans e1, DnL.mono k _ _ l⟩
  | dict kvs =>
    rcases c with ⟨es, e1, q, l⟩ | ⟨es, e1, q, l⟩
    · exact .inl ⟨es, e.trans e1, q, DnL.mono k _ _ l⟩
    · exact .inr ⟨es, e.trans e1, q, DnL.mono k _ _ l⟩
  | _ => exact c.elim
theorem Cont.at {M : Addr → Prop} {a : Addr} {x : D} (c : Cont K M H a x) : ∃ o, H a = some o := by
  cases x with
  | list xs => obtain ⟨vs, e, _⟩ := c; exact ⟨_, e⟩
  | dict kvs => rcases c with ⟨_, e, _⟩ | ⟨_, e, _⟩ <;> exact ⟨_, e⟩
  | _ => exact c.elim
/-- a new thing is laid, and nobody knows it yet -/
theorem Ok.laid (o : Ok K G S σ H) {p : Addr} {u : HO} (n : H p = none) : Ok K (G.plus p) S σ (upd H p u) ∧ Keeps (MM G S.rho σ) H (MM (G.plus p) S.rho σ) (upd H p u) ∧ Stp G S σ H G S σ (upd H p u) := by
  have same := Same.upd (o := u) n
  have ne : ∀ a w, H a = some w → a ≠ p := fun a w e z => by rw [z, n] at e; cases e
  have k : Keeps (MM G S.rho σ) H (MM (G.plus p) S.rho σ) (upd H p u) := fun a w e nm => ⟨same a w e, by
    rintro (h | h | h | h)
    · exact nm (.inl h)
    · exact nm (.inr (.inl h))
    · exact ne a w e h
    · exact nm (.inr (.inr h))⟩
  refine ⟨⟨o.len, fun i x e => ?_, fun i x e => ?_, o.inj, o.hlen, fun i x e => ?_, o.nd, fun a m => ⟨(o.s1 a m).1, ?_⟩, fun a w => ?_, fun a m => ?_⟩, k, Stp.same o same⟩
  · obtain ⟨v, h1, h2⟩ := o.val i x e
    exact ⟨v, h1, SD.mono k ⟨[], by simp [Gh.plus]⟩ h2⟩
  · obtain ⟨a, h1, c⟩ := o.own i x e
    obtain ⟨w, hw⟩ := c.at
    exact ⟨a, h1, c.mono k (by rw [upd_ne (ne a w hw)])⟩
  · obtain ⟨a, h1, c⟩ := o.heap i x e
    obtain ⟨w, hw⟩ := c.at
    exact ⟨a, h1, c.mono k (by rw [upd_ne (ne a w hw)])⟩
  · rintro (z | z)
    · obtain ⟨w, hw⟩ := o.tracked (.inl m)
      exact ne a w hw z
    · exact (o.s1 a m).2 z
  · rintro (z | z)
    · obtain ⟨x, hx⟩ := o.tracked (.inr (.inl w))
      exact ne a x hx z
    · exact o.s2 a w z
  · rcases m with m | m
    · subst m; exact ⟨u, upd_same⟩
    · obtain ⟨w, hw⟩ := o.tr a m
      exact ⟨w, same a w hw⟩
theorem MM.less {rho : List Slot} {p : Addr} : ∀ a, MM G rho σ a → MM (G.plus p) rho σ a := fun a h => by
  rcases h with h | h | h
  · exact .inl h
  · exact .inr (.inl h)
  · exact .inr (.inr (.inr h))
theorem Ok.drop {p : Addr} (o : Ok K (G.plus p) S σ H) : Ok K G S σ H :=
  ⟨o.len, fun i x e => by
    obtain ⟨v, h1, h2⟩ := o.val i x e
    refine ⟨v, h1, ?_⟩
    cases x with
    | d x => exact Dn.anti MM.less _ _ _ h2
    | r n => exact h2
    | pk i => exact h2, fun i x e => by
    obtain ⟨a, h1, c⟩ := o.own i x e
    refine ⟨a, h1, ?_⟩
    cases x with
    | list xs => obtain ⟨vs, e1, l⟩ := c; exact ⟨vs, e1, DnL.anti MM.less _ _ l⟩
    | dict kvs =>
      rcases c with ⟨es, e1, q, l⟩ | ⟨es, e1, q, l⟩
      · exact .inl ⟨es, e1, q, DnL.anti MM.less _ _ l⟩
      · exact .inr ⟨es, e1, q, DnL.anti MM.less _ _ l⟩
    | _ => exact c.elim, o.inj, o.hlen, fun i x e => by
    obtain ⟨a, h1, c⟩ := o.heap i x e
    refine ⟨a, h1, ?_⟩
    cases x with
    | list xs => obtain ⟨vs, e1, l⟩ := c; exact ⟨vs, e1, DnL.anti MM.less _ _ l⟩
    | dict kvs =>
      rcases c with ⟨es, e1, q, l⟩ | ⟨es, e1, q, l⟩
      · exact .inl ⟨es, e1, q, DnL.anti MM.less _ _ l⟩
      · exact .inr ⟨es, e1, q, DnL.anti MM.less _ _ l⟩
    | _ => exact c.elim, o.nd, fun a m => ⟨(o.s1 a m).1, fun z => (o.s1 a m).2 (.inr z)⟩, fun a w z => o.s2 a w (.inr z), fun a m => o.tr a (.inr m)⟩
theorem Ok.notM {p : Addr} (o : Ok K (G.plus p) S σ H) (n : ¬ G.A p) : ¬ MM G S.rho σ p := by
  rintro (h | h | h)
  · exact (o.s1 p h).2 (.inl rfl)
  · exact o.s2 p h (.inl rfl)
  · exact n h
theorem Cont.dn {M M' : Addr → Prop} {a : Addr} {x : D} (c : Cont K M H a x) (less : ∀ a, M' a → M a) (n : ¬ M' a) : Dn K M' H true x (.ref a) := by
  cases x with
  | list xs => obtain ⟨vs, e, l⟩ := c; exact .lst (.inl e) (fun _ => n) (DnL.anti less _ _ l)
  | dict kvs =>
    rcases c with ⟨es, e, q, l⟩ | ⟨es, e, q, l⟩
    · exact .dK (.inl e) (fun _ => n) q rfl (DnL.anti less _ _ l) rfl
    · exact .dT (.inl e) (fun _ => n) q rfl (DnL.anti less _ _ l) rfl
  | _ => exact c.elim
/-! ### new things that nobody else knows -/
def PostF (K : PySem.W.Frag) (W : WX) (G : Gh) (S : Ste) (σ : St) (H : Hp) (Q : VK) : Res Vl → Prop
  | .ok (.d d) S' => isC d = true ∧ ∀ G' p H', Ok K (G'.plus p) S' σ H' → Stp G S σ H G' S' σ H' → H p = none → Cont K (MM (G'.plus p) S'.rho σ) H' p d → Q (.ref p) H'
  | .ok _ _ => False
  | .er c S' => ∀ G' H', Ok K G' S' σ H' → Stp G S σ H G' S' σ H' → W c σ H'
  | .stuck => False
def tF (K : PySem.W.Frag) (W : WX) (r : Ste → Res Vl) : TE := fun σ H Q => ∃ G S, Ok K G S σ H ∧ PostF K W G S σ H Q (r S)
/-- it may be read as any value -/
theorem tF_of {r : Ste → Res Vl} (dat : ∀ S x S', r S = .ok x S' → ∃ d, x = .d d ∧ isC d = true) {Q : VK} (h : tE K W r σ H Q) : tF K W r σ H Q := by
  obtain ⟨G, S, o, p⟩ := h
  refine ⟨G, S, o, ?_⟩
  cases e : r S with
  | ok x S' =>
    obtain ⟨d, rfl, hc⟩ := dat S x S' e
    rw [e] at p
    refine ⟨hc, fun G' q H' o' st n c => ?_⟩
    have nA : ¬ G'.A q := fun z => by
      rw [st.A] at z
      obtain ⟨u, hu⟩ := o.tr q z
      rw [n] at hu
      cases hu
    exact p G' _ H' o'.drop st (c.dn MM.less (o'.notM nA))
  | er c S' => rw [e] at p; exact p
  | stuck => rw [e] at p; exact p
theorem PostF.shift {Q : VK} {r : Res Vl} {G1 : Gh} {S1 : Ste} {H1 : Hp} (p : PostF K W G S σ H Q r) (st : Stp G S σ H G1 S1 σ H1) : PostF K W G1 S1 σ H1 Q r := by
  cases r with
  | ok x S' =>
    cases x with
    | d d =>
      refine ⟨p.1, fun G' q H' o' s n c => p.2 G' q H' o' (st.trans s) ?_ c⟩
      cases e : H q with
      | none => rfl
      | some w =>
        obtain ⟨w2, e2⟩ := st.tr q w e
        rw [n] at e2
        cases e2
    | _ => exact p.elim
  | er c S' => exact fun G' H' o' s => p G' H' o' (st.trans s)
  | stuck => exact p
/-- the end of what lays a new thing -/
theorem PostF.laid {Q : VK} {d : D} {G0 : Gh} {S0 : Ste} {H0 : Hp} (o : Ok K G S σ H) (st : Stp G0 S0 σ H0 G S σ H) (p : PostF K W G0 S0 σ H0 Q (.ok (.d d) S)) {a : Addr} {u : HO} (n : H a = none)
    (c : Cont K (MM (G.plus a) S.rho σ) (upd H a u) a d) : Q (.ref a) (upd H a u) := by
  obtain ⟨o1, k, s1⟩ := o.laid (u := u) n
  refine p.2 G a _ o1 (st.trans s1) ?_ c
  cases e : H0 a with
  | none => rfl
  | some w =>
    obtain ⟨w2, e2⟩ := st.tr a w e
    rw [n] at e2
    cases e2
theorem DnL.laid (o : Ok K G S σ H) {a : Addr} {u : HO} {ds : List D} {vs : List V} (n : H a = none) (l : DnL K (MM G S.rho σ) H ds vs) : DnL K (MM (G.plus a) S.rho σ) (upd H a u) ds vs := DnL.mono (o.laid n).2.1 _ _ l
/-- what a fresh reading asks, from its argument list -/
theorem PostF.seq {α β : Type} {R : RL α β} {Q : VK} {Q' : β → Hp → Prop} {r : Res α} {f : α → Ste → Res Vl} (h : PostF K W G S σ H Q (r.bind f))
    (k : ∀ G1 S1 x v H1, Ok K G1 S1 σ H1 → Stp G S σ H G1 S1 σ H1 → R σ G1 S1 H1 x v → PostF K W G S σ H Q (f x S1) → Q' v H1)
    (ke : ∀ c S1, r = .er c S1 → True) : Post K W R G S σ H Q' r := by
  cases r with
  | ok x S' => exact fun G' v H' o s rr => k G' S' x v H' o s rr h
  | er c S' => exact h
  | stuck => exact h
end
section
variable {X : Cx} {W : WX} {P : Env} {pos : Pos}
theorem lst_ev {as : Cs} : ev P (.lst as) = fun S => (evs P as S).bind fun xs s => Res.of ((dats xs).bind fun ds => if ds.length ≤ lim then some (.d (.list ds)) else none) s := by
  funext S
  rw [ev]
theorem tup_ev {as : Cs} : ev P (.tup as) = fun S => (evs P as S).bind fun xs s => Res.of ((dats xs).bind fun ds => if ds.length ≤ lim then some (.d (.tuple ds)) else none) s := by
  funext S
  rw [ev]
theorem of_if {xs : List Vl} {f : List D → Vl} {x : Vl} (h : ((dats xs).bind fun ds => if ds.length ≤ lim then some (f ds) else none) = some x) : ∃ ds, dats xs = some ds ∧ ds.length ≤ lim ∧ x = f ds := by
  cases e : dats xs with
  | none => rw [e] at h; cases h
  | some ds =>
    rw [e] at h
    replace h := (show (if ds.length ≤ lim then some (f ds) else none) = some x from h)
    split at h
    · rename_i hl
      cases h
      exact ⟨ds, rfl, hl, rfl⟩
    · cases h
theorem le_size {n : Nat} (h : n ≤ lim) : n ≤ sizeLine := Nat.le_trans h (by decide)
theorem se_tup {es : List Expr} {k : Nat} {as : Cs} (ha : PA X es (tA X.K W (evs P as))) : PE X (.Tuple es k pos) (tE X.K W (ev P (.tup as))) := (pe_tup ha).imp fun σ H Q h => by
  rw [tup_ev] at h
  obtain ⟨G, S, o, p⟩ := h
  refine ⟨G, S, o, p.seq fun G1 S1 xs vs H1 o1 st1 r1 p1 => ?_⟩
  obtain ⟨x, e, p2⟩ := Post.of p1
  obtain ⟨ds, ed, hl, rfl⟩ := of_if e
  have l := r1.dats ed
  refine ⟨by rw [← l.length]; exact le_size hl, fun q hq => p2 G1 _ _ (o1.same (Same.upd hq)) (Stp.same o1 (Same.upd hq)) (newT (fun a m => o1.tracked m) hq l)⟩
theorem sf_lst {es : List Expr} {as : Cs} (ha : PA X es (tA X.K W (evs P as))) : PE X (.List es pos) (tF X.K W (ev P (.lst as))) := (pe_lst ha).imp fun σ H Q h => by
  rw [lst_ev] at h
  obtain ⟨G, S, o, p⟩ := h
  refine ⟨G, S, o, PostF.seq p (fun G1 S1 xs vs H1 o1 st1 r1 p1 => ?_) fun _ _ _ => trivial⟩
  cases e : ((dats xs).bind fun ds => if ds.length ≤ lim then some (Vl.d (.list ds)) else none) with
  | none => rw [e] at p1; exact p1.elim
  | some x =>
    rw [e] at p1
    obtain ⟨ds, ed, hl, rfl⟩ := of_if e
    have l := r1.dats ed
    exact ⟨by rw [← l.length]; exact le_size hl, fun q hq => PostF.laid o1 st1 p1 hq ⟨vs, upd_same, l.laid o1 hq⟩⟩
theorem dat_lst {as : Cs} : ∀ S x S', ev P (.lst as) S = .ok x S' → ∃ d, x = .d d ∧ isC d = true := fun S x S' h => by
  rw [lst_ev] at h
  dsimp only at h
  cases e : evs P as S with
  | ok xs s =>
    rw [e] at h
    cases e2 : ((dats xs).bind fun ds => if ds.length ≤ lim then some (Vl.d (.list ds)) else none) with
    | none => simp only [Res.bind, e2, Res.of] at h; cases h
    | some y =>
      simp only [Res.bind, e2, Res.of] at h
      obtain ⟨ds, _, _, rfl⟩ := of_if e2
      cases h
      exact ⟨_, rfl, rfl⟩
  | er c s => rw [e] at h; cases h
  | stuck => rw [e] at h; cases h
theorem se_lst {es : List Expr} {as : Cs} (ha : PA X es (tA X.K W (evs P as))) : PE X (.List es pos) (tE X.K W (ev P (.lst as))) := (sf_lst ha).imp fun σ H Q h => tF_of dat_lst h
/-- operations whose list is new -/
theorem PostF.op {σ : St} {H0 H : Hp} {G0 G : Gh} {S0 S : Ste} {g : List D → Option D} {xs : List Vl} {vs : List V} {Q : VK} (o : Ok X.K G S σ H) (st : Stp G0 S0 σ H0 G S σ H) (h : VDs X.K G.io (MM G S.rho σ) σ H xs vs)
    (lk : ∀ ds d, g ds = some d → isC d = true → ∃ ys, d = .list ys) (p : PostF X.K W G0 S0 σ H0 Q (Res.of (((S.ress xs).bind g).map .d) S)) : rP X.K true g vs H Q := by
  cases e1 : S.ress xs with
  | none => rw [e1] at p; exact p.elim
  | some ds =>
    rw [e1] at p
    cases e2 : g ds with
    | none =>
      have : PostF X.K W G0 S0 σ H0 Q (Res.of (Option.map Vl.d (g ds)) S) := p
      rw [e2] at this
      exact this.elim
    | some d =>
      have p : PostF X.K W G0 S0 σ H0 Q (Res.of (Option.map Vl.d (g ds)) S) := p
      rw [e2] at p
      refine ⟨MM G S.rho σ, ds, d, fun a m => o.tracked m, o.ress h e1, e2, fun z H' s dn fr => ?_⟩
      obtain ⟨ys, rfl⟩ := lk ds d e2 p.1
      obtain ⟨a, us', rfl, _, _⟩ := dn.sql
      obtain ⟨hn, c⟩ := fr rfl a rfl
      have hn := hn rfl
      obtain ⟨us, rfl, l⟩ := c ys rfl
      exact PostF.laid o st p hn ⟨us, upd_same, l.laid o hn⟩
theorem lk_add : ∀ ds d, fAdd ds = some d → isC d = true → ∃ ys, d = .list ys := fun ds d h c => by
  unfold fAdd at h
  split at h
  · cases h; cases c
  · split at h <;> cases h; cases c
  · split at h <;> cases h; exact ⟨_, rfl⟩
  · split at h <;> cases h; cases c
  · cases h
theorem lk_slice : ∀ ds d, fSlice ds = some d → isC d = true → ∃ ys, d = .list ys := fun ds d h c => by
  unfold fSlice at h
  split at h
  · split at h <;> cases h; exact ⟨_, rfl⟩
  · split at h
    · split at h <;> cases h; cases c
    · cases h
  · split at h <;> cases h; cases c
  · cases h
theorem lk_ofList : ∀ ds d, fOfList ds = some d → isC d = true → ∃ ys, d = .list ys := fun ds d h c => by
  unfold fOfList at h
  split at h <;> cases h <;> exact ⟨_, rfl⟩
/-- one or two values, then an operation that makes a list -/
theorem two_readF {a b : C} {f : List Vl → Ste → Res Vl} {σ : St} {H : Hp} {Q : VK} {k : V → V → Hp → Prop} (h : tF X.K W (fun S => (evs P (.cons a (.cons b .nil)) S).bind f) σ H Q)
    (fin : ∀ G0 S0 H0 G S x y v u H1, Stp G0 S0 σ H0 G S σ H1 → Ok X.K G S σ H1 → VDs X.K G.io (MM G S.rho σ) σ H1 [x, y] [v, u] → PostF X.K W G0 S0 σ H0 Q (f [x, y] S) → k v u H1) : tE X.K W (ev P a) σ H fun v H1 => tE X.K W (ev P b) σ H1 fun u H2 => k v u H2 := by
  obtain ⟨G, S, o, p⟩ := h
  have e : (evs P (.cons a (.cons b .nil)) S).bind f = (ev P a S).bind fun x s => (ev P b s).bind fun y s => f [x, y] s := by
    simp only [evs]
    cases ev P a S with
    | ok x s => simp only [Res.bind]; cases ev P b s <;> rfl
    | er c s => rfl
    | stuck => rfl
  replace p := (show PostF X.K W G S σ H Q ((evs P _ S).bind f) from p)
  rw [e] at p
  refine ⟨G, S, o, PostF.seq p (fun G1 S1 x v H1 o1 st1 r1 p1 => ⟨G1, S1, o1, ?_⟩) fun _ _ _ => trivial⟩
  cases e2 : ev P b S1 with
  | ok y S2 =>
    rw [e2] at p1
    exact fun G2 u H2 o2 st2 r2 => fin G S H G2 S2 x y v u H2 (st1.trans st2) o2 (.cons (VD.step st2 r1) (.cons r2 .nil)) p1
  | er c S2 =>
    rw [e2] at p1
    exact fun G2 H2 o2 st2 => p1 G2 H2 o2 (st1.trans st2)
  | stuck => rw [e2] at p1; exact p1
theorem sf_bin {l r : Expr} {op : Operator} {o : Op} {a b : C} (ho : OpP X (binaryOp op) true o.fn) (lk : ∀ ds d, o.fn ds = some d → isC d = true → ∃ ys, d = .list ys) (ha : PE X l (tE X.K W (ev P a))) (hb : PE X r (tE X.K W (ev P b))) : PE X (.BinOp l op r pos) (tF X.K W (ev P (.op o (.cons a (.cons b .nil))))) := (pe_op ho ha hb).imp fun σ H Q h => by
  rw [op_ev] at h
  exact two_readF h fun G0 S0 H0 G S x y v u H1 st o1 vs p => PostF.op o1 st vs lk p
theorem sf_ty {T : String} {x : Str} {p : Pos} {e : Expr} {es : List Expr} {o : Op} {as : Cs} (hc : CallP X (.type T) true o.fn) (lk : ∀ ds d, o.fn ds = some d → isC d = true → ∃ ys, d = .list ys) (hg : Gl X x) (hm : X.mg x = none) (hv : bootBuiltins x = some (.type T)) (ha : PA X (e :: es) (tA X.K W (evs P as))) (hn : x ≠ "__name__") (hdb : (x == ("__debug__" : Str)) = false)
    (he : starEach (e :: es) X.env = (false, eval e X.env) :: starEach es X.env) (hpl : (backTo pos (starEach es X.env)).any (·.1) = false) : PE X (.Call (.Name x p) (e :: es) [] pos) (tF X.K W (ev P (.op o as))) := (pe_callTy hc hg hm hv ha hn hdb he hpl).imp fun σ H Q h => by
  rw [op_ev] at h
  obtain ⟨G, S, o1, p1⟩ := h
  exact ⟨G, S, o1, PostF.seq p1 (fun G2 S2 xs vs H2 o2 st2 r2 p2 => PostF.op o2 st2 r2 lk p2) fun _ _ _ => trivial⟩
/-! ### slices -/
def RO : RL Vl (Option Int) := fun _ _ _ _ x v => (x = .d .none ∧ v = none) ∨ ∃ i, x = .d (.int i) ∧ v = some i
theorem po_no : PO X none (fun σ H Q => At X.K W RO (ev P (.kst .none)) σ H Q) := ⟨fun pins s σ H Q I h => by
  obtain ⟨G, S, o, p⟩ := h
  rw [ev] at p
  exact po_none.run pins s σ H Q I (p G none H o (Stp.refl _ _ _ _) (.inl ⟨rfl, rfl⟩))⟩
theorem po_so {e : Expr} {a : C} (ha : PE X e (tE X.K W (ev P a))) : PO X (some e) (fun σ H Q => At X.K W RO (ev P (.op .toi (.cons a .nil))) σ H Q) := ⟨fun pins s σ H Q I h => by
  refine (po_some ha).run pins s σ H Q I ?_
  rw [op_ev] at h
  obtain ⟨G, S, o, p⟩ := h
  have e : ((evs P (.cons a .nil) S).bind fun xs s => Res.of (((s.ress xs).bind (Op.fn .toi)).map Vl.d) s) = (ev P a S).bind fun x s => Res.of (((s.ress [x]).bind (Op.fn .toi)).map Vl.d) s := by
    simp only [evs]
    cases ev P a S <;> rfl
  replace p := (show Post X.K W RO G S σ H Q ((evs P _ S).bind _) from p)
  rw [e] at p
  refine ⟨G, S, o, p.seq fun G1 S1 x v H1 o1 st1 r1 p1 => ?_⟩
  obtain ⟨y, e1, p2⟩ := Post.of p1
  cases e2 : S1.ress [x] with
  | none => rw [e2] at e1; cases e1
  | some ds =>
    rw [e2] at e1
    have l := o1.ress (.cons r1 .nil) e2
    obtain ⟨d, rfl, dn⟩ := l.one
    cases d with
    | int i =>
      cases dn
      cases e1
      exact ⟨i, rfl, p2 G1 _ _ o1 (Stp.refl _ _ _ _) (.inr ⟨i, rfl, rfl⟩)⟩
    | _ => cases e1⟩
theorem part_of {σ : St} {G : Gh} {S : Ste} {H : Hp} {x : Vl} {l : Option Int} (r : RO σ G S H x l) : VD X.K G.io (MM G S.rho σ) σ H x (vO l) := by
  rcases r with ⟨rfl, rfl⟩ | ⟨i, rfl, rfl⟩
  · exact Dn.non
  · exact Dn.int i
theorem RO.any {σ σ' : St} {G G' : Gh} {S S' : Ste} {H H' : Hp} {x : Vl} {l : Option Int} (r : RO σ G S H x l) : RO σ' G' S' H' x l := r
theorem three_ev {a b c : C} {f : List Vl → Ste → Res Vl} {S : Ste} : (evs P (.cons a (.cons b (.cons c .nil))) S).bind f = (ev P a S).bind fun x s => (ev P b s).bind fun y s => (ev P c s).bind fun z s => f [x, y, z] s := by
  simp only [evs]
  cases ev P a S with
  | ok x s =>
    simp only [Res.bind]
    cases ev P b s with
    | ok y s => dsimp only; cases ev P c s <;> rfl
    | er c s => rfl
    | stuck => rfl
  | er c s => rfl
  | stuck => rfl
theorem se_slice {e : Expr} {lo hi : Option Expr} {p2 : Pos} {a l u : C} (ha : PE X e (tE X.K W (ev P a))) (hl : PO X lo (fun σ H Q => At X.K W RO (ev P l) σ H Q)) (hu : PO X hi (fun σ H Q => At X.K W RO (ev P u) σ H Q)) :
    PE X (.Subscript e (.Slice lo hi none p2) pos) (tE X.K W (ev P (.op .slice (.cons a (.cons l (.cons u .nil)))))) := (pe_slice o_slice ha hl hu).imp fun σ H Q h => by
  rw [op_ev] at h
  obtain ⟨G, S, o, p⟩ := h
  replace p := (show Post X.K W (RV X.K) G S σ H Q ((evs P _ S).bind _) from p)
  rw [three_ev] at p
  exact ⟨G, S, o, p.seq fun G1 S1 x v H1 o1 st1 r1 p1 => ⟨G1, S1, o1, p1.seq fun G2 S2 y l H2 o2 st2 r2 p2 => ⟨G2, S2, o2, p2.seq fun G3 S3 z u H3 o3 st3 r3 p3 =>
    rP_of (g := fSlice) o3 (.cons (VD.step st3 (VD.step st2 r1)) (.cons (part_of (RO.any r2)) (.cons (part_of r3) .nil))) p3⟩⟩⟩
end
end EV
end
section
set_option Elab.async false
set_option linter.all false
set_option maxRecDepth 100000
set_option maxHeartbeats 4000000
set_option autoImplicit false
/-! EvD3: rules for expressions: tests, calls, changes of lists -/
namespace EV
open PySem L2

section
variable {X : Cx} {W : WX} {P : Env} {pos : Pos}
/-- a test: the value's truth -/
def evB (P : Env) (c : C) : Ste → Res Bool := fun S => (ev P c S).bind fun x s => Res.of ((s.res x).bind truth) s
theorem dn_bool {K : PySem.W.Frag} {M : Addr → Prop} {H : Hp} {b : Bool} {v : V} (h : Dn K M H false (.bool b) v) : v = .bl b := by cases h; rfl
theorem dn_tru {K : PySem.W.Frag} {M : Addr → Prop} {H : Hp} {d : D} {v : V} {b : Bool} (h : Dn K M H false d v) (e : truth d = some b) : TruV K v H b := by
  cases d with
  | none => cases h; cases e; rfl
  | bool k => cases h; cases e; rfl
  | int i => cases h; cases e; rfl
  | str x =>
    cases h
    have e : (if x.length ≤ lim then some (x.length != 0) else none) = some b := e
    split at e
    · rename_i hl
      cases e
      exact ⟨le_size hl, by rw [Bool.eq_iff_iff]; simp⟩
    · cases e
  | list xs =>
    obtain ⟨a, vs, rfl, s, l⟩ := h.sql
    cases e
    refine .inl ⟨vs, s, ?_⟩
    cases l <;> rfl
  | tuple xs =>
    obtain ⟨a, vs, rfl, s, l⟩ := h.sqt
    cases e
    refine .inr (.inl ⟨vs, s, ?_⟩)
    cases l <;> rfl
  | dict kvs => cases e
theorem st_truth {e : Expr} {a : C} (ha : PE X e (tE X.K W (ev P a))) (he : ∀ whole, isTrue e X.env whole = (do let v ← whole; standAt e.pos; holding [v] (truthy v))) : PT X e (tT X.K W (evB P a)) := (pt_truth ha he).imp fun σ H Q h => by
  obtain ⟨G, S, o, p⟩ := h
  refine ⟨G, S, o, Post.seq (R' := RB) p fun G1 S1 x v H1 o1 st1 r1 p1 => ?_⟩
  obtain ⟨b, e, p2⟩ := Post.of p1
  cases e1 : S1.res x with
  | none => rw [e1] at e; cases e
  | some d =>
    rw [e1] at e
    exact ⟨b, dn_tru (o1.res r1 e1) e, p2 G1 b H1 o1 (Stp.refl _ _ _ _) rfl⟩
theorem evB_op {o : Op} {as : Cs} : evB P (.op o as) = fun S => (evs P as S).bind fun xs s => Res.of ((((s.ress xs).bind o.fn)).bind truth) s := by
  funext S
  unfold evB
  rw [op_ev]
  dsimp only
  cases evs P as S with
  | ok xs s =>
    simp only [Res.bind]
    cases (s.ress xs).bind o.fn with
    | none => rfl
    | some d => simp only [Option.map_some, Res.of, Ste.res, Option.bind]
  | er c s => rfl
  | stuck => rfl
/-- a comparison, as a test -/
theorem rP_test {fr : Bool} {g : List D → Option D} {xs : List Vl} {vs : List V} {σ : St} {H : Hp} {G : Gh} {S : Ste} {Q : Bool → Hp → Prop} (bl : ∀ ds d, g ds = some d → ∃ b, d = .bool b) (o : Ok X.K G S σ H) (h : VDs X.K G.io (MM G S.rho σ) σ H xs vs)
    (p : Post X.K W RB G S σ H Q (Res.of (((S.ress xs).bind g).bind truth) S)) : rP X.K fr g vs H fun z H' => ∃ k, z = .bl k ∧ Q k H' := by
  obtain ⟨b, e, p2⟩ := Post.of p
  cases e1 : S.ress xs with
  | none => rw [e1] at e; cases e
  | some ds =>
    rw [e1] at e
    cases e2 : g ds with
    | none => simp only [Option.bind, e2] at e; cases e
    | some d =>
      obtain ⟨k, rfl⟩ := bl ds d e2
      simp only [Option.bind, e2, truth] at e
      cases e
      exact ⟨MM G S.rho σ, ds, _, fun a m => o.tracked m, o.ress h e1, e2, fun z H' s dn _ => ⟨b, by cases dn; rfl, p2 G b H' (o.same s) (Stp.same o s) rfl⟩⟩
theorem two_readT {a b : C} {f : List Vl → Ste → Res Bool} {σ : St} {H : Hp} {Q : Bool → Hp → Prop} {k : V → V → Hp → Prop} (h : tT X.K W (fun S => (evs P (.cons a (.cons b .nil)) S).bind f) σ H Q)
    (fin : ∀ G S x y v u H1, Ok X.K G S σ H1 → VDs X.K G.io (MM G S.rho σ) σ H1 [x, y] [v, u] → Post X.K W RB G S σ H1 Q (f [x, y] S) → k v u H1) : tE X.K W (ev P a) σ H fun v H1 => tE X.K W (ev P b) σ H1 fun u H2 => k v u H2 := by
  obtain ⟨G, S, o, p⟩ := h
  have e : (evs P (.cons a (.cons b .nil)) S).bind f = (ev P a S).bind fun x s => (ev P b s).bind fun y s => f [x, y] s := by
    simp only [evs]
    cases ev P a S with
    | ok x s => simp only [Res.bind]; cases ev P b s <;> rfl
    | er c s => rfl
    | stuck => rfl
  replace p := (show Post X.K W RB G S σ H Q ((evs P _ S).bind f) from p)
  rw [e] at p
  exact ⟨G, S, o, p.seq fun G1 S1 x v H1 o1 st1 r1 p1 => ⟨G1, S1, o1, p1.seq fun G2 S2 y u H2 o2 st2 r2 p2 => fin G2 S2 x y v u H2 o2 (.cons (VD.step st2 r1) (.cons r2 .nil)) p2⟩⟩
theorem st_cmp {l r : Expr} {op : CmpOp} {o : Op} {a b : C} (ho : OpP X (compareOp op) o.fresh o.fn) (bl : ∀ ds d, o.fn ds = some d → ∃ b, d = .bool b) (ha : PE X l (tE X.K W (ev P a))) (hb : PE X r (tE X.K W (ev P b))) (hm : behindInMarks op r = false) : PT X (.Compare l [op] [r] pos) (tT X.K W (evB P (.op o (.cons a (.cons b .nil))))) := (pt_cmpR ho ha hb hm).imp fun σ H Q h => by
  rw [evB_op] at h
  exact two_readT h fun G S x y v u H1 o1 vs p => rP_test bl o1 vs p

/-! ### a op b op c -/
theorem chain_ev {o1 o2 : Op} {a b c : C} {S : Ste} : ev P (.chain o1 o2 a b c) S = (ev P a S).bind fun x s => (ev P b s).bind fun y s => match (s.ress [x, y]).bind o1.fn with
    | some (.bool true) => (ev P c s).bind fun z s => Res.of (((s.ress [y, z]).bind o2.fn).map .d) s
    | some (.bool false) => .ok (.d (.bool false)) s
    | _ => .stuck := by rw [ev] <;> rfl
theorem se_chain {l m r : Expr} {op op' : CmpOp} {o o' : Op} {a b c : C} (ho : OpP X (compareOp op) o.fresh o.fn) (ho' : OpP X (compareOp op') o'.fresh o'.fn) (bl : ∀ ds d, o.fn ds = some d → ∃ b, d = .bool b) (ha : PE X l (tE X.K W (ev P a))) (hb : PE X m (tE X.K W (ev P b))) (hc : PE X r (tE X.K W (ev P c)))
    (hm : lastMarks [op, op'] [m, r] = false) : PE X (.Compare l [op, op'] [m, r] pos) (tE X.K W (ev P (.chain o o' a b c))) := (pe_chain ho ho' ha hb hc hm).imp fun σ H Q h => by
  obtain ⟨G, S, ok, p⟩ := h
  rw [chain_ev] at p
  refine ⟨G, S, ok, p.seq fun G1 S1 x v H1 o1 st1 r1 p1 => ⟨G1, S1, o1, p1.seq fun G2 S2 y u H2 o2 st2 r2 p2 => ?_⟩⟩
  have vs : VDs X.K G2.io (MM G2 S2.rho σ) σ H2 [x, y] [v, u] := .cons (VD.step st2 r1) (.cons r2 .nil)
  cases e1 : S2.ress [x, y] with
  | none => rw [e1] at p2; exact p2.elim
  | some ds =>
    rw [e1] at p2
    cases e2 : o.fn ds with
    | none => simp only [Option.bind, e2] at p2; exact p2.elim
    | some d =>
      obtain ⟨k, rfl⟩ := bl ds d e2
      simp only [Option.bind, e2] at p2
      refine ⟨_, ds, _, fun a m => o2.tracked m, o2.ress vs e1, e2, fun z H3 s dn _ => ⟨k, by cases dn; rfl, ?_⟩⟩
      have o3 := o2.same s
      have s3 := Stp.same o2 s
      cases k with
      | true =>
        rw [if_pos rfl]
        exact ⟨G2, S2, o3, (p2.shift s3).seq fun G4 S4 z w H4 o4 st4 r4 p4 => rP_of o4 (.cons (VD.step st4 (VD.step s3 r2)) (.cons r4 .nil)) p4⟩
      | false =>
        rw [if_neg Bool.false_ne_true]
        exact p2 G2 _ H3 o3 s3 (Dn.bl false)
theorem st_chain {l m r : Expr} {op op' : CmpOp} {o o' : Op} {a b c : C} (ho : OpP X (compareOp op) o.fresh o.fn) (ho' : OpP X (compareOp op') o'.fresh o'.fn) (bl : ∀ ds d, o.fn ds = some d → ∃ b, d = .bool b) (bl' : ∀ ds d, o'.fn ds = some d → ∃ b, d = .bool b) (ha : PE X l (tE X.K W (ev P a))) (hb : PE X m (tE X.K W (ev P b))) (hc : PE X r (tE X.K W (ev P c)))
    (hm : lastMarks [op, op'] [m, r] = false) : PT X (.Compare l [op, op'] [m, r] pos) (tT X.K W (evB P (.chain o o' a b c))) := (pt_chain ho ho' ha hb hc hm).imp fun σ H Q h => by
  obtain ⟨G, S, ok, p⟩ := h
  have e0 : evB P (.chain o o' a b c) S = (ev P a S).bind fun x s => (ev P b s).bind fun y s => match (s.ress [x, y]).bind o.fn with
    | some (.bool true) => (ev P c s).bind fun z s => Res.of ((((s.ress [y, z]).bind o'.fn)).bind truth) s
    | some (.bool false) => .ok false s
    | _ => .stuck := by
    unfold evB
    rw [chain_ev]
    cases ev P a S with
    | ok x s =>
      simp only [Res.bind]
      cases ev P b s with
      | ok y s =>
        dsimp only
        generalize (s.ress [x, y]).bind o.fn = t
        cases t with
        | none => rfl
        | some d =>
          cases d with
          | bool k =>
            cases k with
            | false => rfl
            | true =>
              dsimp only
              cases ev P c s with
              | ok z s =>
                dsimp only
                generalize (s.ress [y, z]).bind o'.fn = t
                cases t <;> rfl
              | er c s => rfl
              | stuck => rfl
          | _ => rfl
      | er c s => rfl
      | stuck => rfl
    | er c s => rfl
    | stuck => rfl
  rw [e0] at p
  refine ⟨G, S, ok, p.seq fun G1 S1 x v H1 o1 st1 r1 p1 => ⟨G1, S1, o1, p1.seq fun G2 S2 y u H2 o2 st2 r2 p2 => ?_⟩⟩
  have vs : VDs X.K G2.io (MM G2 S2.rho σ) σ H2 [x, y] [v, u] := .cons (VD.step st2 r1) (.cons r2 .nil)
  cases e1 : S2.ress [x, y] with
  | none => rw [e1] at p2; exact p2.elim
  | some ds =>
    rw [e1] at p2
    cases e2 : o.fn ds with
    | none => simp only [Option.bind, e2] at p2; exact p2.elim
    | some d =>
      obtain ⟨k, rfl⟩ := bl ds d e2
      simp only [Option.bind, e2] at p2
      refine ⟨_, ds, _, fun a m => o2.tracked m, o2.ress vs e1, e2, fun z H3 s dn _ => ⟨k, by cases dn; rfl, ?_⟩⟩
      have o3 := o2.same s
      have s3 := Stp.same o2 s
      cases k with
      | true =>
        rw [if_pos rfl]
        exact ⟨G2, S2, o3, (p2.shift s3).seq fun G4 S4 z w H4 o4 st4 r4 p4 => rP_test bl' o4 (.cons (VD.step st4 (VD.step s3 r2)) (.cons r4 .nil)) p4⟩
      | false =>
        rw [if_neg Bool.false_ne_true]
        exact ⟨false, rfl, p2 G2 _ H3 o3 s3 rfl⟩

/-! ### not, and, or, if else -/
theorem se_not {e : Expr} {a : C} (ha : PE X e (tE X.K W (ev P a))) : PE X (.UnaryOp .Not e pos) (tE X.K W (ev P (.not a))) := (pe_not ha).imp fun σ H Q h => by
  obtain ⟨G, S, o, p⟩ := h
  rw [ev] at p
  refine ⟨G, S, o, p.seq fun G1 S1 x v H1 o1 st1 r1 p1 => ?_⟩
  split at p1
  · rename_i b e1
    obtain rfl := dn_bool (o1.res r1 e1)
    exact ⟨b, rfl, p1 G1 _ _ o1 (Stp.refl _ _ _ _) (Dn.bl _)⟩
  · exact p1.elim
theorem evB_not {a : C} {S : Ste} : evB P (.not a) S = (ev P a S).bind fun x s => match s.res x with
    | some (.bool b) => .ok (!b) s
    | _ => .stuck := by
  unfold evB
  rw [ev]
  cases ev P a S with
  | ok x s =>
    simp only [Res.bind]
    generalize s.res x = t
    cases t with
    | none => rfl
    | some d => cases d with
      | bool k => cases k <;> rfl
      | _ => rfl
  | er c s => rfl
  | stuck => rfl
theorem st_not {e : Expr} {a : C} (ha : PT X e (tT X.K W (evB P a))) : PT X (.UnaryOp .Not e pos) (tT X.K W (evB P (.not a))) := (pt_not ha).imp fun σ H Q h => by
  obtain ⟨G, S, o, p⟩ := h
  rw [evB_not] at p
  refine ⟨G, S, o, ?_⟩
  unfold evB
  cases e0 : ev P a S with
  | ok x S1 =>
    rw [e0] at p
    simp only [Res.bind] at p ⊢
    split at p
    · rename_i b e1
      rw [e1]
      intro G1 v H1 o1 st1 r1
      have r1 : b = v := r1
      subst r1
      exact p G1 _ _ o1 st1 rfl
    · exact p.elim
  | er c S' => rw [e0] at p; exact p
  | stuck => rw [e0] at p; exact p
theorem se_and {e : Expr} {es : List Expr} {e2 : Expr} {a b : C} (ha : PE X e (tE X.K W (ev P a))) (hb : PE X (.BoolOp .And (e2 :: es) pos) (tE X.K W (ev P b))) : PE X (.BoolOp .And (e :: e2 :: es) pos) (tE X.K W (ev P (.and a b))) := (pe_and ha hb).imp fun σ H Q h => by
  obtain ⟨G, S, o, p⟩ := h
  rw [ev] at p
  refine ⟨G, S, o, p.seq fun G1 S1 x v H1 o1 st1 r1 p1 => ?_⟩
  split at p1
  · rename_i e1
    obtain rfl := dn_bool (o1.res r1 e1)
    exact ⟨true, rfl, by rw [if_pos rfl]; exact ⟨G1, S1, o1, p1⟩⟩
  · rename_i e1
    obtain rfl := dn_bool (o1.res r1 e1)
    exact ⟨false, rfl, by rw [if_neg Bool.false_ne_true]; exact p1 G1 _ _ o1 (Stp.refl _ _ _ _) (Dn.bl false)⟩
  · exact p1.elim
theorem se_or {e : Expr} {es : List Expr} {e2 : Expr} {a b : C} (ha : PE X e (tE X.K W (ev P a))) (hb : PE X (.BoolOp .Or (e2 :: es) pos) (tE X.K W (ev P b))) : PE X (.BoolOp .Or (e :: e2 :: es) pos) (tE X.K W (ev P (.or a b))) := (pe_or ha hb).imp fun σ H Q h => by
  obtain ⟨G, S, o, p⟩ := h
  rw [ev] at p
  refine ⟨G, S, o, p.seq fun G1 S1 x v H1 o1 st1 r1 p1 => ?_⟩
  split at p1
  · rename_i e1
    obtain rfl := dn_bool (o1.res r1 e1)
    exact ⟨true, rfl, by rw [if_pos rfl]; exact p1 G1 _ _ o1 (Stp.refl _ _ _ _) (Dn.bl true)⟩
  · rename_i e1
    obtain rfl := dn_bool (o1.res r1 e1)
    exact ⟨false, rfl, by rw [if_neg Bool.false_ne_true]; exact ⟨G1, S1, o1, p1⟩⟩
  · exact p1.elim
theorem evB_and {a b : C} {S : Ste} : evB P (.and a b) S = (ev P a S).bind fun x s => match s.res x with
    | some (.bool true) => evB P b s
    | some (.bool false) => .ok false s
    | _ => .stuck := by
  unfold evB
  rw [ev]
  cases ev P a S with
  | ok x s =>
    simp only [Res.bind]
    generalize s.res x = t
    cases t with
    | none => rfl
    | some d => cases d with
      | bool k => cases k <;> rfl
      | _ => rfl
  | er c s => rfl
  | stuck => rfl
theorem evB_or {a b : C} {S : Ste} : evB P (.or a b) S = (ev P a S).bind fun x s => match s.res x with
    | some (.bool true) => .ok true s
    | some (.bool false) => evB P b s
    | _ => .stuck := by
  unfold evB
  rw [ev]
  cases ev P a S with
  | ok x s =>
    simp only [Res.bind]
    generalize s.res x = t
    cases t with
    | none => rfl
    | some d => cases d with
      | bool k => cases k <;> rfl
      | _ => rfl
  | er c s => rfl
  | stuck => rfl
theorem sw_and {e : Expr} {es : List Expr} {e2 : Expr} {a b : C} (ha : PT X e (tT X.K W (evB P a))) (hb : PW X (.BoolOp .And (e2 :: es) pos) (tT X.K W (evB P b))) : PW X (.BoolOp .And (e :: e2 :: es) pos) (tT X.K W (evB P (.and a b))) := (pw_and ha hb).imp fun σ H Q h => by
  obtain ⟨G, S, o, p⟩ := h
  rw [evB_and] at p
  refine ⟨G, S, o, ?_⟩
  unfold evB
  cases e0 : ev P a S with
  | ok x S1 =>
    rw [e0] at p
    simp only [Res.bind] at p ⊢
    split at p
    · rename_i e1
      rw [e1]
      intro G1 v H1 o1 st1 r1
      have r1 : true = v := r1
      subst r1
      rw [if_pos rfl]
      exact ⟨G1, S1, o1, p.shift st1⟩
    · rename_i e1
      rw [e1]
      intro G1 v H1 o1 st1 r1
      have r1 : false = v := r1
      subst r1
      rw [if_neg Bool.false_ne_true]
      exact p G1 _ _ o1 st1 rfl
    · exact p.elim
  | er c S' => rw [e0] at p; exact p
  | stuck => rw [e0] at p; exact p
theorem sw_or {e : Expr} {es : List Expr} {e2 : Expr} {a b : C} (ha : PT X e (tT X.K W (evB P a))) (hb : PW X (.BoolOp .Or (e2 :: es) pos) (tT X.K W (evB P b))) : PW X (.BoolOp .Or (e :: e2 :: es) pos) (tT X.K W (evB P (.or a b))) := (pw_or ha hb).imp fun σ H Q h => by
  obtain ⟨G, S, o, p⟩ := h
  rw [evB_or] at p
  refine ⟨G, S, o, ?_⟩
  unfold evB
  cases e0 : ev P a S with
  | ok x S1 =>
    rw [e0] at p
    simp only [Res.bind] at p ⊢
    split at p
    · rename_i e1
      rw [e1]
      intro G1 v H1 o1 st1 r1
      have r1 : true = v := r1
      subst r1
      rw [if_pos rfl]
      exact p G1 _ _ o1 st1 rfl
    · rename_i e1
      rw [e1]
      intro G1 v H1 o1 st1 r1
      have r1 : false = v := r1
      subst r1
      rw [if_neg Bool.false_ne_true]
      exact ⟨G1, S1, o1, p.shift st1⟩
    · exact p.elim
  | er c S' => rw [e0] at p; exact p
  | stuck => rw [e0] at p; exact p
theorem se_ite {t x y : Expr} {c a b : C} (ht : PT X t (tT X.K W (evB P c))) (ha : PE X x (tE X.K W (ev P a))) (hb : PE X y (tE X.K W (ev P b))) : PE X (.IfExp t x y pos) (tE X.K W (ev P (.ite c a b))) := (pe_ifExp ht ha hb).imp fun σ H Q h => by
  obtain ⟨G, S, o, p⟩ := h
  rw [ev] at p
  refine ⟨G, S, o, ?_⟩
  unfold evB
  cases e0 : ev P c S with
  | ok x S1 =>
    rw [e0] at p
    simp only [Res.bind] at p ⊢
    split at p
    · rename_i e1
      rw [e1]
      intro G1 v H1 o1 st1 r1
      have r1 : true = v := r1
      subst r1
      rw [if_pos rfl]
      exact ⟨G1, S1, o1, p.shift st1⟩
    · rename_i e1
      rw [e1]
      intro G1 v H1 o1 st1 r1
      have r1 : false = v := r1
      subst r1
      rw [if_neg Bool.false_ne_true]
      exact ⟨G1, S1, o1, p.shift st1⟩
    · exact p.elim
  | er c S' => rw [e0] at p; exact p
  | stuck => rw [e0] at p; exact p
theorem sf_ite {t x y : Expr} {c a b : C} (ht : PT X t (tT X.K W (evB P c))) (ha : PE X x (tF X.K W (ev P a))) (hb : PE X y (tF X.K W (ev P b))) : PE X (.IfExp t x y pos) (tF X.K W (ev P (.ite c a b))) := (pe_ifExp ht ha hb).imp fun σ H Q h => by
  obtain ⟨G, S, o, p⟩ := h
  rw [ev] at p
  refine ⟨G, S, o, ?_⟩
  unfold evB
  cases e0 : ev P c S with
  | ok x S1 =>
    rw [e0] at p
    simp only [Res.bind] at p ⊢
    split at p
    · rename_i e1
      rw [e1]
      intro G1 v H1 o1 st1 r1
      have r1 : true = v := r1
      subst r1
      rw [if_pos rfl]
      exact ⟨G1, S1, o1, p.shift st1⟩
    · rename_i e1
      rw [e1]
      intro G1 v H1 o1 st1 r1
      have r1 : false = v := r1
      subst r1
      rw [if_neg Bool.false_ne_true]
      exact ⟨G1, S1, o1, p.shift st1⟩
    · exact p.elim
  | er c S' => rw [e0] at p; exact p
  | stuck => rw [e0] at p; exact p
end
end EV
end
section
set_option Elab.async false
set_option linter.all false
set_option maxRecDepth 100000
set_option maxHeartbeats 4000000
set_option autoImplicit false
/-! EvD4: rules for expressions: methods, changes, displays of dicts, calls -/
namespace EV
open PySem L2

section
variable {K : PySem.W.Frag} {W : WX} {G : Gh} {S : Ste} {σ : St} {H H' : Hp}
theorem Keeps.at {M : Addr → Prop} {a : Addr} {u : HO} (m : M a) : Keeps M H M (L2.upd H a u) := fun b w e n => ⟨by rw [upd_ne (fun z => n (by rw [z]; exact m))]; exact e, n⟩
/-- a list of one's own, or a shared one, is changed -/
theorem Ok.wr (o : Ok K G S σ H) {i : Nat} {x : D} {f : D → Ste} (e : S.cell i = some (x, f)) : ∃ a, σ[i]? = some (some (.ref a)) ∧ MM G S.rho σ a ∧ Cont K (MM G S.rho σ) H a x ∧
    ∀ u y, Cont K (MM G S.rho σ) (upd H a u) a y → Ok K G (f y) σ (upd H a u) ∧ Stp G S σ H G (f y) σ (upd H a u) ∧ MM G (f y).rho σ = MM G S.rho σ := by
  unfold Ste.cell at e
  split at e
  · rename_i z hz
    cases e
    obtain ⟨a, h1, w, c⟩ := o.at (.inl hz)
    have hi : i < S.rho.length := (List.getElem?_eq_some_iff.mp hz).1
    have M0 : MM G S.rho σ a := .inr (.inl ⟨i, w⟩)
    refine ⟨a, h1, M0, c, fun u y cy => ?_⟩
    have ne : ∀ j, j ≠ i → (S.rho.set i (.own y))[j]? = S.rho[j]? := fun j hj => List.getElem?_set_ne (Ne.symm hj)
    have own : ∀ j b, OwnAt (S.rho.set i (.own y)) σ j b ↔ OwnAt S.rho σ j b := fun j b => by
      by_cases hj : j = i
      · subst hj
        refine ⟨fun ⟨_, h⟩ => ⟨⟨x, .inl hz⟩, h⟩, fun ⟨_, h⟩ => ⟨⟨y, .inl (List.getElem?_set_self hi)⟩, h⟩⟩
      · unfold OwnAt
        rw [ne j hj]
    have mm : MM G (S.rho.set i (.own y)) σ = MM G S.rho σ := by
      funext b
      apply propext
      unfold MM Own
      simp only [own]
    have k : Keeps (MM G S.rho σ) H (MM G S.rho σ) (upd H a u) := Keeps.at M0
    have far : ∀ b z, b ≠ a → Cont K (MM G S.rho σ) H b z → Cont K (MM G S.rho σ) (upd H a u) b z := fun b z hb c => c.mono k (upd_ne hb)
    refine ⟨⟨by simpa using o.len, fun j z h => ?_, fun j z h => ?_, fun j l b h1 h2 => o.inj j l b ((own j b).mp h1) ((own l b).mp h2), o.hlen, fun n z h => ?_, o.nd, fun b m => ⟨fun ⟨j, q⟩ => (o.s1 b m).1 ⟨j, (own j b).mp q⟩, (o.s1 b m).2⟩, fun b ⟨j, q⟩ => o.s2 b ⟨j, (own j b).mp q⟩, fun b m => ?_⟩,
      ⟨⟨[], by simp⟩, rfl, by show Keeps _ _ (MM G (S.rho.set i (.own y)) σ) _; rw [mm]; exact k, fun b m => upd_ne fun z => o.s2 a ⟨i, w⟩ (by rw [← z]; exact m), fun j z h => ?_, fun b z h => ?_⟩, mm⟩
    · have hj : j ≠ i := by
        rintro rfl
        rw [List.getElem?_set_self hi] at h
        cases h
      rw [ne j hj] at h
      obtain ⟨v, q1, q2⟩ := o.val j z h
      refine ⟨v, q1, ?_⟩
      show SD K G.io (MM G (S.rho.set i (.own y)) σ) _ _ _
      rw [mm]
      exact SD.mono k ⟨[], by simp⟩ q2
    · show ∃ b, _ ∧ Cont K (MM G (S.rho.set i (.own y)) σ) _ _ _
      rw [mm]
      by_cases hj : j = i
      · subst hj
        rw [List.getElem?_set_self hi] at h
        have : z = y := by rcases h with h | h <;> cases h; rfl
        subst this
        exact ⟨a, h1, cy⟩
      · rw [ne j hj] at h
        obtain ⟨b, q1, q2, q3⟩ := o.at h
        exact ⟨b, q1, far b z (fun e => hj (o.inj j i a (by rw [← e]; exact q2) w)) q3⟩
    · obtain ⟨b, q1, q2⟩ := o.heap n z h
      refine ⟨b, q1, ?_⟩
      show Cont K (MM G (S.rho.set i (.own y)) σ) _ _ _
      rw [mm]
      exact far b z (fun e => (o.s1 b (List.mem_of_getElem? q1)).1 ⟨i, by rw [e]; exact w⟩) q2
    · obtain ⟨z, hz⟩ := o.tr b m
      exact ⟨z, by rw [upd_ne fun e => o.s2 a ⟨i, w⟩ (by rw [← e]; exact m)]; exact hz⟩
    · have hj : j ≠ i := by
        rintro rfl
        rw [hz] at h
        cases h
      exact ⟨by show (S.rho.set i (.own y))[j]? = _; rw [ne j hj]; exact h, rfl⟩
    · by_cases hb : b = a
      · subst hb; exact ⟨_, upd_same⟩
      · exact ⟨z, by rw [upd_ne hb]; exact h⟩
  · rename_i n hn
    split at e
    · rename_i z hz
      cases e
      obtain ⟨v, h1, a, h2, rfl⟩ := o.val i _ hn
      obtain ⟨a', h3, c⟩ := o.heap n _ hz
      rw [h2] at h3
      cases h3
      have ma : a ∈ G.io := List.mem_of_getElem? h2
      have M0 : MM G S.rho σ a := .inl ma
      refine ⟨a, h1, M0, c, fun u y cy => ?_⟩
      have k : Keeps (MM G S.rho σ) H (MM G S.rho σ) (upd H a u) := Keeps.at M0
      have far : ∀ b z, b ≠ a → Cont K (MM G S.rho σ) H b z → Cont K (MM G S.rho σ) (upd H a u) b z := fun b z hb c => c.mono k (upd_ne hb)
      refine ⟨⟨o.len, fun j z h => ?_, fun j z h => ?_, o.inj, by simpa using o.hlen, fun l z h => ?_, o.nd, o.s1, o.s2, fun b m => ?_⟩,
        ⟨⟨[], by simp⟩, rfl, k, fun b m => upd_ne fun z => (o.s1 a ma).2 (by rw [← z]; exact m), fun j z h => ⟨h, rfl⟩, fun b z h => ?_⟩, rfl⟩
      · obtain ⟨v, q1, q2⟩ := o.val j z h
        exact ⟨v, q1, SD.mono k ⟨[], by simp⟩ q2⟩
      · obtain ⟨b, q1, q2, q3⟩ := o.at h
        exact ⟨b, q1, far b z (fun e => (o.s1 a ma).1 ⟨j, by rw [← e]; exact q2⟩) q3⟩
      · by_cases hl : l = n
        · subst hl
          have hlt : l < S.hp.length := (List.getElem?_eq_some_iff.mp hz).1
          have h' : (S.hp.set l y)[l]? = some z := h
          rw [List.getElem?_set_self hlt] at h'
          cases h'
          exact ⟨a, h2, cy⟩
        · have h' : (S.hp.set n y)[l]? = some z := h
          rw [List.getElem?_set_ne (Ne.symm hl)] at h'
          obtain ⟨b, q1, q2⟩ := o.heap l z h'
          refine ⟨b, q1, far b z (fun e => hl ?_) q2⟩
          subst e
          exact nd_ix o.nd q1 h2
      · obtain ⟨z, hz⟩ := o.tr b m
        exact ⟨z, by rw [upd_ne fun e => (o.s1 a ma).2 (by rw [← e]; exact m)]; exact hz⟩
      · by_cases hb : b = a
        · subst hb; exact ⟨_, upd_same⟩
        · exact ⟨z, by rw [upd_ne hb]; exact h⟩
    · cases e
  · cases e
/-- a new thing is shared from now on -/
theorem Ok.share {p : Addr} {d : D} (o : Ok K (G.plus p) S σ H) (nA : ¬ G.A p) (c : Cont K (MM (G.plus p) S.rho σ) H p d) :
    Ok K { io := G.io ++ [p], A := G.A } { S with hp := S.hp ++ [d] } σ H ∧ MM { io := G.io ++ [p], A := G.A } S.rho σ = MM (G.plus p) S.rho σ := by
  have mm : MM { io := G.io ++ [p], A := G.A } S.rho σ = MM (G.plus p) S.rho σ := by
    funext b
    apply propext
    constructor
    · rintro (h | h | h)
      · rcases List.mem_append.mp h with h | h
        · exact .inl h
        · exact .inr (.inr (.inl (List.mem_singleton.mp h)))
      · exact .inr (.inl h)
      · exact .inr (.inr (.inr h))
    · rintro (h | h | h | h)
      · exact .inl (List.mem_append_left _ h)
      · exact .inr (.inl h)
      · exact .inl (List.mem_append_right _ (List.mem_singleton.mpr h))
      · exact .inr (.inr h)
  have pn : p ∉ G.io := fun m => (o.s1 p m).2 (.inl rfl)
  have hl : G.io.length = S.hp.length := o.hlen
  refine ⟨⟨o.len, fun i x e => ?_, fun i x e => ?_, o.inj, by simp [hl], fun n x e => ?_, ?_, fun a m => ?_, fun a w z => o.s2 a w (.inr z), fun a m => o.tr a (.inr m)⟩, mm⟩
  · obtain ⟨v, h1, h2⟩ := o.val i x e
    refine ⟨v, h1, ?_⟩
    show SD K _ (MM { io := G.io ++ [p], A := G.A } S.rho σ) _ _ _
    rw [mm]
    exact SD.mono (Keeps.refl _ _) ⟨[p], rfl⟩ h2
  · show ∃ a, _ ∧ Cont K (MM { io := G.io ++ [p], A := G.A } S.rho σ) _ _ _
    rw [mm]
    exact o.own i x e
  · show ∃ a, _ ∧ Cont K (MM { io := G.io ++ [p], A := G.A } S.rho σ) _ _ _
    rw [mm]
    have e : (S.hp ++ [d])[n]? = some x := e
    by_cases hn : n < S.hp.length
    · rw [List.getElem?_append_left hn] at e
      obtain ⟨a, h1, h2⟩ := o.heap n x e
      exact ⟨a, by rw [List.getElem?_append_left (by rw [hl]; exact hn)]; exact h1, h2⟩
    · have : n = S.hp.length := by
        have := (List.getElem?_eq_some_iff.mp e).1
        simp at this
        omega
      subst this
      simp at e
      subst e
      exact ⟨p, by rw [← hl]; simp, c⟩
  · rw [List.nodup_append]
    exact ⟨o.nd, List.nodup_cons.mpr ⟨List.not_mem_nil, List.nodup_nil⟩, fun a m b hb => by
      rw [List.mem_singleton.mp hb]
      rintro rfl
      exact pn m⟩
  · have m : a ∈ G.io ++ [p] := m
    rcases List.mem_append.mp m with m | m
    · exact ⟨(o.s1 a m).1, fun z => (o.s1 a m).2 (.inr z)⟩
    · rw [List.mem_singleton.mp m]
      exact ⟨fun w => o.s2 p w (.inl rfl), nA⟩
end

section
variable {X : Cx} {W : WX} {P : Env} {pos : Pos}
theorem nref_ev {as : Cs} {S : Ste} : ev P (.nref as) S = (evs P as S).bind fun xs s => match dats xs with
      | some ds => if ds.length ≤ lim then .ok (.r s.hp.length) { s with hp := s.hp ++ [.list ds] } else .stuck
      | none => .stuck := by rw [ev] <;> rfl
theorem se_nref {es : List Expr} {as : Cs} (ha : PA X es (tA X.K W (evs P as))) : PE X (.List es pos) (tE X.K W (ev P (.nref as))) := (pe_lst ha).imp fun σ H Q h => by
  obtain ⟨G, S, o, p⟩ := h
  rw [nref_ev] at p
  refine ⟨G, S, o, p.seq fun G1 S1 xs vs H1 o1 st1 r1 p1 => ?_⟩
  cases ed : dats xs with
  | none => rw [ed] at p1; exact p1.elim
  | some ds =>
    rw [ed] at p1
    dsimp only at p1
    split at p1
    · rename_i hl
      have l := r1.dats ed
      refine ⟨by rw [← l.length]; exact le_size hl, fun q hq => ?_⟩
      obtain ⟨o2, k, s2⟩ := o1.laid (u := .lst vs) hq
      have nA : ¬ G1.A q := fun z => by
        obtain ⟨u, hu⟩ := o1.tr q z
        rw [hq] at hu
        cases hu
      obtain ⟨o3, mm⟩ := o2.share nA (d := .list ds) ⟨vs, upd_same, l.laid o1 hq⟩
      refine p1 _ _ _ o3 ⟨⟨[q], rfl⟩, rfl, ?_, s2.anon, fun i x e => ⟨e, rfl⟩, s2.tr⟩ ⟨q, ?_, rfl⟩
      · show Keeps _ _ (MM { io := G1.io ++ [q], A := G1.A } S1.rho σ) _
        rw [mm]
        exact k
      · show (G1.io ++ [q])[S1.hp.length]? = _
        rw [← o1.hlen]
        simp
    · exact p1.elim

/-! ### methods -/
theorem meth_ev {o : Op} {a : C} {as : Cs} {S : Ste} : ev P (.meth o a as) S = (ev P a S).bind fun x s => match s.res x with
    | some d => if mty o d then (evs P as s).bind fun xs s => Res.of (((s.ress (x :: xs)).bind o.fn).map .d) s else .stuck
    | none => .stuck := by rw [ev] <;> rfl
theorem se_meth {e e2 : Expr} {es : List Expr} {name : Str} {apos : Pos} {T id : String} {o : Op} {a : C} {as : Cs} (pa : PlainAttrs T) (slot : PySem.Slot T name id) (hty : typeOf (.builtin id) = pure (.type "method_descriptor")) (hm : MtP X id o.fresh o.fn)
    (ty : ∀ d, mty o d = true → ∀ M H v, Dn X.K M H false d v → tyV X.K T v H) (he : PE X e (tE X.K W (ev P a))) (ha : PA X (e2 :: es) (tA X.K W (evs P as)))
    (hbase : attributeBase e name X.env (eval e X.env) = eval e X.env)
    (hfew : ((backTo pos (starEach (e2 :: es) X.env)).all (fun x => !x.1) && (backToKw pos (keywordEach [] X.env)).all (fun x => x.1.isSome)
      && decide ((e2 :: es).length + ([] : List Keyword).length + (if ([] : List Keyword).isEmpty then 0 else 1) < 30)) = true)
    (hline : (apos.endLine == pos.line) = true) (hs : starEach (e2 :: es) X.env = (false, eval e2 X.env) :: starEach es X.env) (hplain : (backTo pos (starEach es X.env)).any (·.1) = false) :
    PE X (.Call (.Attribute e name apos) (e2 :: es) [] pos) (tE X.K W (ev P (.meth o a as))) := (pe_bm pa slot hty hm he ha hbase hfew hline hs hplain).imp fun σ H Q h => by
  obtain ⟨G, S, ok, p⟩ := h
  rw [meth_ev] at p
  refine ⟨G, S, ok, p.seq fun G1 S1 x v H1 o1 st1 r1 p1 => ?_⟩
  cases ed : S1.res x with
  | none => rw [ed] at p1; exact p1.elim
  | some d =>
    rw [ed] at p1
    dsimp only at p1
    split at p1
    · rename_i ht
      exact ⟨ty d ht _ _ _ (o1.res r1 ed), G1, S1, o1, p1.seq fun G2 S2 xs vs H2 o2 st2 r2 p2 => rP_of o2 (.cons (VD.step st2 r1) r2) p2⟩
    · exact p1.elim

/-! ### lists are changed -/
def MuP (X : Cx) (id : String) (m : Mu) : Prop := MtR X id fun x xs H Q => ∃ (M : Addr → Prop) (a : Addr) (d : D) (ds : List D) (y d' : D), x = .ref a ∧ M a ∧ Cont X.K M H a d ∧ DnL X.K M H ds xs ∧ m.fn d ds = some (y, d') ∧
  ∀ u v, Cont X.K M (upd H a u) a d' → Dn X.K M (upd H a u) true y v → Q v (upd H a u)
theorem u_app : MuP X "list.append" .app := by
  intro pins s σ H x xs v us Q I rx r h
  obtain ⟨M, a, d, ds, y, d', rfl, m, c, l, e, q⟩ := h
  replace e : mApp d ds = some (y, d') := e
  unfold mApp at e
  split at e
  · rename_i ys z
    split at e
    · rename_i hl
      cases e
      obtain ⟨vs, e1, l1⟩ := c
      cases l with
      | cons dz r2 =>
        cases r2
        exact mt_append pins s σ H _ _ v us Q I rx r ⟨a, vs, _, rfl, rfl, e1, by rw [← l1.length]; exact Nat.lt_of_lt_of_le hl (by decide), q _ _ ⟨_, upd_same, DnL.mono (Keeps.at m) _ _ (l1.append (.cons dz .nil))⟩ .non⟩
    · cases e
  · cases e
theorem u_pop : MuP X "list.pop" .pop := by
  intro pins s σ H x xs v us Q I rx r h
  obtain ⟨M, a, d, ds, y, d', rfl, m, c, l, e, q⟩ := h
  replace e : mPop d ds = some (y, d') := e
  unfold mPop at e
  split at e
  · rename_i zs
    obtain ⟨vs, e1, l1⟩ := c
    cases l
    split at e
    · rename_i z eg
      cases e
      obtain ⟨w, e2, dw⟩ := l1.get eg
      rw [l1.length] at e2
      exact mt_pop pins s σ H _ _ v us Q I rx r ⟨a, vs, w, rfl, rfl, e1, e2, q _ _ ⟨_, upd_same, DnL.mono (Keeps.at m) _ _ l1.dropLast⟩ (Dn.mono (Keeps.at m) _ _ dw)⟩
    · cases e
  · cases e
theorem u_popAt : MuP X "list.pop" .popAt := by
  intro pins s σ H x xs v us Q I rx r h
  obtain ⟨M, a, d, ds, y, d', rfl, m, c, l, e, q⟩ := h
  replace e : mPopAt d ds = some (y, d') := e
  unfold mPopAt at e
  split at e
  · rename_i zs i
    split at e
    · rename_i hi
      obtain ⟨vs, e1, l1⟩ := c
      cases l with
      | cons di r2 =>
        cases r2
        cases di
        split at e
        · rename_i z eg
          cases e
          obtain ⟨w, e2, dw⟩ := l1.get eg
          have hlt : i.toNat < vs.length := (List.getElem?_eq_some_iff.mp e2).1
          exact mt_popAt pins s σ H _ _ v us Q I rx r ⟨a, vs, i, i.toNat, w, rfl, rfl, e1, by omega, by omega, seqIndex_of hi.1 (by omega), e2, q _ _ ⟨_, upd_same, DnL.mono (Keeps.at m) _ _ (l1.eraseIdx _)⟩ (Dn.mono (Keeps.at m) _ _ dw)⟩
        · cases e
    · cases e
  · cases e
theorem u_rev : MuP X "list.reverse" .rev := by
  intro pins s σ H x xs v us Q I rx r h
  obtain ⟨M, a, d, ds, y, d', rfl, m, c, l, e, q⟩ := h
  replace e : mRev d ds = some (y, d') := e
  unfold mRev at e
  split at e
  · rename_i zs
    cases e
    obtain ⟨vs, e1, l1⟩ := c
    cases l
    exact mt_reverse pins s σ H _ _ v us Q I rx r ⟨a, vs, rfl, rfl, e1, q _ _ ⟨_, upd_same, DnL.mono (Keeps.at m) _ _ l1.reverse⟩ .non⟩
  · cases e
theorem u_clr : MuP X "list.clear" .clr := by
  intro pins s σ H x xs v us Q I rx r h
  obtain ⟨M, a, d, ds, y, d', rfl, m, c, l, e, q⟩ := h
  replace e : mClr d ds = some (y, d') := e
  unfold mClr at e
  split at e
  · rename_i zs
    cases e
    obtain ⟨vs, e1, l1⟩ := c
    cases l
    exact mt_clear pins s σ H _ _ v us Q I rx r ⟨a, vs, rfl, rfl, e1, q _ _ ⟨_, upd_same, .nil⟩ .non⟩
  · cases e
theorem mut_ev {i : Nat} {m : Mu} {as : Cs} {S : Ste} : ev P (.mut i m as) S = if cellOk m (S.cell i) then (evs P as S).bind fun xs s => match s.cell i, dats xs with
      | some (x, f), some ds => (match m.fn x ds with
        | some (y, x') => .ok (.d y) (f x')
        | none => .stuck)
      | _, _ => .stuck
    else .stuck := by rw [ev] <;> rfl
/-- the receiver, ahead of the arguments -/
theorem mut_at {m : Mu} {i : Nat} {σ : St} {H : Hp} {G : Gh} {S : Ste} (o : Ok X.K G S σ H) (h : cellOk m (S.cell i) = true) : ∃ a, σ[i]? = some (some (.ref a)) ∧ tyV X.K "list" (.ref a) H := by
  unfold cellOk at h
  split at h
  · rename_i ys f e
    obtain ⟨a, h1, _, c, _⟩ := o.wr e
    obtain ⟨vs, e1, _⟩ := c
    exact ⟨a, h1, .inl ⟨rfl, vs, SqL.of e1⟩⟩
  · cases h
theorem mut_fin {id : String} {m : Mu} {i : Nat} (hm : MuP X id m) {σ : St} {H : Hp} {G : Gh} {S : Ste} {Q : VK} {xs : List Vl} {vs : List V} {a : Addr} (o : Ok X.K G S σ H) (ea : σ[i]? = some (some (.ref a))) (r : VDs X.K G.io (MM G S.rho σ) σ H xs vs)
    (p : Post X.K W (RV X.K) G S σ H Q (match S.cell i, dats xs with
      | some (x, f), some ds => (match m.fn x ds with
        | some (y, x') => .ok (.d y) (f x')
        | none => .stuck)
      | _, _ => .stuck)) : ∃ (M : Addr → Prop) (a' : Addr) (d : D) (ds : List D) (y d' : D), V.ref a = .ref a' ∧ M a' ∧ Cont X.K M H a' d ∧ DnL X.K M H ds vs ∧ m.fn d ds = some (y, d') ∧
      ∀ u v, Cont X.K M (upd H a' u) a' d' → Dn X.K M (upd H a' u) true y v → Q v (upd H a' u) := by
  split at p
  · rename_i x f ds ec ed
    split at p
    · rename_i y x' em
      obtain ⟨b, h1, mb, c, w⟩ := o.wr ec
      rw [ea] at h1
      cases h1
      refine ⟨MM G S.rho σ, a, x, ds, y, x', rfl, mb, c, r.dats ed, em, fun u v cy dy => ?_⟩
      obtain ⟨o2, st2, mm⟩ := w u x' cy
      refine p G v _ o2 st2 ?_
      show Dn X.K (MM G (f x').rho σ) _ true y v
      rw [mm]
      exact dy
    · exact p.elim
  · exact p.elim
theorem se_mut0 {id : String} {m : Mu} {x name : Str} {apos npos : Pos} {i : Nat} (hm : MuP X id m) (slot : PySem.Slot "list" name id) (hty : typeOf (.builtin id) = pure (.type "method_descriptor")) (hN : X.N[i]? = some x) (hv : Vis X.env.scope x) (hd : (x == ("__debug__" : Str)) = false) (hcd : (x == ("__classdict__" : Str)) = false)
    (hline : (apos.endLine == pos.line) = true) : PE X (.Call (.Attribute (.Name x npos) name apos) [] [] pos) (tE X.K W (ev P (.mut i m .nil))) := (pe_bm0 PySem.F.plainAttrs_list slot hty hm (pe_var hN hv hd hcd) rfl hline).imp fun σ H Q h => by
  obtain ⟨G, S, o, p⟩ := h
  rw [mut_ev] at p
  split at p
  · rename_i hc
    obtain ⟨a, ea, ty⟩ := mut_at o hc
    refine ⟨_, ea, ty, ?_⟩
    simp only [evs, Res.bind] at p
    exact mut_fin hm o ea .nil p
  · exact p.elim
theorem se_mut {id : String} {m : Mu} {x name : Str} {apos npos : Pos} {i : Nat} {e : Expr} {es : List Expr} {as : Cs} (hm : MuP X id m) (slot : PySem.Slot "list" name id) (hty : typeOf (.builtin id) = pure (.type "method_descriptor")) (hN : X.N[i]? = some x) (hv : Vis X.env.scope x) (hd : (x == ("__debug__" : Str)) = false) (hcd : (x == ("__classdict__" : Str)) = false)
    (ha : PA X (e :: es) (tA X.K W (evs P as))) (hfew : ((backTo pos (starEach (e :: es) X.env)).all (fun x => !x.1) && (backToKw pos (keywordEach [] X.env)).all (fun x => x.1.isSome)
      && decide ((e :: es).length + ([] : List Keyword).length + (if ([] : List Keyword).isEmpty then 0 else 1) < 30)) = true)
    (hline : (apos.endLine == pos.line) = true) (hs : starEach (e :: es) X.env = (false, eval e X.env) :: starEach es X.env) (hplain : (backTo pos (starEach es X.env)).any (·.1) = false) :
    PE X (.Call (.Attribute (.Name x npos) name apos) (e :: es) [] pos) (tE X.K W (ev P (.mut i m as))) := (pe_bm PySem.F.plainAttrs_list slot hty hm (pe_var hN hv hd hcd) ha rfl hfew hline hs hplain).imp fun σ H Q h => by
  obtain ⟨G, S, o, p⟩ := h
  rw [mut_ev] at p
  split at p
  · rename_i hc
    obtain ⟨a, ea, ty⟩ := mut_at o hc
    exact ⟨_, ea, ty, G, S, o, p.seq fun G1 S1 xs vs H1 o1 st1 r1 p1 => mut_fin hm o1 ea r1 p1⟩
  · exact p.elim
end
end EV
end
section
set_option Elab.async false
set_option linter.all false
set_option maxRecDepth 100000
set_option maxHeartbeats 4000000
set_option autoImplicit false
/-! EvD5: written dicts of the modules, texts by texts: in, not in, what stands at a text -/
namespace EV
open PySem PySem.Spec L2
def DEs : List DictEntry → List (Str × Str) → Prop
  | [], [] => True
  | e :: es, q :: r => (∃ t u, e.key = .str q.1 t ∧ e.val = .str q.2 u) ∧ DEs es r
  | _, _ => False
/-- the dict at a has just these -/
def KDs (K : PySem.W.Frag) (w : World) (a : Addr) (kvs : List (Str × Str)) : Prop :=
  ∃ es n, K.lookup a = some ⟨.type "dict", none, .dict es n, #[]⟩ ∧ PySem.W.KeysLit w.params es.toList ∧ (a == sysModules) = false ∧ DEs es.toList kvs
theorem des_find {z : Str} : ∀ {es : List DictEntry} {kvs : List (Str × Str)}, DEs es kvs → (match es.find? (·.key.isStr z) with
    | some e => some (some e.val)
    | none => if es.any (·.refKey) then none else some none) = some ((es.find? (·.key.isStr z)).map (·.val)) ∧ (match kvs.lookup z with
    | some y => ∃ t, (es.find? (·.key.isStr z)).map (·.val) = some (.str y t)
    | none => (es.find? (·.key.isStr z)).map (·.val) = none)
  | [], [], _ => ⟨rfl, rfl⟩
  | [], _ :: _, h => h.elim
  | _ :: _, [], h => h.elim
  | e :: es, (k, v) :: r, ⟨⟨t, u, hk, hv⟩, h⟩ => by
    obtain ⟨i1, i2⟩ := des_find (z := z) h
    have e1 : e.key.isStr z = (k == z) := by rw [hk]; rfl
    have e2 : e.refKey = false := by
      unfold DictEntry.refKey
      rw [hk] <;> rfl
    rw [List.find?_cons, List.lookup_cons]
    by_cases q : k = z
    · subst q
      rw [e1, beq_self_eq_true]
      exact ⟨rfl, u, by rw [Option.map_some, hv]⟩
    · have q1 : (k == z) = false := beq_eq_false_iff_ne.mpr q
      have q2 : (z == k) = false := beq_eq_false_iff_ne.mpr fun e => q e.symm
      rw [e1, q1, q2, List.any_cons, e2, Bool.false_or]
      exact ⟨i1, i2⟩
theorem kds_ns {K : PySem.W.Frag} {w : World} {a : Addr} {kvs : List (Str × Str)} (h : KDs K w a kvs) (z : Str) : ∃ es n, K.lookup a = some ⟨.type "dict", none, .dict es n, #[]⟩ ∧ PySem.W.KeysLit w.params es.toList ∧ (a == sysModules) = false ∧
    ∃ r, PySem.W.nsIn K a z = some r ∧ (match kvs.lookup z with
      | some y => ∃ t, r = some (.str y t)
      | none => r = none) := by
  obtain ⟨es, n, h1, h2, h3, h4⟩ := h
  obtain ⟨i1, i2⟩ := des_find (z := z) h4
  refine ⟨es, n, h1, h2, h3, _, ?_, i2⟩
  unfold PySem.W.nsIn
  rw [h1]
  exact i1
section
variable {X : Cx}
theorem isSome_of {kvs : List (Str × Str)} {z : Str} {r : Option Value} (h : match kvs.lookup z with
      | some y => ∃ t, r = some (.str y t)
      | none => r = none) : r.isSome = (kvs.lookup z).isSome := by
  cases e : kvs.lookup z with
  | none => rw [e] at h; rw [show r = none from h]; rfl
  | some y => rw [e] at h; obtain ⟨t, h⟩ := h; rw [h]; rfl
theorem op_din {kvs : List (Str × Str)} : OpR X (compareOp .In) fun x y H Q => ∃ a, y = .ref a ∧ KDs X.K X.w a kvs ∧ rP X.K true (fDin kvs false) [x] H Q := by
  intro pins s σ H x y v u Q I rx ry h
  obtain ⟨a, rfl, kd, M, ds, d, tr, hd, hg, q⟩ := h
  obtain ⟨b, rfl, ha⟩ := hd.one
  unfold fDin at hg
  split at hg
  · rename_i z e
    cases e
    cases hg
    cases ha
    obtain ⟨t, rfl⟩ := rx
    obtain rfl : u = Value.ref a := ry
    obtain ⟨es, n, h1, h2, h3, r, h4, h5⟩ := kds_ns kd z
    refine wpAny_in_of (strKind_is X.prog X.w z t) h3 (PySem.W.mapOf_K (prog := X.prog) I.kIn h1 h2) ?_
    rw [PySem.W.find_K h1 h4, isSome_of h5]
    refine ⟨.bl _, H, I.tok _, rfl, q _ H (Same.refl H) ?_ (fin0 (by intro a e; cases e) H)⟩
    have : ((kvs.lookup z).isSome != false) = (kvs.lookup z).isSome := by cases (kvs.lookup z).isSome <;> rfl
    rw [this]
    exact .bl _
  · cases hg
theorem op_dnin {kvs : List (Str × Str)} : OpR X (compareOp .NotIn) fun x y H Q => ∃ a, y = .ref a ∧ KDs X.K X.w a kvs ∧ rP X.K true (fDin kvs true) [x] H Q := by
  intro pins s σ H x y v u Q I rx ry h
  obtain ⟨a, rfl, kd, M, ds, d, tr, hd, hg, q⟩ := h
  obtain ⟨b, rfl, ha⟩ := hd.one
  unfold fDin at hg
  split at hg
  · rename_i z e
    cases e
    cases hg
    cases ha
    obtain ⟨t, rfl⟩ := rx
    obtain rfl : u = Value.ref a := ry
    obtain ⟨es, n, h1, h2, h3, r, h4, h5⟩ := kds_ns kd z
    refine wpAny_notIn_of (strKind_is X.prog X.w z t) h3 (PySem.W.mapOf_K (prog := X.prog) I.kIn h1 h2) ?_
    rw [PySem.W.find_K h1 h4, isSome_of h5]
    refine ⟨.bl _, H, I.tok _, rfl, q _ H (Same.refl H) ?_ (fin0 (by intro a e; cases e) H)⟩
    have : ((kvs.lookup z).isSome != true) = !(kvs.lookup z).isSome := by cases (kvs.lookup z).isSome <;> rfl
    rw [this]
    exact .bl _
  · cases hg
theorem ix_dat {kvs : List (Str × Str)} : IxR X fun x y H Q => ∃ a, x = .ref a ∧ KDs X.K X.w a kvs ∧ rP X.K true (fDat kvs) [y] H Q := by
  intro value slice pins s σ H x y v u Q I rx ry h hs
  obtain ⟨a, rfl, kd, M, ds, d, tr, hd, hg, q⟩ := h
  obtain ⟨b, rfl, ha⟩ := hd.one
  unfold fDat at hg
  split at hg
  · rename_i z e
    cases e
    cases ha
    obtain ⟨es, n, h1, h2, h3, r, h4, h5⟩ := kds_ns kd z
    cases el : kvs.lookup z with
    | none => rw [el] at hg; cases hg
    | some y =>
      rw [el] at hg h5
      cases hg
      obtain ⟨t, rfl⟩ := h5
      exact ix_kdict value slice pins s σ H _ _ v u Q I rx ry ⟨a, z, .str y, rfl, rfl, ⟨es, n, _, h1, h2, h4, ⟨t, rfl⟩⟩, q _ H (Same.refl H) (.str _) (fin0 (by intro a e; cases e) H)⟩ hs
  · cases hg
end
section
variable {X : Cx} {W : WX} {P : Env} {pos : Pos}
theorem se_din {l r : Expr} {a : C} {kvs : List (Str × Str)} {p : Addr} (kd : KDs X.K X.w p kvs) (ha : PE X l (tE X.K W (ev P a))) (hr : PE X r (tC (.ref p))) (hm : behindInMarks .In r = false) : PE X (.Compare l [.In] [r] pos) (tE X.K W (ev P (.op (.dIn kvs false) (.cons a .nil)))) :=
  (pe_cmpR (op_din (kvs := kvs)) ha hr hm).imp fun σ H Q h => by
    rw [op_ev] at h
    exact one_read h fun G S x v H1 o1 vs q => ⟨p, rfl, kd, rP_of (g := fDin kvs false) o1 vs q⟩
theorem se_dnin {l r : Expr} {a : C} {kvs : List (Str × Str)} {p : Addr} (kd : KDs X.K X.w p kvs) (ha : PE X l (tE X.K W (ev P a))) (hr : PE X r (tC (.ref p))) (hm : behindInMarks .NotIn r = false) : PE X (.Compare l [.NotIn] [r] pos) (tE X.K W (ev P (.op (.dIn kvs true) (.cons a .nil)))) :=
  (pe_cmpR (op_dnin (kvs := kvs)) ha hr hm).imp fun σ H Q h => by
    rw [op_ev] at h
    exact one_read h fun G S x v H1 o1 vs q => ⟨p, rfl, kd, rP_of (g := fDin kvs true) o1 vs q⟩
theorem se_dat {l r : Expr} {a : C} {kvs : List (Str × Str)} {p : Addr} (kd : KDs X.K X.w p kvs) (hl : PE X l (tC (.ref p))) (ha : PE X r (tE X.K W (ev P a))) (hs : PlainIx r) : PE X (.Subscript l r pos) (tE X.K W (ev P (.op (.dAt kvs) (.cons a .nil)))) :=
  (pe_ix (ix_dat (kvs := kvs)) hl ha hs).imp fun σ H Q h => by
    rw [op_ev] at h
    exact one_read h fun G S x v H1 o1 vs q => ⟨p, rfl, kd, rP_of (g := fDat kvs) o1 vs q⟩
theorem one_readT {a : C} {f : List Vl → Ste → Res Bool} {σ : St} {H : Hp} {Q : Bool → Hp → Prop} {k : V → Hp → Prop} (h : tT X.K W (fun S => (evs P (.cons a .nil) S).bind f) σ H Q)
    (fin : ∀ G S x v H1, Ok X.K G S σ H1 → VDs X.K G.io (MM G S.rho σ) σ H1 [x] [v] → Post X.K W RB G S σ H1 Q (f [x] S) → k v H1) : tE X.K W (ev P a) σ H k := by
  obtain ⟨G, S, o, p⟩ := h
  have e : (evs P (.cons a .nil) S).bind f = (ev P a S).bind fun x s => f [x] s := by
    simp only [evs]
    cases ev P a S <;> rfl
  replace p := (show Post X.K W RB G S σ H Q ((evs P _ S).bind f) from p)
  rw [e] at p
  exact ⟨G, S, o, p.seq fun G1 S1 x v H1 o1 st1 r1 p1 => fin G1 S1 x v H1 o1 (.cons r1 .nil) p1⟩
theorem bl_din {kvs : List (Str × Str)} {no : Bool} : ∀ ds d, fDin kvs no ds = some d → ∃ b, d = .bool b := fun ds d h => by
  unfold fDin at h
  split at h <;> cases h
  exact ⟨_, rfl⟩
theorem st_din {l r : Expr} {a : C} {kvs : List (Str × Str)} {p : Addr} (kd : KDs X.K X.w p kvs) (ha : PE X l (tE X.K W (ev P a))) (hr : PE X r (tC (.ref p))) (hm : behindInMarks .In r = false) : PT X (.Compare l [.In] [r] pos) (tT X.K W (evB P (.op (.dIn kvs false) (.cons a .nil)))) :=
  (pt_cmpR (op_din (kvs := kvs)) ha hr hm).imp fun σ H Q h => by
    rw [evB_op] at h
    exact one_readT h fun G S x v H1 o1 vs q => ⟨p, rfl, kd, rP_test bl_din o1 vs q⟩
theorem st_dnin {l r : Expr} {a : C} {kvs : List (Str × Str)} {p : Addr} (kd : KDs X.K X.w p kvs) (ha : PE X l (tE X.K W (ev P a))) (hr : PE X r (tC (.ref p))) (hm : behindInMarks .NotIn r = false) : PT X (.Compare l [.NotIn] [r] pos) (tT X.K W (evB P (.op (.dIn kvs true) (.cons a .nil)))) :=
  (pt_cmpR (op_dnin (kvs := kvs)) ha hr hm).imp fun σ H Q h => by
    rw [evB_op] at h
    exact one_readT h fun G S x v H1 o1 vs q => ⟨p, rfl, kd, rP_test bl_din o1 vs q⟩
end
end EV
end
section
set_option Elab.async false
set_option linter.all false
set_option maxRecDepth 100000
set_option maxHeartbeats 4000000
set_option autoImplicit false
/-! EvE: displays of dicts, calls of defs, targets, what is walked -/
namespace EV
open PySem L2

/-! ### calls -/
/-- what a def promises: it comes to what the call comes to. exv: the error classes -/
def spF (K : PySem.W.Frag) (exv : Nat → Value) (f : List Vl → List D → CRes) : Sp := fun vs H Q E => ∃ (G : Gh) (xs : List Vl) (hp : List D), Ok K G ⟨[], hp⟩ [] H ∧ VDs K G.io (MM G [] []) [] H xs vs ∧
  match f xs hp with
  | .ok x hp' => ∀ G' v H', Ok K G' ⟨[], hp'⟩ [] H' → Stp G ⟨[], hp⟩ [] H G' ⟨[], hp'⟩ [] H' → SD K G'.io (MM G' [] []) H' x v → Q v H'
  | .er c hp' => ∀ G' H', Ok K G' ⟨[], hp'⟩ [] H' → Stp G ⟨[], hp⟩ [] H G' ⟨[], hp'⟩ [] H' → E (exv c) none H'
  | .stuck => False
section
variable {K : PySem.W.Frag} {W : WX} {G : Gh} {S : Ste} {σ : St} {H H' : Hp}
/-- the callers' own things, as the callee sees them -/
def Gh.below (G : Gh) (rho : List Slot) (σ : St) : Gh := { io := G.io, A := fun a => Own rho σ a ∨ G.A a }
theorem noOwn {σ : St} {a : Addr} : ¬ Own [] σ a := by
  rintro ⟨i, ⟨x, h⟩, _⟩
  rcases h with h | h <;> simp at h
theorem MM.below {rho : List Slot} : MM (G.below rho σ) [] [] = MM G rho σ := by
  funext a
  apply propext
  constructor
  · rintro (h | h | h | h)
    · exact .inl h
    · exact (noOwn h).elim
    · exact .inr (.inl h)
    · exact .inr (.inr h)
  · rintro (h | h | h)
    · exact .inl h
    · exact .inr (.inr (.inl h))
    · exact .inr (.inr (.inr h))
theorem Ok.below (o : Ok K G S σ H) : Ok K (G.below S.rho σ) ⟨[], S.hp⟩ [] H :=
  { len := rfl, val := fun i x e => by simp at e, own := fun i x e => by simp at e, inj := fun i j a ⟨⟨x, h⟩, _⟩ => by simp at h, hlen := o.hlen
    heap := fun n x e => by
      show ∃ a, _ ∧ Cont K (MM (G.below S.rho σ) [] []) H a x
      rw [MM.below]
      exact o.heap n x e
    nd := o.nd, s1 := fun a m => ⟨noOwn, fun z => z.elim (o.s1 a m).1 (o.s1 a m).2⟩, s2 := fun a w => (noOwn w).elim
    tr := fun a m => o.tracked (m.elim (fun w => .inr (.inl w)) fun w => .inr (.inr w)) }
/-- behind a call -/
theorem Ok.above {G' : Gh} {hp' : List D} (o : Ok K G S σ H) (o' : Ok K G' ⟨[], hp'⟩ [] H') (st : Stp (G.below S.rho σ) ⟨[], S.hp⟩ [] H G' ⟨[], hp'⟩ [] H') :
    Ok K { io := G'.io, A := G.A } { S with hp := hp' } σ H' ∧ Stp G S σ H { io := G'.io, A := G.A } { S with hp := hp' } σ H' ∧ MM { io := G'.io, A := G.A } S.rho σ = MM G' [] [] := by
  have mm : MM { io := G'.io, A := G.A } S.rho σ = MM G' [] [] := by
    funext a
    apply propext
    have e : G'.A = fun a => Own S.rho σ a ∨ G.A a := st.A
    constructor
    · rintro (h | h | h)
      · exact .inl h
      · exact .inr (.inr (by rw [e]; exact .inl h))
      · exact .inr (.inr (by rw [e]; exact .inr h))
    · rintro (h | h | h)
      · exact .inl h
      · exact (noOwn h).elim
      · rw [e] at h
        exact h.elim (fun w => .inr (.inl w)) fun w => .inr (.inr w)
  have keep : Keeps (MM G S.rho σ) H (MM { io := G'.io, A := G.A } S.rho σ) H' := by
    rw [mm, ← MM.below]
    exact st.mono
  have stay : ∀ a, Own S.rho σ a ∨ G.A a → H' a = H a := fun a m => st.anon a m
  have eA : ∀ a, Own S.rho σ a ∨ G.A a → G'.A a := fun a m => by
    rw [show G'.A = fun a => Own S.rho σ a ∨ G.A a from st.A]
    exact m
  refine ⟨⟨o.len, fun i x e => ?_, fun i x e => ?_, o.inj, o'.hlen, fun n x e => ?_, o'.nd, fun a m => ⟨fun w => (o'.s1 a m).2 (eA a (.inl w)), fun w => (o'.s1 a m).2 (eA a (.inr w))⟩, o.s2, fun a m => ?_⟩, ⟨st.io, rfl, keep, fun a m => stay a (.inr m), fun _ _ e => ⟨e, rfl⟩, st.tr⟩, mm⟩
  · obtain ⟨v, h1, h2⟩ := o.val i x e
    exact ⟨v, h1, SD.mono keep st.io h2⟩
  · obtain ⟨a, h1, w, c⟩ := o.at e
    exact ⟨a, h1, c.mono keep (stay a (.inl ⟨i, w⟩))⟩
  · show ∃ a, _ ∧ Cont K (MM { io := G'.io, A := G.A } S.rho σ) H' a x
    rw [mm]
    exact o'.heap n x e
  · obtain ⟨u, e⟩ := o.tr a m
    exact ⟨u, by rw [stay a (.inr m)]; exact e⟩
theorem VDs.under {xs : List Vl} {vs : List V} (h : VDs K G.io (MM G S.rho σ) σ H xs vs) (n : noPk xs = true) : VDs K (G.below S.rho σ).io (MM (G.below S.rho σ) [] []) [] H xs vs := by
  rw [MM.below]
  induction h with
  | nil => exact .nil
  | @cons x v xs vs a r ih =>
    cases x with
    | d x => exact .cons a (ih n)
    | r k => exact .cons a (ih n)
    | pk i => cases n
end
section
variable {X : Cx} {W : WX} {P : Env} {pos : Pos} {exv : Nat → Value}
def EW (exv : Nat → Value) (W : WX) : St → XK := fun σ cls d H => ∃ c, cls = exv c ∧ d = none ∧ W c σ H
theorem call_ev {f : Nat} {as : Cs} {S : Ste} : ev P (.call f as) S = (evs P as S).bind fun xs s => match P.call f xs s.hp with
    | .ok x h => .ok x { s with hp := h }
    | .er c h => .er c { s with hp := h }
    | .stuck => .stuck := by rw [ev] <;> rfl
theorem call_fin {f : Nat} (npk : ∀ xs hp, noPk xs = false → P.call f xs hp = .stuck) {σ : St} {H : Hp} {G : Gh} {S : Ste} {Q : VK} {xs : List Vl} {vs : List V} (o : Ok X.K G S σ H) (r : VDs X.K G.io (MM G S.rho σ) σ H xs vs)
    (p : Post X.K W (RV X.K) G S σ H Q (match P.call f xs S.hp with
    | .ok x h => .ok x { S with hp := h }
    | .er c h => .er c { S with hp := h }
    | .stuck => .stuck)) : spF X.K exv (P.call f) vs H Q (EW exv W σ) := by
  cases hn : noPk xs with
  | false => rw [npk xs _ hn] at p; exact p.elim
  | true =>
    refine ⟨G.below S.rho σ, xs, S.hp, o.below, r.under hn, ?_⟩
    cases e : P.call f xs S.hp with
    | ok x h =>
      rw [e] at p
      intro G' v H' o' st sd
      obtain ⟨o2, st2, mm⟩ := o.above o' st
      refine p _ v H' o2 st2 ?_
      show VD X.K G'.io (MM { io := G'.io, A := G.A } S.rho σ) σ H' x v
      rw [mm]
      cases x with
      | d x => exact sd
      | r n => exact sd
      | pk i => exact sd.elim
    | er c h =>
      rw [e] at p
      intro G' H' o' st
      obtain ⟨o2, st2, _⟩ := o.above o' st
      exact ⟨c, rfl, rfl, p _ H' o2 st2⟩
    | stuck => rw [e] at p; exact p
theorem se_call {x : Str} {p : Pos} {e : Expr} {es : List Expr} {f : Nat} {as : Cs} {CX : CXT} {k : Nat} {a : Addr} {fd : FuncData} {ps : List Str} (F : FnG X.prog X.w X.K X.mg X.base CX k a fd ps (spF X.K exv (P.call f))) (hr : Room k X.A) (hgd : X.A.guards = some []) (hg : Gl X x) (hm : X.mg x = some (.ref a))
    (hk : PySem.W.keepIn X.K (.ref a) = true) (hb : Binds X.K fd ps []) (hx : ∀ ss, PassesAt CX X ss (EW exv W ss)) (npk : ∀ xs hp, noPk xs = false → P.call f xs hp = .stuck) (ha : PA X (e :: es) (tA X.K W (evs P as))) (hdb : (x == ("__debug__" : Str)) = false)
    (he : starEach (e :: es) X.env = (false, eval e X.env) :: starEach es X.env) (hpl : (backTo pos (starEach es X.env)).any (·.1) = false) : PE X (.Call (.Name x p) (e :: es) [] pos) (tE X.K W (ev P (.call f as))) :=
  (pe_callG F hr hgd hg hm hk hb hx ha hdb he hpl).imp fun σ H Q h => by
    obtain ⟨G, S, o, p⟩ := h
    rw [call_ev] at p
    exact ⟨G, S, o, p.seq fun G1 S1 xs vs H1 o1 st1 r1 p1 => call_fin npk o1 r1 p1⟩
theorem se_call0 {x : Str} {p : Pos} {f : Nat} {CX : CXT} {k : Nat} {a : Addr} {fd : FuncData} {ps : List Str} (F : FnG X.prog X.w X.K X.mg X.base CX k a fd ps (spF X.K exv (P.call f))) (hr : Room k X.A) (hgd : X.A.guards = some []) (hg : Gl X x) (hm : X.mg x = some (.ref a))
    (hk : PySem.W.keepIn X.K (.ref a) = true) (hb : Binds X.K fd ps []) (hx : ∀ ss, PassesAt CX X ss (EW exv W ss)) (npk : ∀ xs hp, noPk xs = false → P.call f xs hp = .stuck) (hdb : (x == ("__debug__" : Str)) = false) : PE X (.Call (.Name x p) [] [] pos) (tE X.K W (ev P (.call f .nil))) :=
  (pe_callG0 F hr hgd hg hm hk hb hx hdb).imp fun σ H Q h => by
    obtain ⟨G, S, o, p⟩ := h
    rw [call_ev] at p
    simp only [evs, Res.bind] at p
    exact call_fin npk o .nil p

/-! ### dicts of constants -/
def atomV : D → Option V
  | .none => some .non
  | .bool b => some (.bl b)
  | .int i => some (.int i)
  | .str x => some (.str x)
  | _ => none
theorem atom_dn {K : PySem.W.Frag} {d : D} {v : V} (h : atomV d = some v) (M : Addr → Prop) (H : Hp) (b : Bool) : Dn K M H b d v := by
  cases d <;> cases h
  · exact .non
  · exact .bl _
  · exact .int _
  · exact .str _
/-- the key's and the value's text -/
inductive AtE : Expr → D → Prop
  | non {j pos} : AtE (.Constant .none j pos) .none
  | bl {b j pos} : AtE (.Constant (.bool b) j pos) (.bool b)
  | int {i j pos} : AtE (.Constant (.int i) j pos) (.int i)
  | str {x j pos} : AtE (.Constant (.str x) j pos) (.str x)
theorem AtE.pe {e : Expr} {d : D} (h : AtE e d) : ∃ v, atomV d = some v ∧ PE X e (tC v) := by
  cases h with
  | non => exact ⟨_, rfl, pe_non⟩
  | bl => exact ⟨_, rfl, pe_bl⟩
  | int => exact ⟨_, rfl, pe_int⟩
  | str => exact ⟨_, rfl, pe_str⟩
inductive AtKV : List (Option Expr) → List Expr → List (Key × D) → Prop
  | nil : AtKV [] [] []
  | cons {k : Expr} {v : Expr} {ks : List (Option Expr)} {vs : List Expr} {key : Key} {d : D} {r : List (Key × D)} : AtE k (keyD key) → AtE v d → AtKV ks vs r → AtKV (some k :: ks) (v :: vs) ((key, d) :: r)
theorem AtKV.pps {ks : List (Option Expr)} {vs : List Expr} {r : List (Key × D)} (h : AtKV ks vs r) : ∃ (es : List (Key × V)) (trs : List (TE × TE)), es.map (·.1) = r.map (·.1) ∧ (∀ (K : PySem.W.Frag) M H, DnL K M H (r.map (·.2)) (es.map (·.2))) ∧ PPs X pos ks vs trs ∧
    (∀ (σ : St) (H : Hp) (Q : List (V × V) → Hp → Prop), Q (es.map fun p => (kV p.1, p.2)) H → tPairs trs σ H Q) ∧ ks.all (·.isSome) = true ∧ ks.length = vs.length ∧ ks.length = r.length := by
  induction h with
  | nil => exact ⟨[], [], rfl, fun _ _ _ => .nil, pps_nil, fun _ _ _ q => q, rfl, rfl, rfl⟩
  | @cons k v ks vs key d r hk hv _ ih =>
    obtain ⟨es, trs, e1, e2, e3, e4, e5, e6, e7⟩ := ih
    obtain ⟨vk, a1, p1⟩ := hk.pe (X := X)
    obtain ⟨vv, a2, p2⟩ := hv.pe (X := X)
    have ek : vk = kV key := by
      cases key <;> (simp only [keyD, atomV] at a1; cases a1; rfl)
    subst ek
    exact ⟨(key, vv) :: es, (tC (kV key), tC vv) :: trs, by simp [e1], fun K M H => .cons (atom_dn a2 M H true) (e2 K M H), pps_cons p1 p2 e3, fun σ H Q q => e4 σ H _ q, by simp [e5], by simp [e6], by simp [e7]⟩
theorem mergeK_nodup : ∀ (more kvs : List (Key × V)), ((kvs ++ more).map (·.1)).Nodup → mergeK kvs more = kvs ++ more
  | [], kvs, _ => by simp [mergeK]
  | p :: r, kvs, h => by
    have hn : valV kvs p.1 = none := by
      cases q : valV kvs p.1 with
      | none => rfl
      | some w =>
        have m := valV_in q
        rw [List.map_append, List.nodup_append] at h
        exact absurd rfl (h.2.2 _ m p.1 (by simp))
    show mergeK (putK kvs p.1 p.2) r = _
    rw [putK_new p.2 hn, mergeK_nodup r (kvs ++ [(p.1, p.2)]) (by simpa using h)]
    simp
theorem sf_dct {ks : List (Option Expr)} {vs : List Expr} {r : List (Key × D)} (h : AtKV ks vs r) (nd : (r.map (·.1)).Nodup) (few : r.length ≤ 15) : PE X (.Dict ks vs pos) (tF X.K W (ev P (.dct r))) := by
  obtain ⟨es, trs, e1, e2, e3, e4, e5, e6, e7⟩ := h.pps (X := X) (pos := pos)
  have fin : ∀ (σ : St) (H : Hp) (Q : VK), tF X.K W (ev P (.dct r)) σ H Q → ∀ p, H p = none → Q (.ref p) (upd H p (.dK es)) := fun σ H Q h p hp => by
    obtain ⟨G, S, o, q⟩ := h
    rw [ev] at q
    refine PostF.laid o (Stp.refl _ _ _ _) q hp (.inl ⟨es, upd_same, ?_, ?_⟩)
    · rw [List.map_map]
      show r.map (fun p => keyD p.1) = _
      have : r.map (fun p => keyD p.1) = (r.map (·.1)).map keyD := by rw [List.map_map]; rfl
      rw [this, ← e1, List.map_map]
      rfl
    · rw [List.map_map]
      exact e2 _ _ _
  by_cases h0 : ks = []
  · subst h0
    have : r = [] := by
      cases r with
      | nil => rfl
      | cons a r => simp at e7
    subst this
    have : vs = [] := by
      cases vs with
      | nil => rfl
      | cons a r => simp at e6
    subst this
    have : es = [] := by
      cases es with
      | nil => rfl
      | cons a r => simp at e1
    subst this
    exact pe_dnewK.imp fun σ H Q h p hp => fin σ H Q h p hp
  · refine (pe_disp e3 e5 e6 h0 (by rw [e7]; exact few)).imp fun σ H Q h p hp => ?_
    refine e4 σ _ _ ⟨upd_same, es, rfl, by rw [← List.length_map (f := (·.1)), e1, List.length_map]; exact few, ?_⟩
    rw [upd_upd, mergeK_nodup es [] (by simpa [e1] using nd)]
    exact fin σ H Q h p hp
theorem dat_dct {r : List (Key × D)} : ∀ S x S', ev P (.dct r) S = .ok x S' → ∃ d, x = .d d ∧ isC d = true := fun S x S' h => by
  rw [ev] at h
  cases h
  exact ⟨_, rfl, rfl⟩
theorem se_dct {ks : List (Option Expr)} {vs : List Expr} {r : List (Key × D)} (h : AtKV ks vs r) (nd : (r.map (·.1)).Nodup) (few : r.length ≤ 15) : PE X (.Dict ks vs pos) (tE X.K W (ev P (.dct r))) := (sf_dct h nd few).imp fun σ H Q h => tF_of dat_dct h
end
end EV
end
section
set_option Elab.async false
set_option linter.all false
set_option maxRecDepth 100000
set_option maxHeartbeats 4000000
set_option autoImplicit true
/-! EvT: how many unlike texts a list has (its set's length); the kit has this for one text at most -/
namespace EvSet
open PySem PySem.Spec PyProof.Rows
abbrev cnt := EV.cntS
theorem cnt_le (xs : List Str) : ∀ i, cnt xs i ≤ i
  | 0 => Nat.le_refl _
  | i + 1 => by
    have := cnt_le xs i
    unfold cnt EV.cntS
    split <;> (unfold cnt at this; omega)
def seen (xs : List Str) (i : Nat) : Str → Bool := fun t => (xs.take i).any (· == t)
theorem seen_next {xs : List Str} {i : Nat} (h : i < xs.length) (t : Str) : (seen xs i t || decide (t = xs.getD i Str.empty)) = seen xs (i + 1) t := by
  unfold seen
  rw [List.take_add_one, List.getElem?_eq_getElem h, List.any_append]
  have e : xs.getD i Str.empty = xs[i] := by rw [List.getD_eq_getElem?_getD, List.getElem?_eq_getElem h]; rfl
  rw [e]
  congr 1
  show _ = ([xs[i]].any fun y => y == t)
  rw [List.any_cons, List.any_nil, Bool.or_false]
  by_cases q : t = xs[i]
  · rw [decide_eq_true q, q, beq_self_eq_true]
  · rw [decide_eq_false q]
    exact (beq_eq_false_iff_ne.mpr fun z => q z.symm).symm
section
variable {prog : Program} {w : World} {A : Around} {R : Result → Shared → Prop} {It : Addr} {fp wr : List Addr} {G : Array GenState → Array GenState → Prop} {n : Nat} {P : Nat → Value → Prop} {St : Nat → Shared → Prop}
theorem go (W : WalksS prog w A.in1 It fp wr G n P St) (S : Addr) (far : S ∉ fp) (xs : List Str) (size : xs.length = n) (room : n + 1 < scanBound) (text : ∀ i v, P i v → ∃ t, v = .str (xs.getD i Str.empty) t) (left : Nat) :
    ∀ (i : Nat) (s : Shared), n - i = left → i ≤ n → St i s → s.heap.SetOf (PySem.strKind prog w) S (seen xs i) (cnt xs i) →
      (∀ s', Moved (S :: wr) G s s' → s'.heap.SetOf (PySem.strKind prog w) S (seen xs n) (cnt xs n) → R (.ok (.ret .none)) s') → codeAny (model prog w) A (.builtin "set.update.loop" ⟨[.ref S, .ref It], []⟩) R s := by
  have off : S ∉ wr := fun z => far (W.sub _ z)
  have more : ∀ b ∈ wr, b ∈ S :: wr := fun b z => List.mem_cons_of_mem _ z
  induction left with
  | zero =>
    intro i s hk hi st hS fin
    obtain rfl : i = n := by omega
    refine codeAny_builtin PyProof.Rows.F.entry_set_update_loop ?_
    rw [Around.under_plainId PyProof.Rows.F.plain_set_update_loop _]
    refine wpAny_bind (m := pyNext (.ref It)) (W.done s _ _ st fun s1 mv => wpAny_pure (fin s1 (mv.mono more) ?_))
    obtain ⟨o, es, ep, t, ho, rest⟩ := hS
    exact ⟨o, es, ep, t, mv.heap S _ off ho, rest⟩
  | succ left ih =>
    intro i s hk hi st hS fin
    have hlt : i < n := by omega
    refine codeAny_builtin PyProof.Rows.F.entry_set_update_loop ?_
    rw [Around.under_plainId PyProof.Rows.F.plain_set_update_loop _]
    refine wpAny_bind (m := pyNext (.ref It)) (W.item i s _ _ hlt st fun v s1 hP st1 mv => ?_)
    obtain ⟨t, rfl⟩ := text i v hP
    have hS1 : s1.heap.SetOf (PySem.strKind prog w) S (seen xs i) (cnt xs i) := by
      obtain ⟨o, es, ep, tb, ho, rest⟩ := hS
      exact ⟨o, es, ep, tb, mv.heap S _ off ho, rest⟩
    have small := cnt_le xs i
    refine wpAny_bind (m := holding [Value.str (xs.getD i Str.empty) t] (setAdd S (.str (xs.getD i Str.empty) t))) (wpAny_holding ?_)
    unfold setAdd
    refine wpAny_holding (wpAny_bind ((PySem.strKind prog w).pyHash (k := xs.getD i Str.empty) (strKind_is _ _ _ _) ?_))
    refine wpAny_setAddHashed_of (knd := PySem.strKind prog w) (s := { s1 with toks := s1.toks + 1 }) (strKind_is _ _ _ _) rfl hS1 (by omega) fun h2 same hS2 => wpAny_pure ⟨plainId_quiet PyProof.Rows.F.plain_set_update_loop _, ?_⟩
    have hS3 : h2.SetOf (PySem.strKind prog w) S (seen xs (i + 1)) (cnt xs (i + 1)) := PyProof.Rows.SetOf_congr hS2 (fun k => seen_next (by omega) k) rfl
    refine ih (i + 1) _ (by omega) hlt (W.frame _ s1 _ _ st1 (Nat.le_succ _) fun b hb o e => ?_) hS3 fun s3 mv3 hS4 => fin s3 (Moved.trans W.gtrans ((mv.mono more).then_heap (Nat.le_succ _) fun b o hb e => ?_) mv3) hS4
    · rw [same.2 b fun z => far (by rw [← z]; exact hb)]
      exact e
    · rw [same.2 b fun z => hb (by rw [z]; exact List.mem_cons_self)]
      exact e
end
theorem strs_get : ∀ {us : List Value} {xs : List Str}, StrsAre us xs → ∀ (i : Nat) (v : Value), us[i]? = some v → ∃ t, v = .str (xs.getD i Str.empty) t
  | _, _, .nil, i, v, e => by simp at e
  | _, _, .cons x t r, 0, v, e => by
    simp only [List.getElem?_cons_zero, Option.some.injEq] at e
    exact ⟨t, e.symm⟩
  | _, _, .cons x t r, i + 1, v, e => by
    rw [List.getElem?_cons_succ] at e
    obtain ⟨u, q⟩ := strs_get r i v e
    exact ⟨u, q⟩
def noneYet (led : Bool) : Obj := { cls := .type "set", dict := none, data := .set #[] 0 (.fresh 0 0 led) }
/-- set(xs), xs a list of texts: told is the number of unlike ones -/
theorem of_list {prog : Program} {w : World} {A : Around} {E : Value → Shared → Prop} {s : Shared} {l : Addr} {its : Array Value} {xs : List Str} {Q : Value → Shared → Prop} (calm : A.handled = none) (lst : s.heap.IsList l its) (are : StrsAre its.toList xs) (room : xs.length + 1 < scanBound)
    (fin : ∀ (h' : Heap) (tk : Nat), h'.SetOf (PySem.strKind prog w) s.heap.objs.size (seen xs xs.length) (cnt xs xs.length) → (∀ b o, b < s.heap.objs.size → s.heap.get? b = some o → h'.get? b = some o) → Q (.ref s.heap.objs.size) { s with heap := h', toks := tk }) :
    wpAny (model prog w) A (call (.type "set") [.ref l]) Q E s := by
  have size : xs.length = its.size := by rw [← StrsAre.len_eq are, Array.length_toList]
  obtain ⟨c, tl, mro⟩ := PySem.F.called_set.mro
  have made := PySem.F.called_set.made
  have sub := PySem.F.called_set.sub
  have nt := PySem.F.called_set.notType
  have cc := PySem.F.called_set.canCreate
  have tc := PySem.F.typeCall_set_1 (.ref l)
  refine wpAny_call (codeAny_of_tree (show wpAny _ _ (callAny (.type "set") _) _ _ _ from wpAny_pure ⟨Code.quiet_builtin _ (by decide +kernel), codeAny_builtin PySem.F.entry_type_call ?_⟩))
  rw [Around.under_plain (weight_type_call_type "set" [.ref l] []) rfl]
  repeat (any_goals (first | assumption | wp_step))
  refine codeAny_mono (code_set_new_1 (.ref l) (E := E) (Q₁ := fun u s1 => ∃ led : Bool, u = .ref s.heap.objs.size ∧ s1 = { s with heap := s.heap.push (noneYet led) }) fun led => ⟨led, rfl, rfl⟩) fun r s1 hr => ?_
  match r, hr with
  | .error e, hr => exact hr
  | .ok .next, hr => exact hr.elim
  | .ok .brk, hr => exact hr.elim
  | .ok .cont, hr => exact hr.elim
  | .ok (.ret u), hr =>
    obtain ⟨led, rfl, rfl⟩ := hr
    have at0 : (s.heap.push (noneYet led)).get? s.heap.objs.size = some (noneYet led) := Heap.get?_push_size _ rfl
    have ty : Shared.TypeIs { s with heap := s.heap.push (noneYet led) } (.ref s.heap.objs.size) "set" := ⟨_, at0, rfl⟩
    have il := PySem.F.called_set.init.lookup
    have ib := PySem.F.called_set.init.bind (.ref s.heap.objs.size)
    repeat (any_goals (first | assumption | wp_step))
    refine codeAny_mono (codeAny_call_builtin (R := wants (fun r s2 => r = .none ∧ ∃ h' tk, s2 = { s with heap := h', toks := tk } ∧ h'.SetOf (PySem.strKind prog w) s.heap.objs.size (seen xs xs.length) (cnt xs xs.length) ∧ (∀ b o, b < s.heap.objs.size → s.heap.get? b = some o → h'.get? b = some o)) E)
      PySem.F.called_set.init.plain PySem.F.entry_set_init (check_set_init_1 ty ?_)) fun r2 s2 hr2 => ?_
    · obtain ⟨⟨oc, od, odt, osl⟩, hol, hc, nl, hd⟩ := lst
      simp only at hc hd
      subst hc hd
      have at1 : (s.heap.push (noneYet led)).get? l = some { cls := .type "list", dict := od, data := .seq its nl, slots := osl } := Heap.get?_push_of_some _ hol
      have l1 : (s.heap.push (noneYet led)).IsList l its := ⟨_, at1, rfl, nl, rfl⟩
      have k1 := PySem.F.sub_list_set
      have k2 := PySem.F.sub_list_frozenset
      have k3 : (Value.type "list" == Value.type "dict") = false := by decide
      unfold Builtin.«set.__init__» noKeywords Builtin.Frozenset.updateFrom
      generalize hy : pyIter = yy
      wp_walk
      subst hy
      refine wpAny_pyIter_list l1 (wpAny_bind (wpAny_runValue ?_))
      have low : l < s.heap.objs.size := Heap.lt_size hol
      have sz : (s.heap.push (noneYet led)).objs.size = s.heap.objs.size + 1 := Heap.size_push _ _
      have ne : l ≠ (s.heap.push (noneYet led)).objs.size := by rw [sz]; exact Nat.ne_of_lt (Nat.lt_succ_of_lt low)
      have far : s.heap.objs.size ∉ [(s.heap.push (noneYet led)).objs.size, l] := by
        rw [sz]
        simp only [List.mem_cons, List.not_mem_nil, or_false, not_or]
        exact ⟨Nat.ne_of_lt (Nat.lt_succ_self _), Nat.ne_of_gt low⟩
      refine go ((Walks.list (show A.in1.in1.in1.handled = none by simp [calm]) _ l ne its).toS) s.heap.objs.size far xs size (by omega) (fun i v e => strs_get are i v (by rw [Array.getElem?_toList]; exact e)) (its.size - 0) 0 _ (by omega) (Nat.zero_le _)
        ⟨⟨_, Heap.get?_push_size _ rfl, rfl, rfl⟩, l1.push _⟩ ?_ ?_
      · exact PyProof.Rows.SetOf_congr ((PyProof.Rows.setObjOf_fresh (knd := PySem.strKind prog w) led).setOf (Heap.get?_push_of_some _ at0) (by unfold scanBound; omega)) (fun _ => rfl) rfl
      · rintro ⟨h', g', d', tk', os'⟩ mv hS
        obtain rfl : g' = s.gens := mv.gens
        obtain rfl : d' = s.drawn := mv.drawn
        obtain rfl : os' = s.os := mv.os
        rw [← size] at hS
        refine wpAny_pure (wpAny_pure ⟨rfl, h', tk', rfl, hS, fun b o hb e => mv.heap b o ?_ (Heap.get?_push_of_some _ (Heap.get?_push_of_some _ e))⟩)
        rw [sz]
        simp only [List.mem_cons, List.not_mem_nil, or_false, not_or]
        exact ⟨Nat.ne_of_lt hb, Nat.ne_of_lt (Nat.lt_succ_of_lt hb)⟩
    · match r2, hr2 with
      | .error e, hr2 => exact hr2
      | .ok .next, hr2 => exact hr2.elim
      | .ok .brk, hr2 => exact hr2.elim
      | .ok .cont, hr2 => exact hr2.elim
      | .ok (.ret r), hr2 =>
        obtain ⟨rfl, h', tk, rfl, hS, hk⟩ := hr2
        repeat (any_goals (first | assumption | wp_step))
        exact fin _ _ hS hk
end EvSet
end
section
set_option Elab.async false
set_option linter.all false
set_option maxRecDepth 100000
set_option maxHeartbeats 4000000
set_option autoImplicit false
/-! EvU: more operations: sorted, len(set(..)), tuple(..), extend -/
namespace EV
open PySem L2
section
variable {X : Cx}
/-! ### sorted -/
def RD (K : PySem.W.Frag) (M : Addr → Prop) (H : Hp) (u : Value) (d : D) : Prop := ∃ v, RelV v u ∧ Dn K M H true d v
theorem each_of {K : PySem.W.Frag} {M : Addr → Prop} {H : Hp} : ∀ {ds : List D} {vs : List V} {us : List Value}, DnL K M H ds vs → Vals vs us → PySem.W.EachIs (RD K M H) us ds
  | _, _, _, .nil, .nil => .nil
  | _, _, _, .cons a r, .cons b t => .cons ⟨_, b, a⟩ (each_of r t)
theorem each_to {K : PySem.W.Frag} {M : Addr → Prop} {H : Hp} : ∀ {us : List Value} {ds : List D}, PySem.W.EachIs (RD K M H) us ds → ∃ vs, DnL K M H ds vs ∧ Vals vs us
  | _, _, .nil => ⟨[], .nil, .nil⟩
  | _, _, .cons ⟨v, b, a⟩ t => by
    obtain ⟨vs, h1, h2⟩ := each_to t
    exact ⟨v :: vs, .cons a h1, .cons b h2⟩
theorem each_reads {pins : List (Addr × Obj)} {σ : St} {H : Hp} {s : Shared} {M : Addr → Prop} (I : Inv X pins σ H s) : ∀ {ds : List D} {vs : List V} {us : List Value}, DnL X.K M H ds vs → Vals vs us → ds.all plainD = true → PySem.W.EachIs (fun v d => ∃ as, Reads s.heap v (id d) as) us ds
  | _, _, _, .nil, .nil, _ => .nil
  | _, _, _, .cons a r, .cons b t, p => by
    rw [List.all_cons, Bool.and_eq_true] at p
    have p1 := p.1
    simp only [plainD, Bool.and_eq_true] at p1
    exact .cons (Dn.reads I _ _ _ _ a b p1.1) (each_reads I r t p.2)
theorem o_sorted (hc : X.calm = true) (hu : X.A.units + 200 < cLine) : CallP X (.builtin "sorted") true fSorted := by
  intro pins s σ H xs us Q I r h
  obtain ⟨M, ds, d, tr, hd, hg, q⟩ := h
  unfold fSorted at hg
  split at hg
  · rename_i ys
    split at hg
    · rename_i hok
      cases hg
      cases hd with
      | cons ha r2 =>
        cases r2
        obtain ⟨u1, rfl, r1⟩ := vals1 r
        obtain ⟨p, vs, rfl, hs, l⟩ := ha.sql
        cases r1
        simp only [sortOk, Bool.and_eq_true, Bool.or_eq_true, decide_eq_true_eq] at hok
        obtain ⟨⟨⟨hal, hk⟩, hp⟩, hl⟩ := hok
        obtain ⟨its, rv, pl, hz⟩ := I.list hs
        have alikes : PySem.W.AllAlike (ys.map id) := fun a ma b mb => by
          rw [List.map_id] at ma mb
          exact List.all_eq_true.mp (List.all_eq_true.mp hal a ma) b mb
        have sortable : PySem.W.Sortable (ys.map id) := by
          rw [List.map_id]
          rcases hk with hk | hk
          · refine .inl fun a ma => ?_
            have h := List.all_eq_true.mp hk a ma
            cases a with
            | tuple zs =>
              cases zs with
              | nil => cases h
              | cons z zs => exact ⟨z, zs, rfl⟩
            | _ => cases h
          · refine .inr fun a ma => ?_
            have h := List.all_eq_true.mp hk a ma
            refine ⟨fun z => ?_, fun zs z => ?_⟩
            · rw [z] at h; cases h
            · rw [z] at h; cases h
        refine PySem.W.sorted_data (R := RD X.K M H) (enc := id) pl.isList (each_of l rv) (each_reads I l rv hp) alikes sortable (Nat.le_trans hl (by decide)) (fun b hb => ?_) fun out ho eo => ?_
        · have h := List.all_eq_true.mp hp b hb
          simp only [plainD, Bool.and_eq_true, decide_eq_true_eq] at h
          show X.A.units + 2 + b.depth < cLine
          omega
        · obtain ⟨ws, dl, rw'⟩ := each_to eo
          obtain ⟨ep, he⟩ := PyProof.Rows.sortedAll_at s.heap its out.toArray
          have free : H (s.heap.objs.size + 1) = none := I.hok.fresh (Nat.le_succ _)
          have len : ws.length ≤ sizeLine := by
            rw [rw'.length, ho]
            exact Nat.le_trans hl (by decide)
          exact ⟨.ref _, upd H (s.heap.objs.size + 1) (.lst ws), I.laid (t' := s.toks) (fun _ _ => PyProof.Rows.sortedAll_old) (Nat.le_succ _) ⟨len, out, ep, rw', he⟩, rfl,
            q _ _ (Same.upd free) (newL tr free dl) fun _ a e => by cases e; exact ⟨fun _ => free, fun zs e => by cases e; exact ⟨_, rfl, dl⟩⟩⟩
    · cases hg
  · cases hg
/-! ### tuple(list) -/
theorem o_ofTuple : CallP X (.type "tuple") false fOfTuple := by
  intro pins s σ H xs us Q I r h
  obtain ⟨M, ds, d, tr, hd, hg, q⟩ := h
  unfold fOfTuple at hg
  split at hg
  · cases hg
    cases hd with
    | cons ha r2 =>
      cases r2
      obtain ⟨p, vs, rfl, h1, l1⟩ := ha.sql
      exact call_tuple_of pins s σ H _ us Q I r ⟨_, _, rfl, .inl ⟨h1, fun l hl => q _ _ (Same.upd hl) (newT tr hl l1) fun z => nomatch z⟩⟩
  · cases hg
/-! ### len(set(xs)) -/
theorem strs_val {K : PySem.W.Frag} {M : Addr → Prop} {H : Hp} : ∀ {ds : List D} {xs : List Str} {vs : List V} {us : List Value}, strs? ds = some xs → DnL K M H ds vs → Vals vs us → PyProof.Rows.StrsAre us xs
  | [], _, _, _, e, .nil, .nil => by cases e; exact .nil
  | d :: ds, xs, _, _, e, .cons a r, .cons b t => by
    cases d with
    | str x =>
      unfold strs? at e
      cases e2 : strs? ds with
      | none => rw [e2] at e; cases e
      | some ys =>
        rw [e2] at e
        cases e
        cases a
        obtain ⟨k, rfl⟩ := b
        exact .cons x k (strs_val e2 r t)
    | _ => cases e
end
section
open PySem.Spec PyProof.Rows
variable {X : Cx} {W : WX} {P : Env} {pos : Pos}
theorem bt_set : bootBuiltins "set" = some (.type "set") := by decide +kernel
theorem se_setlen {p p2 q : Pos} {e : Expr} {a : C} (hc : X.calm = true) (hg : Gl X "len") (hm : X.mg "len" = none) (hg2 : Gl X "set") (hm2 : X.mg "set" = none) (ha : PE X e (tE X.K W (ev P a))) (na : starEach [e] X.env = (false, eval e X.env) :: starEach [] X.env) :
    PE X (.Call (.Name "len" p) [.Call (.Name "set" p2) [e] [] q] [] pos) (tE X.K W (ev P (.op .setlen (.cons a .nil)))) := by
  refine ⟨fun pins s σ H Q I h => ?_⟩
  rw [op_ev] at h
  have h2 := one_read (k := fun v H1 => rP X.K true fSetlen [v] H1 Q) h fun G S x v H1 o1 vs p => rP_of (fr := true) (g := fSetlen) o1 vs p
  refine Call_ (ld_blt I hg hm PySem.boot_len (PyProof.Rows.callWith_builtin1 (PyProof.Rows.args_cons ?_ rfl) rfl rfl))
  refine Call_ (ld_blt I hg2 hm2 bt_set (PyProof.Rows.callWith_type1 (PyProof.Rows.args_cons (thn (ha.run pins s σ H _ I h2) fun u s1 ⟨v, H1, I1, r1, q1⟩ => PyProof.Rows.args_nil ?_) na) na rfl))
  obtain ⟨M, ds, d, tr, hd, hf, q1⟩ := q1
  unfold fSetlen at hf
  split at hf
  · rename_i ys
    cases es : strs? ys with
    | none => rw [es] at hf; cases hf
    | some xs =>
      rw [es] at hf
      dsimp only at hf
      split at hf
      · rename_i few
        cases hf
        cases hd with
        | cons hy r2 =>
          cases r2
          obtain ⟨b, vs, rfl, hs, l⟩ := hy.sql
          cases r1
          obtain ⟨its, rv, pl, hz⟩ := I1.list hs
          refine EvSet.of_list (I1.ok.hd hc) pl.isList (by simpa using strs_val es l rv) (by unfold scanBound; omega) fun h' tk hS keep => PyProof.Rows.args_nil ?_
          have I2 : Inv X pins σ H1 { s1 with heap := h', toks := tk } := I1.kept fun b o e => keep b o (Heap.lt_size e) e
          obtain ⟨o, es', ep, t, ho, hex, hd', _, _, _, hf', hn⟩ := hS
          have c1 := EvSet.cnt_le xs xs.length
          refine call_len_set ho hex hd' hf' (by rw [hn]; omega) ⟨.int (cntS xs xs.length), H1, I2.tok _, ⟨_, by rw [hn]⟩, q1 _ _ (Same.refl _) (.int _) fun _ a e => nomatch e⟩
      · cases hf
  · cases hf
end
end EV
end
section
set_option Elab.async false
set_option linter.all false
set_option maxRecDepth 100000
set_option maxHeartbeats 4000000
set_option autoImplicit false
/-! EvV: new things that are shared; a list made longer by a new one -/
namespace EV
open PySem L2
section
variable {X : Cx} {W : WX} {P : Env} {pos : Pos}
theorem share_ev {a : C} {S : Ste} : ev P (.share a) S = (ev P a S).bind fun x s => match x with
    | .d x => if isC x then .ok (.r s.hp.length) { s with hp := s.hp ++ [x] } else .stuck
    | _ => .stuck := by rw [ev] <;> rfl
/-- the step to a shared thing -/
theorem share_fin {K : PySem.W.Frag} {G G' : Gh} {S S' : Ste} {σ : St} {H H' : Hp} {p : Addr} {d : D} {Q : VK} (o0 : Ok K G S σ H) (o : Ok K (G'.plus p) S' σ H') (st : Stp G S σ H G' S' σ H') (n : H p = none) (c : Cont K (MM (G'.plus p) S'.rho σ) H' p d)
    (q : Post K W (RV K) G S σ H Q (.ok (.r S'.hp.length) { S' with hp := S'.hp ++ [d] })) : Q (.ref p) H' := by
  have nA : ¬ G'.A p := fun z => by
    rw [st.A] at z
    obtain ⟨u, hu⟩ := o0.tr p z
    rw [n] at hu
    cases hu
  obtain ⟨o3, mm⟩ := o.share nA c
  refine q _ _ _ o3 ⟨?_, st.A, ?_, st.anon, st.lck, st.tr⟩ ⟨p, ?_, rfl⟩
  · obtain ⟨l, e⟩ := st.io
    exact ⟨l ++ [p], by show G'.io ++ [p] = _; rw [e, List.append_assoc]⟩
  · show Keeps _ _ (MM { io := G'.io ++ [p], A := G'.A } S'.rho σ) _
    rw [mm]
    intro b u hb nb
    obtain ⟨h1, h2⟩ := st.mono b u hb nb
    refine ⟨h1, fun z => ?_⟩
    rcases z with z | z | z | z
    · exact h2 (.inl z)
    · exact h2 (.inr (.inl z))
    · rw [z, n] at hb; cases hb
    · exact h2 (.inr (.inr z))
  · show (G'.io ++ [p])[S'.hp.length]? = _
    have hl : G'.io.length = S'.hp.length := o.hlen
    rw [← hl]
    simp
theorem se_share {e : Expr} {a : C} (ha : PE X e (tF X.K W (ev P a))) : PE X e (tE X.K W (ev P (.share a))) := ha.imp fun σ H Q h => by
  obtain ⟨G, S, o, p⟩ := h
  rw [share_ev] at p
  refine ⟨G, S, o, ?_⟩
  cases ea : ev P a S with
  | er c S' => rw [ea] at p; exact p
  | stuck => rw [ea] at p; exact p
  | ok x S' =>
    rw [ea] at p
    cases x with
    | r n => exact p.elim
    | pk n => exact p.elim
    | d d =>
      simp only [Res.bind] at p
      split at p
      · rename_i hc
        exact ⟨hc, fun G' q H' o' st n c => share_fin o o' st n c p⟩
      · exact p.elim
theorem extF_ev {i : Nat} {a : C} {S : Ste} : ev P (.extF i a) S = if cellOk .ext (S.cell i) then (ev P a S).bind fun x s => match x, s.cell i with
      | .d (.list ys), some (.list xs, f) => if xs.length + ys.length < lim then .ok (.d .none) (f (.list (xs ++ ys))) else .stuck
      | _, _ => .stuck
    else .stuck := by rw [ev] <;> rfl
theorem Ok.drop' {K : PySem.W.Frag} {G : Gh} {S : Ste} {σ : St} {H : Hp} {p : Addr} (o : Ok K (G.plus p) S σ H) : Ok K G S σ H := o.drop
theorem se_extF {x : Str} {apos npos : Pos} {i : Nat} {e : Expr} {a : C} (hN : X.N[i]? = some x) (hv : Vis X.env.scope x) (hd : (x == ("__debug__" : Str)) = false) (hcd : (x == ("__classdict__" : Str)) = false) (ha : PE X e (tF X.K W (ev P a)))
    (hfew : ((backTo pos (starEach [e] X.env)).all (fun x => !x.1) && (backToKw pos (keywordEach [] X.env)).all (fun x => x.1.isSome) && decide ([e].length + ([] : List Keyword).length + (if ([] : List Keyword).isEmpty then 0 else 1) < 30)) = true)
    (hline : (apos.endLine == pos.line) = true) (hs : starEach [e] X.env = (false, eval e X.env) :: starEach [] X.env) :
    PE X (.Call (.Attribute (.Name x npos) "extend" apos) [e] [] pos) (tE X.K W (ev P (.extF i a))) := (pe_bm PySem.F.plainAttrs_list PySem.F.slot_list_extend PySem.F.type_list_extend mt_extend (pe_var hN hv hd hcd) (pa_cons ha pa_nil hs) rfl hfew hline hs rfl).imp fun σ H Q h => by
  obtain ⟨G, S, o, p⟩ := h
  rw [extF_ev] at p
  split at p
  case isFalse => exact p.elim
  rename_i hc
  obtain ⟨b, eb, ty⟩ := mut_at (m := .ext) o hc
  refine ⟨_, eb, ty, G, S, o, ?_⟩
  cases ea : ev P a S with
  | er c S' => rw [ea] at p; exact p
  | stuck => rw [ea] at p; exact p
  | ok y S' =>
    rw [ea] at p
    cases y with
    | r n => exact p.elim
    | pk n => exact p.elim
    | d d =>
      simp only [Res.bind] at p
      cases ec : S'.cell i with
      | none =>
        rw [ec] at p
        cases d <;> exact p.elim
      | some w =>
        obtain ⟨z, f⟩ := w
        rw [ec] at p
        cases d with
        | list ys =>
          cases z with
          | list xs =>
            dsimp only at p
            split at p
            · rename_i hl
              refine ⟨rfl, fun G' q H' o' st n c => ?_⟩
              have nA : ¬ G'.A q := fun z => by
                rw [st.A] at z
                obtain ⟨u, hu⟩ := o.tr q z
                rw [n] at hu
                cases hu
              have o2 := o'.drop
              obtain ⟨b', eb', m, cb, step⟩ := o2.wr ec
              rw [eb] at eb'
              cases eb'
              obtain ⟨us, e1, l1⟩ := cb
              obtain ⟨ws, e2, l2⟩ := c
              have l2' : DnL X.K (MM G' S'.rho σ) H' ys ws := DnL.anti MM.less _ _ l2
              obtain ⟨o3, st3, mm⟩ := step (.lst (us ++ ws)) (.list (xs ++ ys)) ⟨_, upd_same, DnL.mono (Keeps.at m) _ _ (l1.append l2')⟩
              exact ⟨b, q, us, ws, rfl, rfl, e1, e2, by rw [← l1.length, ← l2.length]; exact Nat.le_trans (Nat.le_of_lt hl) (le_size (Nat.le_refl _)), p G' .non _ o3 (st.trans st3) .non⟩
            · exact p.elim
          | _ => exact p.elim
        | _ => exact p.elim
theorem sf_bi {id : String} {x : Str} {p : Pos} {e : Expr} {es : List Expr} {o : Op} {as : Cs} (hc : CallP X (.builtin id) true o.fn) (lk : ∀ ds d, o.fn ds = some d → isC d = true → ∃ ys, d = .list ys) (hg : Gl X x) (hm : X.mg x = none) (hv : bootBuiltins x = some (.builtin id)) (ha : PA X (e :: es) (tA X.K W (evs P as))) (hn : x ≠ "__name__") (hdb : (x == ("__debug__" : Str)) = false)
    (he : starEach (e :: es) X.env = (false, eval e X.env) :: starEach es X.env) (hpl : (backTo pos (starEach es X.env)).any (·.1) = false) : PE X (.Call (.Name x p) (e :: es) [] pos) (tF X.K W (ev P (.op o as))) := (pe_callB hc hg hm hv ha hn hdb he hpl).imp fun σ H Q h => by
  rw [op_ev] at h
  obtain ⟨G, S, o1, p1⟩ := h
  exact ⟨G, S, o1, PostF.seq p1 (fun G2 S2 xs vs H2 o2 st2 r2 p2 => PostF.op o2 st2 r2 lk p2) fun _ _ _ => trivial⟩
theorem lk_sorted : ∀ ds d, fSorted ds = some d → isC d = true → ∃ ys, d = .list ys := fun ds d h c => by
  unfold fSorted at h
  split at h
  · split at h
    · cases h; exact ⟨_, rfl⟩
    · cases h
  · cases h
/-! ### xs[::-1] -/
theorem lk_rev : ∀ ds d, fRev ds = some d → isC d = true → ∃ ys, d = .list ys := fun ds d h c => by
  unfold fRev at h
  split at h
  · split at h
    · cases h; exact ⟨_, rfl⟩
    · cases h
  · cases h
theorem rev_fin {Q : VK} {v : V} {H : Hp} (h : rP X.K true fRev [v] H Q) : ∃ l xs, v = .ref l ∧ SqL X.K H l xs ∧ ∀ q, H q = none → Q (.ref q) (upd H q (.lst xs.reverse)) := by
  obtain ⟨M, ds, d, tr, hd, hg, q⟩ := h
  unfold fRev at hg
  split at hg
  · rename_i ys
    split at hg
    · rename_i hl
      cases hg
      cases hd with
      | cons ha r2 =>
        cases r2
        obtain ⟨a, vs, rfl, hs, l⟩ := ha.sql
        exact ⟨a, vs, rfl, hs, fun p hp => q _ _ (Same.upd hp) (newL tr hp l.reverse) fun _ b e => by cases e; exact ⟨fun _ => hp, fun zs e => by cases e; exact ⟨_, rfl, l.reverse⟩⟩⟩
    · cases hg
  · cases hg
theorem se_rev {e : Expr} {a : C} {k : Nat} {p1 p2 p3 : Pos} (ha : PE X e (tE X.K W (ev P a))) : PE X (.Subscript e (.Slice none none (some (.UnaryOp .USub (.Constant (.int 1) k p1) p2)) p3) pos) (tE X.K W (ev P (.op .rev (.cons a .nil)))) := (pe_revL ha).imp fun σ H Q h => by
  rw [op_ev] at h
  exact one_read h fun G S x v H1 o1 vs p => rev_fin (rP_of (fr := true) (g := fRev) o1 vs p)
end
end EV
end
section
set_option Elab.async false
set_option linter.all false
set_option maxRecDepth 100000
set_option maxHeartbeats 4000000
set_option autoImplicit false
/-! EvG: targets, what is walked, comprehensions -/
namespace EV
open PySem L2

section
variable {K : PySem.W.Frag} {W : WX} {G : Gh} {S : Ste} {σ : St} {H H' : Hp}
/-- a slot is stored -/
theorem Ok.asg (o : Ok K G S σ H) {i : Nat} {x : Vl} {v : V} (hi : i < S.rho.length) (nl : ∀ y, S.rho[i]? ≠ some (.lck y)) (sd : SD K G.io (MM G S.rho σ) H x v) :
    Ok K G { S with rho := S.rho.set i (.v x) } (σ.set i (some v)) H ∧ Stp G S σ H G { S with rho := S.rho.set i (.v x) } (σ.set i (some v)) H ∧ ∀ b, MM G (S.rho.set i (.v x)) (σ.set i (some v)) b → MM G S.rho σ b := by
  have hσ : i < σ.length := by rw [← o.len]; exact hi
  have ne : ∀ j y, ((S.rho.set i (.v x))[j]? = some (.own y) ∨ (S.rho.set i (.v x))[j]? = some (.lck y)) → j ≠ i ∧ (S.rho[j]? = some (.own y) ∨ S.rho[j]? = some (.lck y)) := fun j y h => by
    by_cases hj : j = i
    · subst hj
      rw [List.getElem?_set_self hi] at h
      rcases h with h | h <;> cases h
    · rw [List.getElem?_set_ne (Ne.symm hj)] at h
      exact ⟨hj, h⟩
  have own : ∀ j b, OwnAt (S.rho.set i (.v x)) (σ.set i (some v)) j b → j ≠ i ∧ OwnAt S.rho σ j b := fun j b ⟨⟨y, h⟩, h2⟩ => by
    obtain ⟨hj, h'⟩ := ne j y h
    rw [List.getElem?_set_ne (Ne.symm hj)] at h2
    exact ⟨hj, ⟨y, h'⟩, h2⟩
  have less : ∀ b, MM G (S.rho.set i (.v x)) (σ.set i (some v)) b → MM G S.rho σ b := fun b h => by
    rcases h with h | ⟨j, h⟩ | h
    · exact .inl h
    · exact .inr (.inl ⟨j, (own j b h).2⟩)
    · exact .inr (.inr h)
  refine ⟨o.less (by simpa using o.len) rfl (fun j b w => ?_) (fun j k b u w => o.inj j k b (own j b u).2 (own k b w).2) less (fun _ h => h) (fun j y h => ?_) (fun j y h => ?_), ⟨⟨[], by simp⟩, rfl, fun a u h n => ⟨h, fun z => n (less a z)⟩, fun _ _ => rfl, fun j y h => ?_, fun _ u h => ⟨u, h⟩⟩, less⟩
  · obtain ⟨⟨y, h⟩, h2⟩ := w
    obtain ⟨hj, h'⟩ := ne j y h
    have w' := (own j b ⟨⟨y, h⟩, h2⟩).2
    obtain ⟨b', e1, _, c⟩ := o.at h'
    rw [w'.2] at e1
    cases e1
    exact ⟨⟨y, h, c⟩, fun m => (o.s1 b m).1 ⟨j, w'⟩, o.s2 b ⟨j, w'⟩⟩
  · by_cases hj : j = i
    · subst hj
      rw [List.getElem?_set_self hi] at h
      cases h
      exact ⟨v, List.getElem?_set_self hσ, sd⟩
    · rw [List.getElem?_set_ne (Ne.symm hj)] at h ⊢
      exact o.val j y h
  · obtain ⟨hj, h'⟩ := ne j y h
    obtain ⟨b, e1, _⟩ := o.at h'
    exact ⟨b, by rw [List.getElem?_set_ne (Ne.symm hj)]; exact e1⟩
  · have hj : j ≠ i := by
      rintro rfl
      exact nl y h
    exact ⟨by show (S.rho.set i (.v x))[j]? = _; rw [List.getElem?_set_ne (Ne.symm hj)]; exact h, List.getElem?_set_ne (Ne.symm hj)⟩
end

/-! ### targets -/
mutual
def slotsT : Tg → List Nat
  | .nm i => [i]
  | .tp ts => slotsTs ts
def slotsTs : List Tg → List Nat
  | [] => []
  | t :: ts => slotsT t ++ slotsTs ts
end
mutual
inductive TgE (X : Cx) : Expr → Tg → Prop
  | nm {x : Str} {pos : Pos} {i : Nat} : X.N[i]? = some x → Loc X.env.scope x → (X.fn x = true ∨ X.env.scope.names.lookup x = some .local) → TgE X (.Name x pos) (.nm i)
  | tp {es : List Expr} {k : Nat} {pos : Pos} {ts : List Tg} : TgEs X es ts → TgE X (.Tuple es k pos) (.tp ts)
inductive TgEs (X : Cx) : List Expr → List Tg → Prop
  | nil : TgEs X [] []
  | cons {e : Expr} {t : Tg} {es : List Expr} {ts : List Tg} : TgE X e t → TgEs X es ts → TgEs X (e :: es) (t :: ts)
end
def tG (K : PySem.W.Frag) (tg : Tg) : TG := fun v σ H Q => ∃ G S x rho, Ok K G S σ H ∧ Dn K (MM G S.rho σ) H true x v ∧ bindT tg x S.rho = some rho ∧
  ∀ σ', Ok K G { S with rho := rho } σ' H → Stp G S σ H G { S with rho := rho } σ' H → (∀ j, j ∉ slotsT tg → σ'[j]? = σ[j]?) → σ'.length = σ.length → (∀ b, MM G rho σ' b → MM G S.rho σ b) → Q σ' H
def tGs (K : PySem.W.Frag) (ts : List Tg) : TGs := fun vs σ H Q => ∃ G S xs rho, Ok K G S σ H ∧ DnL K (MM G S.rho σ) H xs vs ∧ bindTs ts xs S.rho = some rho ∧
  ∀ σ', Ok K G { S with rho := rho } σ' H → Stp G S σ H G { S with rho := rho } σ' H → (∀ j, j ∉ slotsTs ts → σ'[j]? = σ[j]?) → σ'.length = σ.length → (∀ b, MM G rho σ' b → MM G S.rho σ b) → Q σ' H
section
variable {X : Cx}
theorem assign1 {e : Expr} {t : Tg} (h : TgE X e t) (es : List Expr) (env : PySem.Env) : assignEach (e :: es) env = (false, assign e env) :: assignEach es env := by
  cases h <;> rfl
theorem assignN {es : List Expr} {ts : List Tg} (h : TgEs X es ts) (env : PySem.Env) : (assignEach es env).length = ts.length ∧ (assignEach es env).findIdx? (·.1) = none := by
  match h with
  | .nil => exact ⟨rfl, rfl⟩
  | .cons (es := es) a r =>
    obtain ⟨h1, h2⟩ := assignN r env
    rw [assign1 a]
    refine ⟨by simp [h1], ?_⟩
    rw [List.findIdx?_cons]
    simp [h2]
theorem bindTs_len {ts : List Tg} : ∀ {xs : List D} {rho rho' : List Slot}, bindTs ts xs rho = some rho' → xs.length = ts.length := by
  induction ts with
  | nil =>
    intro xs rho rho' h
    cases xs with
    | nil => rfl
    | cons x xs => unfold bindTs at h; cases h
  | cons t ts ih =>
    intro xs rho rho' h
    cases xs with
    | nil => unfold bindTs at h; cases h
    | cons x xs =>
      unfold bindTs at h
      cases hb : bindT t x rho with
      | none => rw [hb] at h; cases h
      | some r => rw [hb] at h; simp [ih (show bindTs ts xs r = some rho' from h)]
section
variable {prog : Program} {w : World} {A : Around} {E : Value → Shared → Prop} {s : Shared}
theorem asg_list {env : PySem.Env} {elts : List Expr} {x1} {pos : Pos} {t : Addr} {items : Array Value} {Q : Unit → Shared → Prop} (hh : A.handled = none) (ht : s.heap.IsList t items)
    (hn : (assignEach elts env).length = items.size) (hstar : (assignEach elts env).findIdx? (·.1) = none)
    (h : ∀ h', Heap.ExtBut s.heap.objs.size s.heap h' → wpAny (model prog w) A (assignInOrder ((assignEach elts env).map (·.2)) items.toList) Q E { s with heap := h' }) :
    wpAny (model prog w) A (assign (.Tuple elts x1 pos) env (.ref t)) Q E s := by
  rw [PyProof.Rows.assign_Tuple]
  refine wpAny_bind (wpAny_standAt ?_)
  unfold unpack
  rw [hn, hstar]
  exact wpAny_bind (wpAny_holding (PySem.W.kun_itemsOf hh ht h))
end
def gSeq (K : PySem.W.Frag) (n : Nat) (t : TGs) : TG := fun v σ H Q => ∃ a xs, v = .ref a ∧ (SqT K H a xs ∨ SqL K H a xs) ∧ xs.length = n ∧ t xs σ H Q
theorem pg_seq {es : List Expr} {k : Nat} {pos : Pos} {t : TGs} {n : Nat} (hc : X.calm = true) (h : PGs X es t)
    (hn : (assignEach es X.env).length = n) (hst : (assignEach es X.env).findIdx? (·.1) = none) : PG X (.Tuple es k pos) (gSeq X.K n t) := by
  refine ⟨fun pins s σ H v u Q I r hw => ?_⟩
  obtain ⟨a, xs, e1, hq, hl, hw⟩ := hw
  rcases hq with hq | hq
  · exact (pg_tup hc h hn hst).run pins s σ H v u Q I r ⟨a, xs, e1, hq, hl, hw⟩
  · subst e1
    cases r
    obtain ⟨its, rv, pl, hz⟩ := I.list hq
    refine asg_list (I.ok.hd hc) pl.isList (by simp [hn, ← hl, rv.length]) hst fun h' hx => ?_
    have I1 : Inv X pins σ H { s with heap := h' } := I.kept (t' := s.toks) fun b o e => hx b o (Nat.ne_of_lt (Heap.lt_size e)) e
    exact h.run pins _ σ H xs _ Q I1 (by simpa using rv) hw
mutual
theorem sg_tg (hc : X.calm = true) (nd : X.N.Nodup) {e : Expr} {t : Tg} (h : TgE X e t) : PG X e (tG X.K t) := by
  match h with
  | .nm (i := i) h1 h2 h3 =>
    refine (pg_name nd h1 h2 h3).imp fun v σ H Q q => ?_
    obtain ⟨G, S, x, rho, o, dn, hb, q⟩ := q
    unfold bindT at hb
    split at hb
    · rename_i hi
      have hb2 : (match S.rho[i]? with | some (.lck _) => none | _ => some (S.rho.set i (.v (.d x)))) = some rho := hb
      have nl : ∀ y, S.rho[i]? ≠ some (.lck y) := fun y z => by rw [z] at hb2; cases hb2
      have er : rho = S.rho.set i (.v (.d x)) := by
        split at hb2
        · cases hb2
        · cases hb2; rfl
      subst er
      obtain ⟨o2, st, less⟩ := o.asg (x := .d x) hi nl dn
      exact q _ o2 st (fun j hj => List.getElem?_set_ne fun z => hj (by simp [slotsT, z])) (by simp) less
    · cases hb
  | .tp (ts := ts) hs =>
    obtain ⟨hl, hst⟩ := assignN hs X.env
    refine (pg_seq hc (sg_tgs hc nd hs) hl hst).imp fun v σ H Q q => ?_
    obtain ⟨G, S, x, rho, o, dn, hb, q⟩ := q
    unfold bindT at hb
    cases x with
    | tuple xs =>
      obtain ⟨a, vs, rfl, h1, l⟩ := dn.sqt
      have hb : bindTs ts xs S.rho = some rho := hb
      exact ⟨a, vs, rfl, .inl h1, by rw [← l.length]; exact bindTs_len hb, G, S, xs, rho, o, l, hb, fun σ' a b c d e => q σ' a b c d e⟩
    | list xs =>
      obtain ⟨a, vs, rfl, h1, l⟩ := dn.sql
      have hb : bindTs ts xs S.rho = some rho := hb
      exact ⟨a, vs, rfl, .inr h1, by rw [← l.length]; exact bindTs_len hb, G, S, xs, rho, o, l, hb, fun σ' a b c d e => q σ' a b c d e⟩
    | _ => cases hb
theorem sg_tgs (hc : X.calm = true) (nd : X.N.Nodup) {es : List Expr} {ts : List Tg} (h : TgEs X es ts) : PGs X es (tGs X.K ts) := by
  match h with
  | .nil =>
    refine ⟨fun pins s σ H vs us Q I r q => pgs_nil.run pins s σ H vs us Q I r ?_⟩
    obtain ⟨G, S, xs, rho, o, l, hb, q⟩ := q
    cases l with
    | nil =>
      unfold bindTs at hb
      cases hb
      exact ⟨rfl, q σ o (Stp.refl _ _ _ _) (fun _ _ => rfl) rfl fun _ h => h⟩
    | cons a r => unfold bindTs at hb; cases hb
  | .cons (e := e) (t := t) (es := es) (ts := ts) h1 h2 =>
    refine ⟨fun pins s σ H vs us Q I r q => (pgs_cons (sg_tg hc nd h1) (sg_tgs hc nd h2) (by rw [assign1 h1]; rfl)).run pins s σ H vs us Q I r ?_⟩
    obtain ⟨G, S, xs, rho, o, l, hb, q⟩ := q
    cases l with
    | nil => unfold bindTs at hb; cases hb
    | @cons x v xs vs dx l =>
      unfold bindTs at hb
      cases hb1 : bindT t x S.rho with
      | none => rw [hb1] at hb; cases hb
      | some rho1 =>
        rw [hb1] at hb
        have hb : bindTs ts xs rho1 = some rho := hb
        refine ⟨v, vs, rfl, G, S, x, rho1, o, dx, hb1, fun σ1 o1 st1 ag1 ln1 less1 => ⟨G, { S with rho := rho1 }, xs, rho, o1, DnL.anti less1 _ _ l, hb, fun σ2 o2 st2 ag2 ln2 less2 => ?_⟩⟩
        refine q σ2 o2 (st1.trans st2) (fun j hj => ?_) (ln2.trans ln1) fun b h => less1 b (less2 b h)
        have : j ∉ slotsT t ∧ j ∉ slotsTs ts := by simpa [slotsTs] using hj
        rw [ag2 j this.2, ag1 j this.1]
end
end

/-! ### what is walked -/
/-- what of a state the walk leans on: what is frozen stays, what is locked stays -/
structure Rch (G : Gh) (S : Ste) (σ : St) (H : Hp) (G' : Gh) (S' : Ste) (σ' : St) (H' : Hp) : Prop where
  mono : Keeps (MM G S.rho σ) H (MM G' S'.rho σ') H'
  lck : ∀ (i : Nat) (x : D), S.rho[i]? = some (.lck x) → S'.rho[i]? = some (.lck x) ∧ σ'[i]? = σ[i]?
theorem Stp.rch {G G' : Gh} {S S' : Ste} {σ σ' : St} {H H' : Hp} (s : Stp G S σ H G' S' σ' H') : Rch G S σ H G' S' σ' H' := ⟨s.mono, s.lck⟩
theorem Rch.trans {G G1 G2 : Gh} {S S1 S2 : Ste} {σ σ1 σ2 : St} {H H1 H2 : Hp} (a : Rch G S σ H G1 S1 σ1 H1) (b : Rch G1 S1 σ1 H1 G2 S2 σ2 H2) : Rch G S σ H G2 S2 σ2 H2 :=
  ⟨a.mono.trans b.mono, fun i x e => let ⟨e1, e2⟩ := a.lck i x e; let ⟨e3, e4⟩ := b.lck i x e1; ⟨e3, e4.trans e2⟩⟩
def Src (K : PySem.W.Frag) (J : L2.It) (items : List D) (G : Gh) (S : Ste) (σ : St) (H : Hp) : Prop :=
  ∀ G' S' σ' H', Ok K G' S' σ' H' → Rch G S σ H G' S' σ' H' → ∀ i, (items.length = i → J.stop i H') ∧ ∀ x, items[i]? = some x → J.go i H' ∧ ∀ v H'', J.yld i H' v H'' → Same H' H'' ∧ Dn K (MM G' S'.rho σ') H'' true x v
def RI (K : PySem.W.Frag) : RL (List D × Option Nat) L2.It := fun σ G S H p J => Src K J p.1 G S σ H
def tI (K : PySem.W.Frag) (W : WX) (r : Ste → Res (List D × Option Nat)) : TI := fun σ H R => At K W (RI K) r σ H R
section
variable {X : Cx} {W : WX} {P : Env}
theorem pi_any {tg l : Expr} {tl : TE} (hl : PE X l tl) : PI X tg l (fun σ H R => tl σ H fun x H1 => (∃ a, x = .ref a ∧ (∃ xs, SqL X.K H1 a xs) ∧ R (Itl X.K a) H1) ∨ (∃ a, x = .ref a ∧ (∃ xs, SqT X.K H1 a xs) ∧ R (Itt X.K a) H1) ∨ ∃ z, x = .str z ∧ R (Its z) H1) := by
  refine ⟨fun pn s ss H R I h => thn (hl.run pn s ss H _ I h) fun v s2 ⟨x, H2, J, rv, q⟩ => ?_⟩
  have new : ∀ b ∈ [s2.heap.objs.size], FpOk X pn H2 b := fun b hb => by
    rw [List.mem_singleton.mp hb]
    exact J.fpOk (Nat.le_refl _) (J.hok.fresh (Nat.le_refl _))
  rcases q with ⟨a, rfl, ⟨xs, hq⟩, q⟩ | ⟨a, rfl, ⟨xs, hq⟩, q⟩ | ⟨z, rfl, q⟩
  · obtain rfl : v = Value.ref a := rv
    obtain ⟨its, _, pl, _⟩ := J.list hq
    exact wpAny_pyIter_list pl.isList ⟨_, _, _, _, H2, rfl, J.kept (t' := s2.toks) (fun b o e => Heap.get?_push_of_some _ e), turn_list a _, ⟨_, Heap.get?_push_size _ rfl, rfl, rfl⟩, new, q⟩
  · obtain rfl : v = Value.ref a := rv
    obtain ⟨its, _, pl, _⟩ := J.tuple hq
    exact wpAny_pyIter_tuple (show s2.heap.IsTuple a its.toArray from pl) ⟨_, _, _, _, H2, rfl, J.kept (t' := s2.toks) (fun b o e => Heap.get?_push_of_some _ e), turn_tuple a _, ⟨_, Heap.get?_push_size _ rfl, rfl, rfl⟩, new, q⟩
  · obtain ⟨t, rfl⟩ := rv
    cases wide : z.cps.all (· < 128)
    · exact wpAny_pyIter_wide wide (pi_one (tk := s2.toks) J _ (turn_str _ z t "str_iterator" (.inr rfl)) ⟨_, Heap.get?_push_size _ rfl, rfl, rfl⟩ q)
    · exact wpAny_pyIter_ascii wide (pi_one (tk := s2.toks) J _ (turn_str _ z t "str_ascii_iterator" (.inl rfl)) ⟨_, Heap.get?_push_size _ rfl, rfl, rfl⟩ q)
theorem src_list {K : PySem.W.Frag} {G : Gh} {S : Ste} {σ : St} {H : Hp} {a : Addr} {xs : List D} (dn : Dn K (MM G S.rho σ) H true (.list xs) (.ref a)) : Src K (Itl K a) xs G S σ H := fun G' S' σ' H' o r i => by
  obtain ⟨a', vs, e, hs, l⟩ := (Dn.mono r.mono _ _ dn).sql
  cases e
  refine ⟨fun hi => ⟨vs, hs, by rw [← l.length]; exact Nat.le_of_eq hi⟩, fun x hx => ?_⟩
  obtain ⟨v, hv, dv⟩ := l.get hx
  refine ⟨⟨vs, v, hs, hv⟩, fun u H'' ⟨eH, hu⟩ => ?_⟩
  subst eH
  have := hu vs hs
  rw [hv] at this
  cases this
  exact ⟨Same.refl _, dv⟩
theorem src_tup {K : PySem.W.Frag} {G : Gh} {S : Ste} {σ : St} {H : Hp} {a : Addr} {xs : List D} (dn : Dn K (MM G S.rho σ) H true (.tuple xs) (.ref a)) : Src K (Itt K a) xs G S σ H := fun G' S' σ' H' o r i => by
  obtain ⟨a', vs, e, hs, l⟩ := (Dn.mono r.mono _ _ dn).sqt
  cases e
  refine ⟨fun hi => ⟨vs, hs, by rw [← l.length]; exact Nat.le_of_eq hi⟩, fun x hx => ?_⟩
  obtain ⟨v, hv, dv⟩ := l.get hx
  refine ⟨⟨vs, v, hs, hv⟩, fun u H'' ⟨eH, hu⟩ => ?_⟩
  subst eH
  have := hu vs hs
  rw [hv] at this
  cases this
  exact ⟨Same.refl _, dv⟩
theorem src_lck {K : PySem.W.Frag} {G : Gh} {S : Ste} {σ : St} {H : Hp} {i0 : Nat} {a : Addr} {xs : List D} (e : S.rho[i0]? = some (.lck (.list xs))) (ea : σ[i0]? = some (some (.ref a))) : Src K (Itl K a) xs G S σ H := fun G' S' σ' H' o r i => by
  obtain ⟨e1, e2⟩ := r.lck i0 _ e
  obtain ⟨a', e3, vs, e4, l⟩ := o.own i0 _ (.inr e1)
  rw [e2, ea] at e3
  cases e3
  have hs : SqL K H' a vs := SqL.of e4
  refine ⟨fun hi => ⟨vs, hs, by rw [← l.length]; exact Nat.le_of_eq hi⟩, fun x hx => ?_⟩
  obtain ⟨v, hv, dv⟩ := l.get hx
  refine ⟨⟨vs, v, hs, hv⟩, fun u H'' ⟨eH, hu⟩ => ?_⟩
  subst eH
  have := hu vs hs
  rw [hv] at this
  cases this
  exact ⟨Same.refl _, dv⟩
theorem src_str {K : PySem.W.Frag} {G : Gh} {S : Ste} {σ : St} {H : Hp} {z : Str} : Src K (Its z) (z.cps.toList.map fun c => .str ⟨#[c]⟩) G S σ H := fun G' S' σ' H' o r i => by
  refine ⟨fun hi => by rw [List.length_map, Array.length_toList] at hi; exact Nat.le_of_eq hi, fun x hx => ?_⟩
  rw [List.getElem?_map] at hx
  cases hc : z.cps.toList[i]? with
  | none => rw [hc] at hx; cases hx
  | some c =>
    rw [hc] at hx
    cases hx
    have hlt : i < z.cps.size := by
      have := (List.getElem?_eq_some_iff.mp hc).1
      simpa using this
    refine ⟨hlt, fun u H'' ⟨eH, c', h1, hu⟩ => ?_⟩
    subst eH hu
    rw [← Array.getElem?_toList, hc] at h1
    cases h1
    exact ⟨Same.refl _, .str _⟩
theorem iran_len : ∀ (n : Nat) (lo : Int), (iran lo n).length = n
  | 0, _ => rfl
  | n + 1, lo => by simp [iran, iran_len n]
theorem iran_get : ∀ (n : Nat) (lo : Int) (i : Nat) (x : D), (iran lo n)[i]? = some x → i < n ∧ x = .int (lo + i)
  | 0, _, i, x, h => by simp [iran] at h
  | n + 1, lo, 0, x, h => by
    simp [iran] at h
    exact ⟨Nat.succ_pos _, by rw [← h]; simp⟩
  | n + 1, lo, i + 1, x, h => by
    simp only [iran, List.getElem?_cons_succ] at h
    obtain ⟨h1, h2⟩ := iran_get n (lo + 1) i x h
    refine ⟨Nat.succ_lt_succ h1, ?_⟩
    rw [h2]
    congr 1
    omega
theorem src_rng {K : PySem.W.Frag} {G : Gh} {S : Ste} {σ : St} {H : Hp} {lo : Int} {n : Nat} : Src K (Itr lo n) (iran lo n) G S σ H := fun G' S' σ' H' o r i => by
  refine ⟨fun hi => by rw [iran_len] at hi; exact Nat.le_of_eq hi, fun x hx => ?_⟩
  obtain ⟨h1, rfl⟩ := iran_get n lo i x hx
  refine ⟨h1, fun u H'' ⟨eH, hu⟩ => ?_⟩
  subst eH hu
  exact ⟨Same.refl _, .int _⟩
theorem seq_fin {σ : St} {H : Hp} {G : Gh} {S : Ste} {x : D} {v : V} {xs : List D} {lk : Option Nat} {R : L2.It → Hp → Prop} (o : Ok X.K G S σ H) (dn : Dn X.K (MM G S.rho σ) H true x v) (e : seqItems x = some xs) (p : Post X.K W (RI X.K) G S σ H R (.ok (xs, lk) S)) :
    (∃ a, v = .ref a ∧ (∃ xs, SqL X.K H a xs) ∧ R (Itl X.K a) H) ∨ (∃ a, v = .ref a ∧ (∃ xs, SqT X.K H a xs) ∧ R (Itt X.K a) H) ∨ ∃ z, v = .str z ∧ R (Its z) H := by
  cases x with
  | list ys =>
    cases e
    obtain ⟨a, vs, rfl, hs, l⟩ := dn.sql
    exact .inl ⟨a, rfl, ⟨vs, hs⟩, p G _ H o (Stp.refl _ _ _ _) (src_list dn)⟩
  | tuple ys =>
    cases e
    obtain ⟨a, vs, rfl, hs, l⟩ := dn.sqt
    exact .inr (.inl ⟨a, rfl, ⟨vs, hs⟩, p G _ H o (Stp.refl _ _ _ _) (src_tup dn)⟩)
  | str z =>
    cases e
    cases dn
    exact .inr (.inr ⟨z, rfl, p G _ H o (Stp.refl _ _ _ _) src_str⟩)
  | _ => cases e
theorem it_seq {a : C} {S : Ste} : evIt P (.seq a) S = (ev P a S).bind fun x s => match x with
    | .d x => Res.of ((seqItems x).map fun xs => (xs, none)) s
    | _ => .stuck := by rw [evIt] <;> rfl
theorem si_seq {tg e : Expr} {a : C} (ha : PE X e (tE X.K W (ev P a))) : PI X tg e (tI X.K W (evIt P (.seq a))) := (pi_any ha).imp fun σ H R h => by
  obtain ⟨G, S, o, p⟩ := h
  rw [it_seq] at p
  refine ⟨G, S, o, p.seq fun G1 S1 x v H1 o1 st1 r1 p1 => ?_⟩
  cases x with
  | d x =>
    dsimp only at p1
    cases e : seqItems x with
    | none => rw [e] at p1; exact p1.elim
    | some xs =>
      rw [e] at p1
      exact seq_fin o1 r1 e p1
  | r n => exact p1.elim
  | pk i => exact p1.elim
theorem Ok.lock {K : PySem.W.Frag} {G : Gh} {S : Ste} {σ : St} {H : Hp} (o : Ok K G S σ H) {i : Nat} {x : D} {y z : Slot} (hy : y = .own x ∧ z = .lck x ∨ y = .lck x ∧ z = .own x) (e : S.rho[i]? = some y) :
    Ok K G { S with rho := S.rho.set i z } σ H ∧ MM G (S.rho.set i z) σ = MM G S.rho σ ∧ (S.rho.set i z)[i]? = some z := by
  have hi : i < S.rho.length := (List.getElem?_eq_some_iff.mp e).1
  have self : (S.rho.set i z)[i]? = some z := List.getElem?_set_self hi
  have yo : y = .own x ∨ y = .lck x := hy.imp (·.1) (·.1)
  have zo : z = .own x ∨ z = .lck x := hy.elim (fun h => .inr h.2) fun h => .inl h.2
  have sl : ∀ (j : Nat) (w : D), ((S.rho.set i z)[j]? = some (.own w) ∨ (S.rho.set i z)[j]? = some (.lck w)) ↔ (S.rho[j]? = some (.own w) ∨ S.rho[j]? = some (.lck w)) := fun j w => by
    by_cases hj : j = i
    · subst hj
      rw [self, e]
      rcases hy with ⟨rfl, rfl⟩ | ⟨rfl, rfl⟩ <;> simp
    · rw [List.getElem?_set_ne (Ne.symm hj)]
  have own : ∀ (j : Nat) (b : Addr), OwnAt (S.rho.set i z) σ j b ↔ OwnAt S.rho σ j b := fun j b => by
    unfold OwnAt
    simp only [sl]
  have mm : MM G (S.rho.set i z) σ = MM G S.rho σ := by
    funext b
    apply propext
    unfold MM Own
    simp only [own]
  refine ⟨⟨by simpa using o.len, fun j w h => ?_, fun j w h => ?_, fun j l b h1 h2 => o.inj j l b ((own j b).mp h1) ((own l b).mp h2), o.hlen, fun n w h => ?_, o.nd, fun b m => ⟨fun ⟨j, q⟩ => (o.s1 b m).1 ⟨j, (own j b).mp q⟩, (o.s1 b m).2⟩, fun b ⟨j, q⟩ => o.s2 b ⟨j, (own j b).mp q⟩, o.tr⟩, mm, self⟩
  · have hj : j ≠ i := by
      rintro rfl
      have h : (S.rho.set j z)[j]? = some (.v w) := h
      rw [self] at h
      rcases zo with rfl | rfl <;> cases h
    have h : (S.rho.set i z)[j]? = some (.v w) := h
    rw [List.getElem?_set_ne (Ne.symm hj)] at h
    show ∃ v, _ ∧ SD K G.io (MM G (S.rho.set i z) σ) H w v
    rw [mm]
    exact o.val j w h
  · show ∃ a, _ ∧ Cont K (MM G (S.rho.set i z) σ) H a w
    rw [mm]
    exact o.own j w ((sl j w).mp h)
  · show ∃ a, _ ∧ Cont K (MM G (S.rho.set i z) σ) H a w
    rw [mm]
    exact o.heap n w h
theorem si_slot {tg : Expr} {i : Nat} {x : Str} {pos : Pos} (hN : X.N[i]? = some x) (hv : Vis X.env.scope x) (hd : (x == ("__debug__" : Str)) = false) (hcd : (x == ("__classdict__" : Str)) = false) : PI X tg (.Name x pos) (tI X.K W (evIt P (.slot i))) := (pi_any (pe_var hN hv hd hcd)).imp fun σ H R h => by
  obtain ⟨G, S, o, p⟩ := h
  rw [evIt] at p
  split at p
  · rename_i xs e
    obtain ⟨a, ea, _, vs, c, _⟩ := o.at (.inl e)
    obtain ⟨o2, mm, self⟩ := o.lock (.inl ⟨rfl, rfl⟩) e
    refine ⟨_, ea, .inl ⟨a, rfl, ⟨vs, SqL.of c⟩, p G _ H o2 ⟨⟨[], by simp⟩, rfl, ?_, fun _ _ => rfl, fun j y h => ?_, fun _ u h => ⟨u, h⟩⟩ (src_lck self ea)⟩⟩
    · show Keeps _ _ (MM G (S.rho.set i (.lck (.list xs))) σ) _
      rw [mm]
      exact Keeps.refl _ _
    · have hj : j ≠ i := by
        rintro rfl
        rw [e] at h
        cases h
      exact ⟨by show (S.rho.set i _)[j]? = _; rw [List.getElem?_set_ne (Ne.symm hj)]; exact h, rfl⟩
  · rename_i xs e
    obtain ⟨a, ea, _, vs, c, _⟩ := o.at (.inr e)
    exact ⟨_, ea, .inl ⟨a, rfl, ⟨vs, SqL.of c⟩, p G _ H o (Stp.refl _ _ _ _) (src_lck e ea)⟩⟩
  · rename_i y e
    obtain ⟨v, ev, sd⟩ := o.val i _ e
    cases e2 : seqItems y with
    | none => rw [e2] at p; exact p.elim
    | some xs =>
      rw [e2] at p
      exact ⟨v, ev, seq_fin o sd e2 p⟩
  · exact p.elim
theorem it_rng {as : Cs} {S : Ste} : evIt P (.rng as) S = (evs P as S).bind fun xs s => Res.of (((s.ress xs).bind rngItems).map fun xs => (xs, none)) s := by rw [evIt]
theorem si_rng1 {tg a : Expr} {c : C} {p pos : Pos} (hg : Gl X "range") (hm : X.mg "range" = none) (ha : PE X a (tE X.K W (ev P c))) (hs : starEach [a] X.env = [(false, eval a X.env)]) : PI X tg (.Call (.Name "range" p) [a] [] pos) (tI X.K W (evIt P (.rng (.cons c .nil)))) := (pi_range1 hg hm (pa_cons ha pa_nil hs) hs).imp fun σ H R h => by
  obtain ⟨G, S, o, q⟩ := h
  have e : evIt P (.rng (.cons c .nil)) S = (ev P c S).bind fun x s => Res.of (((s.ress [x]).bind rngItems).map fun xs => (xs, none)) s := by
    rw [it_rng]
    simp only [evs]
    cases ev P c S <;> rfl
  rw [e] at q
  refine ⟨G, S, o, q.seq fun G1 S1 x v H1 o1 st1 r1 p1 => ?_⟩
  cases e1 : S1.res x with
  | none => simp only [Ste.ress, e1] at p1; exact p1.elim
  | some d =>
    have dn := o1.res r1 e1
    simp only [Ste.ress, e1, Option.bind] at p1
    unfold rngItems at p1
    split at p1
    · rename_i n eq
      cases eq
      cases dn
      split at p1
      · rename_i hb
        exact ⟨n, rfl, by omega, by omega, p1 G1 _ H1 o1 (Stp.refl _ _ _ _) src_rng⟩
      · exact p1.elim
    · rename_i eq
      cases eq
    · exact p1.elim
theorem si_rng2 {tg a b : Expr} {c d : C} {p pos : Pos} (hg : Gl X "range") (hm : X.mg "range" = none) (ha : PE X a (tE X.K W (ev P c))) (hb : PE X b (tE X.K W (ev P d))) (hs : starEach [a, b] X.env = [(false, eval a X.env), (false, eval b X.env)]) (hs2 : starEach [b] X.env = [(false, eval b X.env)]) : PI X tg (.Call (.Name "range" p) [a, b] [] pos) (tI X.K W (evIt P (.rng (.cons c (.cons d .nil))))) :=
  (pi_range2 hg hm (pa_cons ha (pa_cons hb pa_nil hs2) (by rw [hs, hs2])) hs hs2).imp fun σ H R h => by
  obtain ⟨G, S, o, q⟩ := h
  have e : evIt P (.rng (.cons c (.cons d .nil))) S = (ev P c S).bind fun x s => (ev P d s).bind fun y s => Res.of (((s.ress [x, y]).bind rngItems).map fun xs => (xs, none)) s := by
    rw [it_rng]
    simp only [evs]
    cases ev P c S with
    | ok x s => simp only [Res.bind]; cases ev P d s <;> rfl
    | er c s => rfl
    | stuck => rfl
  rw [e] at q
  refine ⟨G, S, o, q.seq fun G0 S0 x v H0 o0 st0 r0 q0 => ⟨G0, S0, o0, q0.seq fun G1 S1 y u H1 o1 st1 r1 p1 => ?_⟩⟩
  cases e1 : S1.ress [x, y] with
  | none => rw [e1] at p1; exact p1.elim
  | some ds =>
    have dn := o1.ress (.cons (VD.step st1 r0) (.cons r1 .nil)) e1
    rw [e1] at p1
    simp only [Option.bind] at p1
    unfold rngItems at p1
    split at p1
    · rename_i n
      cases dn with
      | cons _ r => cases r
    · rename_i i j
      cases dn with
      | cons di r =>
        cases r with
        | cons dj r =>
          cases di; cases dj
          split at p1
          · rename_i hb
            exact ⟨i, j, rfl, ⟨by omega, by omega, by omega, by omega⟩, p1 G1 _ H1 o1 (Stp.refl _ _ _ _) src_rng⟩
          · exact p1.elim
    · exact p1.elim
theorem enumD_len : ∀ (xs : List D) (i : Nat), (enumD i xs).length = xs.length
  | [], _ => rfl
  | x :: xs, i => by simp [enumD, enumD_len xs]
theorem enumD_get : ∀ (xs : List D) (k i : Nat) (y : D), (enumD k xs)[i]? = some y → ∃ x, xs[i]? = some x ∧ y = .tuple [.int ((k + i : Nat) : Int), x]
  | [], _, _, _, h => by simp [enumD] at h
  | x :: xs, k, 0, y, h => by
    simp only [enumD, List.getElem?_cons_zero, Option.some.injEq] at h
    exact ⟨x, rfl, h.symm⟩
  | x :: xs, k, i + 1, y, h => by
    simp only [enumD, List.getElem?_cons_succ] at h
    obtain ⟨z, h1, h2⟩ := enumD_get xs (k + 1) i y h
    exact ⟨z, by simpa using h1, by rw [h2]; congr 3; omega⟩
theorem src_enum {K : PySem.W.Frag} {G : Gh} {S : Ste} {σ : St} {H : Hp} {a : Addr} {xs : List D} (dn : Dn K (MM G S.rho σ) H true (.list xs) (.ref a)) : Src K (Ite K a) (enumD 0 xs) G S σ H := fun G' S' σ' H' o r i => by
  obtain ⟨a', vs, e, hs, l⟩ := (Dn.mono r.mono _ _ dn).sql
  cases e
  refine ⟨fun hi => ⟨vs, hs, by rw [enumD_len] at hi; rw [← l.length]; exact Nat.le_of_eq hi⟩, fun y hy => ?_⟩
  obtain ⟨x, hx, rfl⟩ := enumD_get xs 0 i y hy
  obtain ⟨v, hv, dv⟩ := l.get hx
  refine ⟨⟨vs, v, hs, hv⟩, fun u H'' ⟨T, w, eu, nT, eH, hw⟩ => ?_⟩
  subst eu eH
  have := hw vs hs
  rw [hv] at this
  cases this
  refine ⟨Same.upd nT, ?_⟩
  have e0 : ((0 + i : Nat) : Int) = (i : Int) := by simp
  rw [e0]
  exact newT (fun b m => o.tracked m) nT (.cons (.int _) (.cons dv .nil))
theorem it_enum {a : C} {S : Ste} : evIt P (.enum a) S = (ev P a S).bind fun x s => match x with
    | .d (.list xs) => .ok (enumD 0 xs, none) s
    | _ => .stuck := by rw [evIt] <;> rfl
theorem si_enum {elts : List Expr} {kk : Nat} {tpos : Pos} {e : Expr} {a : C} {p pos : Pos} (hg : Gl X "enumerate") (hm : X.mg "enumerate" = none) (ha : PE X e (tE X.K W (ev P a))) (hs : starEach [e] X.env = [(false, eval e X.env)]) :
    PI X (.Tuple elts kk tpos) (.Call (.Name "enumerate" p) [e] [] pos) (tI X.K W (evIt P (.enum a))) := (pi_enum hg hm (pa_cons ha pa_nil hs) hs).imp fun σ H R h => by
  obtain ⟨G, S, o, q⟩ := h
  rw [it_enum] at q
  refine ⟨G, S, o, q.seq fun G1 S1 x v H1 o1 st1 r1 p1 => ?_⟩
  cases x with
  | r n => exact p1.elim
  | pk n => exact p1.elim
  | d d =>
    cases d with
    | list xs =>
      have r1 : Dn X.K (MM G1 S1.rho σ) H1 true (.list xs) v := r1
      obtain ⟨b, vs, rfl, hq, l⟩ := r1.sql
      exact ⟨b, vs, rfl, hq, p1 G1 _ H1 o1 (Stp.refl _ _ _ _) (src_enum r1)⟩
    | _ => exact p1.elim
end
end EV
end
section
set_option Elab.async false
set_option linter.all false
set_option maxRecDepth 100000
set_option maxHeartbeats 4000000
set_option autoImplicit false
/-! EvG2: zip of any two of lists, tuples, texts (the kit's own zip judgement has two lists or two tuples; its Draws have all) -/
namespace EV
open PySem PySem.Spec PyProof.Rows L2
/-- what is gone through -/
inductive SK where
  | lst (a : Addr) | tup (a : Addr) | str (z : Str)
def SK.v : SK → V
  | .lst a => .ref a
  | .tup a => .ref a
  | .str z => .str z
def SK.addr : SK → Option Addr
  | .lst a => some a
  | .tup a => some a
  | .str _ => none
def signs (z : Str) : List V := z.cps.toList.map fun c => .str ⟨#[c]⟩
def SrcAt (K : PySem.W.Frag) (H : Hp) : SK → List V → Prop
  | .lst a, xs => SqL K H a xs
  | .tup a, xs => SqT K H a xs
  | .str z, xs => xs = signs z
def IterAt (h : Heap) (it : Addr) : SK → Nat → Prop
  | .lst a, i => h.IsListIter it a i
  | .tup a, i => h.IsTupleIter it a i
  | .str z, i => ∃ t, h.IsStrIter it (strIterType z) z t i
theorem IterAt.at {h h' : Heap} {it : Addr} {k : SK} {i : Nat} (x : IterAt h it k i) (e : ∀ o, h.get? it = some o → h'.get? it = some o) : IterAt h' it k i := by
  cases k with
  | lst a => exact Heap.IsListIter.at x e
  | tup a => exact Heap.IsTupleIter.at x e
  | str z => obtain ⟨t, o, ho, r⟩ := x; exact ⟨t, o, e o ho, r⟩
theorem IterAt.obj {h : Heap} {it : Addr} {k : SK} {i : Nat} (x : IterAt h it k i) : ∃ o, h.get? it = some o ∧ ∀ v, o.data ≠ .cell v := by
  cases k with
  | lst a => obtain ⟨o, e, _, d⟩ := x; exact ⟨o, e, fun v q => by rw [d] at q; cases q⟩
  | tup a => obtain ⟨o, e, _, d⟩ := x; exact ⟨o, e, fun v q => by rw [d] at q; cases q⟩
  | str z => obtain ⟨t, o, e, _, d⟩ := x; exact ⟨o, e, fun v q => by rw [d] at q; cases q⟩
theorem one_src {X : Cx} {pins : List (Addr × Obj)} {σ : L2.St} {H : Hp} {s : Shared} (I : Inv X pins σ H s) {k : SK} {xs ys : List V} (a : SrcAt X.K H k xs) (b : SrcAt X.K H k ys) : xs = ys := by
  cases k with
  | lst c => exact I.list_inj a b
  | tup c => exact I.tuple_inj a b
  | str z => exact (show xs = signs z from a).trans (show ys = signs z from b).symm
/-- what the two have, pair by pair, in new tuples -/
def ItZ (K : PySem.W.Frag) (k1 k2 : SK) : L2.It :=
  ⟨fun i H => ∃ (xs ys : List V) (x y : V), SrcAt K H k1 xs ∧ SrcAt K H k2 ys ∧ xs[i]? = some x ∧ ys[i]? = some y,
    fun i H v H' => ∃ T x y, v = .ref T ∧ H T = none ∧ H' = upd H T (.tup [x, y]) ∧ (∀ xs, SrcAt K H k1 xs → xs[i]? = some x) ∧ ∀ ys, SrcAt K H k2 ys → ys[i]? = some y,
    fun i H => ∃ xs ys : List V, SrcAt K H k1 xs ∧ SrcAt K H k2 ys ∧ i = min xs.length ys.length⟩
structure Far (z TI TO i1 i2 : Addr) (k1 k2 : SK) : Prop where
  TIz : TI ≠ z
  TOz : TO ≠ z
  TITO : TI ≠ TO
  TIi1 : TI ≠ i1
  TIi2 : TI ≠ i2
  i1z : i1 ≠ z
  i2z : i2 ≠ z
  TO1 : TO ≠ i1
  TO2 : TO ≠ i2
  i12 : i1 ≠ i2
  s1 : ∀ a, k1.addr = some a → a ≠ z ∧ a ≠ TO ∧ a ≠ i1 ∧ a ≠ i2
  s2 : ∀ a, k2.addr = some a → a ≠ z ∧ a ≠ TO ∧ a ≠ i1 ∧ a ≠ i2
theorem vals_back : ∀ {xs : List V} {us : List Value} {i : Nat} {v : Value}, Vals xs us → us[i]? = some v → ∃ u, xs[i]? = some u ∧ RelV u v
  | _, _, i, _, .nil, e => by simp at e
  | _, _, 0, _, .cons a _, e => by
    simp only [List.getElem?_cons_zero, Option.some.injEq] at e
    subst e
    exact ⟨_, rfl, a⟩
  | _, _, i + 1, _, .cons _ r, e => by
    rw [List.getElem?_cons_succ] at e
    obtain ⟨u, h, q⟩ := vals_back r e
    exact ⟨u, by rw [List.getElem?_cons_succ]; exact h, q⟩
theorem draws_at {X : Cx} {pins : List (Addr × Obj)} {σ : L2.St} {H : Hp} {s : Shared} (hc : X.calm = true) (I : Inv X pins σ H s) {k : SK} {xs : List V} (src : SrcAt X.K H k xs) {it : Addr} {i : Nat} (ia : IterAt s.heap it k i) (ne : ∀ a, k.addr = some a → a ≠ it) :
    ∃ (fp : List Addr) (P : Nat → Value → Prop) (St : Nat → Heap → Prop), Draws X.prog X.w X.A.in1 it fp xs.length P St ∧ St i s.heap ∧ it ∈ fp ∧ (∀ c ∈ fp, c = it ∨ k.addr = some c) ∧ (∀ j h, St j h → IterAt h it k j) ∧ ∀ v, P i v → ∃ u, xs[i]? = some u ∧ RelV u v := by
  have hh : X.A.in1.handled = none := I.ok.hd hc
  cases k with
  | lst a =>
    obtain ⟨its, rv, pl, _⟩ := I.list src
    have e : its.toArray.size = xs.length := by rw [List.size_toArray, rv.length]
    have D := Draws.list (prog := X.prog) (w := X.w) hh it a (ne a rfl) its.toArray
    rw [e] at D
    refine ⟨_, _, _, D, ⟨ia, pl.isList⟩, by simp, fun c hcm => ?_, fun j h q => q.1, fun v hv => ?_⟩
    · simp only [List.mem_cons, List.not_mem_nil, or_false] at hcm
      exact hcm.elim .inl fun q => .inr (by rw [q]; rfl)
    · exact vals_back rv (by simpa using hv)
  | tup a =>
    obtain ⟨its, rv, pl, _⟩ := I.tuple src
    have e : its.toArray.size = xs.length := by rw [List.size_toArray, rv.length]
    have D := Draws.tuple (prog := X.prog) (w := X.w) hh it a (ne a rfl) its.toArray
    rw [e] at D
    refine ⟨_, _, _, D, ⟨ia, pl⟩, by simp, fun c hcm => ?_, fun j h q => q.1, fun v hv => ?_⟩
    · simp only [List.mem_cons, List.not_mem_nil, or_false] at hcm
      exact hcm.elim .inl fun q => .inr (by rw [q]; rfl)
    · exact vals_back rv (by simpa using hv)
  | str z =>
    obtain ⟨t, ia⟩ := ia
    have e : z.cps.size = xs.length := by rw [show xs = signs z from src]; simp [signs]
    have D := Draws.text (prog := X.prog) (w := X.w) hh it z t
    rw [e] at D
    refine ⟨_, _, _, D, ia, by simp, fun c hcm => .inl (by simpa using hcm), fun j h q => ⟨t, q⟩, fun v hv => ?_⟩
    obtain ⟨c, u, ec, rfl⟩ := hv
    refine ⟨.str ⟨#[c]⟩, ?_, u, rfl⟩
    rw [show xs = signs z from src]
    unfold signs
    rw [List.getElem?_map, Array.getElem?_toList, ec]
    rfl
theorem sep_of {z TI TO i1 i2 : Addr} {k1 k2 : SK} (F : Far z TI TO i1 i2 k1 k2) {fp1 fp2 : List Addr} (m1 : i1 ∈ fp1) (m2 : i2 ∈ fp2) (q1 : ∀ c ∈ fp1, c = i1 ∨ k1.addr = some c) (q2 : ∀ c ∈ fp2, c = i2 ∨ k2.addr = some c) : ZipSep2 z TI TO i1 i2 fp1 fp2 where
  TIz := F.TIz
  TOz := F.TOz
  TITO := F.TITO
  TIi1 := F.TIi1
  mem1 := m1
  zf1 := fun m => (q1 _ m).elim (fun e => F.i1z e.symm) fun e => (F.s1 _ e).1 rfl
  Tf1 := fun m => (q1 _ m).elim (fun e => F.TO1 e) fun e => (F.s1 _ e).2.1 rfl
  TIi2 := F.TIi2
  mem2 := m2
  zf2 := fun m => (q2 _ m).elim (fun e => F.i2z e.symm) fun e => (F.s2 _ e).1 rfl
  Tf2 := fun m => (q2 _ m).elim (fun e => F.TO2 e) fun e => (F.s2 _ e).2.1 rfl
  sep1_2 := fun m => (q2 _ m).elim (fun e => F.i12 e) fun e => (F.s2 _ e).2.2.1 rfl
  sep2_1 := fun m => (q1 _ m).elim (fun e => F.i12 e.symm) fun e => (F.s1 _ e).2.2.2 rfl
theorem turn_two {P : Program} {w : World} {K : PySem.W.Frag} {elts : List Expr} {kk : Nat} {tpos : Pos} {k1 k2 : SK} {z TI TO i1 i2 : Addr} (F : Far z TI TO i1 i2 k1 k2) :
    Turn P w K (.Tuple elts kk tpos) (ItZ K k1 k2) [z, TI, TO, i1, i2] z (fun i h => IsZip h z TI TO .none ∧ IsTupOf2 h TI (.ref i1) (.ref i2) ∧ (∃ x y, IsTupOf2 h TO x y) ∧ IterAt h i1 k1 i ∧ IterAt h i2 k2 i) where
  mem := List.mem_cons_self
  obj := fun i h st c m => by
    obtain ⟨hz, hTI, ⟨x, y, hTO⟩, h1, h2⟩ := st
    simp only [List.mem_cons, List.not_mem_nil, or_false] at m
    rcases m with rfl | rfl | rfl | rfl | rfl
    · exact ⟨_, hz, fun v q => nomatch q⟩
    · exact ⟨_, hTI, fun v q => nomatch q⟩
    · exact ⟨_, hTO, fun v q => nomatch q⟩
    · exact h1.obj
    · exact h2.obj
  keep := fun i h h' st k => by
    obtain ⟨hz, hTI, ⟨x, y, hTO⟩, h1, h2⟩ := st
    exact ⟨k z (by simp) _ hz, k TI (by simp) _ hTI, ⟨x, y, k TO (by simp) _ hTO⟩, h1.at (k i1 (by simp)), h2.at (k i2 (by simp))⟩
  item := by
    intro X hP hw hK hc i pins s σ H E I hf st hg
    subst hP hw hK
    obtain ⟨hz, hTI, ⟨x0, y0, hTO⟩, h1, h2⟩ := st
    obtain ⟨xs, ys, x, y, q1, q2, hx, hy⟩ := hg
    obtain ⟨fp1, P1, S1, D1, st1, m1, f1, b1, v1⟩ := draws_at hc I q1 h1 fun a e => (F.s1 a e).2.2.1
    obtain ⟨fp2, P2, S2, D2, st2, m2, f2, b2, v2⟩ := draws_at hc I q2 h2 fun a e => (F.s2 a e).2.2.2
    have lt1 : i < xs.length := (List.getElem?_eq_some_iff.mp hx).1
    have lt2 : i < ys.length := (List.getElem?_eq_some_iff.mp hy).1
    have zl : z < s.heap.objs.size := Heap.lt_size hz
    refine wpAny_pyNext_zipD2_item (sep_of F m1 m2 f1 f2) D1 D2 hz hTI hTO st1 st2 lt1 lt2 fun u1 u2 h' tk p1 p2 z' TO' s1' s2' hT hsz hk => ?_
    obtain ⟨x', ex, r1⟩ := v1 u1 p1
    obtain ⟨y', ey, r2⟩ := v2 u2 p2
    rw [hx] at ex
    rw [hy] at ey
    cases ex
    cases ey
    refine ⟨_, rfl, wpAny_letOwnedTupleGo_zip (s := { s with heap := h', toks := tk }) z' fun h2' z2 sb => ?_⟩
    have hT2 : h2'.get? s.heap.objs.size = some { cls := .type "tuple", data := .seq #[u1, u2] } := (sb.2 _ (Nat.ne_of_gt zl)).trans hT
    have new : ObjOk X.prog X.w (upd H s.heap.objs.size (.tup [x, y])) h2' s.heap.objs.size (.tup [x, y]) := ⟨by show 2 ≤ sizeLine; decide, [u1, u2], .cons r1 (.cons r2 .nil), ⟨_, hT2, rfl, _, rfl⟩⟩
    have kept : ∀ c o, c ∉ [z, TI, TO, i1, i2] → s.heap.get? c = some o → h2'.get? c = some o := fun c o m q => by
      simp only [List.mem_cons, List.not_mem_nil, or_false, not_or] at m
      exact (sb.2 c m.1).trans (hk c o m.1 m.2.2.1 m.2.2.2.1 m.2.2.2.2 q)
    have I1 : Inv X pins σ (upd H s.heap.objs.size (.tup [x, y])) { s with heap := h2', toks := tk } := I.turnedNew (t' := tk) (ch := [z, TI, TO, i1, i2]) kept hf (Nat.le_refl _) new
    refine ⟨.ref s.heap.objs.size, _, I1, rfl, ⟨_, x, y, rfl, I.hok.fresh (Nat.le_refl _), rfl, fun l hl => by rw [one_src I hl q1]; exact hx, fun l hl => by rw [one_src I hl q2]; exact hy⟩, ⟨z2, ?_, ⟨u1, u2, ?_⟩, ?_, ?_⟩, fun c m => ?_⟩
    · exact (sb.2 _ F.TIz).trans (hk _ _ F.TIz F.TITO F.TIi1 F.TIi2 hTI)
    · exact (sb.2 _ F.TOz).trans TO'
    · exact (b1 _ _ s1').at fun o q => (sb.2 _ F.i1z).trans q
    · exact (b2 _ _ s2').at fun o q => (sb.2 _ F.i2z).trans q
    · have lt : c < s.heap.objs.size := by
        simp only [List.mem_cons, List.not_mem_nil, or_false] at m
        rcases m with rfl | rfl | rfl | rfl | rfl
        · exact zl
        · exact Heap.lt_size hTI
        · exact Heap.lt_size hTO
        · obtain ⟨_, e, _⟩ := h1.obj; exact Heap.lt_size e
        · obtain ⟨_, e, _⟩ := h2.obj; exact Heap.lt_size e
      rw [upd_ne (Nat.ne_of_lt lt)]
      exact (hf c m).1
  done := by
    intro X hP hw hK hc i pins s σ H E I hf st hg
    subst hP hw hK
    obtain ⟨hz, hTI, ⟨x0, y0, hTO⟩, h1, h2⟩ := st
    obtain ⟨xs, ys, q1, q2, he⟩ := hg
    obtain ⟨fp1, P1, S1, D1, st1, m1, f1, b1, v1⟩ := draws_at hc I q1 h1 fun a e => (F.s1 a e).2.2.1
    obtain ⟨fp2, P2, S2, D2, st2, m2, f2, b2, v2⟩ := draws_at hc I q2 h2 fun a e => (F.s2 a e).2.2.2
    refine wpAny_pyNext_zipD2_end (sep_of F m1 m2 f1 f2) D1 D2 hz hTI hTO st1 st2 (by omega) (by omega) (by omega) fun h' tk hk => ⟨rfl, I.turnedL (t' := tk) (ch := [z, TI, TO, i1, i2]) (fun c o m q => ?_) hf⟩
    simp only [List.mem_cons, List.not_mem_nil, or_false, not_or] at m
    exact hk c o m.1 m.2.2.1 m.2.2.2.1 m.2.2.2.2 q
  self := fun A i s Q E st h => wpAny_pyIter_zip st.1 h
def beginObj : Value → SK → Obj
  | v, .lst _ => { cls := .type "list_iterator", data := .fields #[v, .int 0 0] }
  | v, .tup _ => { cls := .type "tuple_iterator", data := .fields #[v, .int 0 0] }
  | v, .str z => { cls := .type (strIterType z), data := .fields #[v, .int 0 0] }
theorem begin_at {X : Cx} {pins : List (Addr × Obj)} {σ : L2.St} {H : Hp} {s : Shared} (I : Inv X pins σ H s) {k : SK} {xs : List V} (src : SrcAt X.K H k xs) {v : Value} (r : RelV k.v v) :
    ∃ B : Heap → Prop, Begins v (beginObj v k) B ∧ B s.heap ∧ (∀ a, k.addr = some a → a < s.heap.objs.size) ∧ ∀ h' it, h'.get? it = some (beginObj v k) → IterAt h' it k 0 := by
  cases k with
  | lst a =>
    cases r
    obtain ⟨its, rv, pl, _⟩ := I.list src
    exact ⟨_, begins_list a its.toArray, pl.isList, fun b e => by cases e; exact pl.lt, fun h' it e => ⟨_, e, rfl, rfl⟩⟩
  | tup a =>
    cases r
    obtain ⟨its, rv, pl, _⟩ := I.tuple src
    exact ⟨_, begins_tuple a its.toArray, pl, fun b e => by cases e; obtain ⟨o, q, _⟩ := pl; exact Heap.lt_size q, fun h' it e => ⟨_, e, rfl, rfl⟩⟩
  | str z =>
    obtain ⟨t, rfl⟩ := r
    exact ⟨_, begins_text z t, trivial, fun b e => (nomatch e), fun h' it e => ⟨t, _, e, rfl, rfl⟩⟩
def iTwo (K : PySem.W.Frag) (ta : TA) : L2.TI := fun σ H R => ta σ H fun vs H1 => ∃ k1 k2, vs = [SK.v k1, SK.v k2] ∧ (∃ xs, SrcAt K H1 k1 xs) ∧ (∃ ys, SrcAt K H1 k2 ys) ∧ R (ItZ K k1 k2) H1
theorem pi_two {X : Cx} {e e2 : Expr} {ta : TA} {p pos tpos : Pos} {elts : List Expr} {kk : Nat} (hg : Gl X "zip") (hm : X.mg "zip" = none) (ha : PA X [e, e2] ta)
    (hs : starEach [e, e2] X.env = (false, eval e X.env) :: starEach [e2] X.env) (hpl : (backTo pos (starEach [e2] X.env)).any (·.1) = false) : PI X (.Tuple elts kk tpos) (.Call (.Name "zip" p) [e, e2] [] pos) (iTwo X.K ta) := by
  refine ⟨fun pins s σ H R I h => ?_⟩
  refine Call_ (ld_blt I hg hm PyProof.Rows.boot_zip (PyProof.Rows.callWith_type1 (thn (ha.run pos pins s σ H _ I h) fun us s1 ⟨vs, H1, I1, r1, k1, k2, ev, ⟨xs, q1⟩, ⟨ys, q2⟩, q⟩ => ?_) hs hpl))
  subst ev
  obtain ⟨u1, u2, rfl, v1, v2⟩ := vals2 r1
  obtain ⟨B1, b1, c1, l1, t1⟩ := begin_at I1 q1 v1
  obtain ⟨B2, b2, c2, l2, t2⟩ := begin_at I1 q2 v2
  refine zip_begins2 b1 b2 c1 c2 fun h' hz hTI hTO h1 h2 hsz hk => wpAny_pyIter_zip hz ?_
  have I2 : Inv X pins σ H1 { s1 with heap := h' } := I1.kept (t' := s1.toks) hk
  have far : ∀ (k : SK), (∀ a, k.addr = some a → a < s1.heap.objs.size) → ∀ a, k.addr = some a → a ≠ s1.heap.objs.size + 4 ∧ a ≠ s1.heap.objs.size + 3 ∧ a ≠ s1.heap.objs.size ∧ a ≠ s1.heap.objs.size + 1 := fun k l a e => by
    have q : a < s1.heap.objs.size := l a e
    exact ⟨Nat.ne_of_lt (Nat.lt_of_lt_of_le q (Nat.le_add_right _ _)), Nat.ne_of_lt (Nat.lt_of_lt_of_le q (Nat.le_add_right _ _)), Nat.ne_of_lt q, Nat.ne_of_lt (Nat.lt_of_lt_of_le q (Nat.le_add_right _ _))⟩
  have ne : ∀ {i j : Nat}, i ≠ j → s1.heap.objs.size + i ≠ s1.heap.objs.size + j := fun h e => h (by omega)
  refine ⟨s1.heap.objs.size + 4, [s1.heap.objs.size + 4, s1.heap.objs.size + 2, s1.heap.objs.size + 3, s1.heap.objs.size, s1.heap.objs.size + 1], _, _, H1, rfl, I2, turn_two ⟨ne (by decide), ne (by decide), ne (by decide), ne (i := 2) (j := 0) (by decide), ne (by decide), ne (i := 0) (by decide), ne (by decide), ne (i := 3) (j := 0) (by decide), ne (by decide), ne (i := 0) (by decide), far k1 l1, far k2 l2⟩,
    ⟨hz, hTI, ⟨_, _, hTO⟩, t1 _ _ h1, t2 _ _ h2⟩, fun c m => ?_, q⟩
  have hle : s1.heap.objs.size ≤ c := by
    simp only [List.mem_cons, List.not_mem_nil, or_false] at m
    rcases m with rfl | rfl | rfl | rfl | rfl <;> omega
  exact I1.fpOk hle (I1.hok.fresh hle)
section
variable {X : Cx} {W : WX} {P : Env}
/-- how a thing of data is gone through -/
def kindOf : D → V → SK
  | .list _, .ref a => .lst a
  | .tuple _, .ref a => .tup a
  | .str z, _ => .str z
  | _, _ => .str Str.empty
theorem src_kind {K : PySem.W.Frag} {M : Addr → Prop} {H : Hp} {x : D} {v : V} {xs : List D} (dn : Dn K M H true x v) (e : seqItems x = some xs) : v = (kindOf x v).v ∧ ∃ vs, SrcAt K H (kindOf x v) vs ∧ DnL K M H xs vs := by
  cases x with
  | list ys =>
    cases e
    obtain ⟨a, vs, rfl, hs, l⟩ := dn.sql
    exact ⟨rfl, vs, hs, l⟩
  | tuple ys =>
    cases e
    obtain ⟨a, vs, rfl, hs, l⟩ := dn.sqt
    exact ⟨rfl, vs, hs, l⟩
  | str z =>
    cases e
    cases dn
    refine ⟨rfl, signs z, rfl, ?_⟩
    unfold signs
    generalize z.cps.toList = l
    induction l with
    | nil => exact .nil
    | cons c l ih => exact .cons (.str _) ih
  | _ => cases e
theorem zipW_get {xs ys : List D} {i : Nat} {z : D} (h : (List.zipWith (fun a b => PyData.tuple [a, b]) xs ys)[i]? = some z) : ∃ x y, xs[i]? = some x ∧ ys[i]? = some y ∧ z = .tuple [x, y] := by
  rw [List.getElem?_zipWith] at h
  cases e1 : xs[i]? with
  | none => rw [e1] at h; cases h
  | some x =>
    cases e2 : ys[i]? with
    | none => rw [e1, e2] at h; cases h
    | some y =>
      rw [e1, e2] at h
      cases h
      exact ⟨x, y, rfl, rfl, rfl⟩
theorem src_two {K : PySem.W.Frag} {G : Gh} {S : Ste} {σ : L2.St} {H : Hp} {x y : D} {v u : V} {xs ys : List D} (dx : Dn K (MM G S.rho σ) H true x v) (dy : Dn K (MM G S.rho σ) H true y u) (ex : seqItems x = some xs) (ey : seqItems y = some ys) :
    Src K (ItZ K (kindOf x v) (kindOf y u)) (List.zipWith (fun a b => .tuple [a, b]) xs ys) G S σ H := fun G' S' σ' H' o r i => by
  obtain ⟨_, vs, s1, l1⟩ := src_kind (Dn.mono r.mono _ _ dx) ex
  obtain ⟨_, us, s2, l2⟩ := src_kind (Dn.mono r.mono _ _ dy) ey
  refine ⟨fun hi => ⟨vs, us, s1, s2, by rw [List.length_zipWith, l1.length, l2.length] at hi; exact hi.symm⟩, fun z hz => ?_⟩
  obtain ⟨a, b, ha, hb, rfl⟩ := zipW_get hz
  obtain ⟨v1, e1, d1⟩ := l1.get ha
  obtain ⟨v2, e2, d2⟩ := l2.get hb
  refine ⟨⟨vs, us, v1, v2, s1, s2, e1, e2⟩, fun w H'' ⟨T, w1, w2, eu, nT, eH, h1, h2⟩ => ?_⟩
  subst eu eH
  have q1 := h1 vs s1
  have q2 := h2 us s2
  rw [e1] at q1
  rw [e2] at q2
  cases q1
  cases q2
  exact ⟨Same.upd nT, newT (fun b m => o.tracked m) nT (.cons d1 (.cons d2 .nil))⟩
theorem it_zip {as : Cs} {S : Ste} : evIt P (.zip as) S = (evs P as S).bind fun xs s => Res.of (((dats xs).bind zipD).map fun xs => (xs, none)) s := by rw [evIt]
theorem si_zip {elts : List Expr} {kk : Nat} {tpos : Pos} {a b : Expr} {c d : C} {p pos : Pos} (hg : Gl X "zip") (hm : X.mg "zip" = none) (ha : PE X a (tE X.K W (ev P c))) (hb : PE X b (tE X.K W (ev P d))) (hs : starEach [a, b] X.env = [(false, eval a X.env), (false, eval b X.env)]) (hs2 : starEach [b] X.env = [(false, eval b X.env)]) :
    PI X (.Tuple elts kk tpos) (.Call (.Name "zip" p) [a, b] [] pos) (tI X.K W (evIt P (.zip (.cons c (.cons d .nil))))) :=
  (pi_two hg hm (pa_cons ha (pa_cons hb pa_nil hs2) (by rw [hs, hs2])) (by rw [hs, hs2]) (by rw [hs2]; rfl)).imp fun σ H R h => by
  obtain ⟨G, S, o, q⟩ := h
  have e : evIt P (.zip (.cons c (.cons d .nil))) S = (ev P c S).bind fun x s => (ev P d s).bind fun y s => Res.of (((dats [x, y]).bind zipD).map fun xs => (xs, none)) s := by
    rw [it_zip]
    simp only [evs]
    cases ev P c S with
    | ok x s => simp only [Res.bind]; cases ev P d s <;> rfl
    | er c s => rfl
    | stuck => rfl
  rw [e] at q
  refine ⟨G, S, o, q.seq fun G0 S0 x v H0 o0 st0 r0 q0 => ⟨G0, S0, o0, q0.seq fun G1 S1 y u H1 o1 st1 r1 p1 => ?_⟩⟩
  have r0 := VD.step st1 r0
  cases x with
  | r n => exact p1.elim
  | pk n => exact p1.elim
  | d x =>
    cases y with
    | r n => exact p1.elim
    | pk n => exact p1.elim
    | d y =>
      have dx : Dn X.K (MM G1 S1.rho σ) H1 true x v := r0
      have dy : Dn X.K (MM G1 S1.rho σ) H1 true y u := r1
      have p1 : Post X.K W (RI X.K) G1 S1 σ H1 R (Res.of ((zipD [x, y]).map fun xs => (xs, none)) S1) := p1
      unfold zipD at p1
      cases ex : seqItems x with
      | none => simp only [ex] at p1; exact p1.elim
      | some xs =>
        cases ey : seqItems y with
        | none => simp only [ex, ey] at p1; exact p1.elim
        | some ys =>
          simp only [ex, ey] at p1
          obtain ⟨e1, vs, s1, _⟩ := src_kind dx ex
          obtain ⟨e2, us, s2, _⟩ := src_kind dy ey
          exact ⟨kindOf x v, kindOf y u, by rw [← e1, ← e2], ⟨vs, s1⟩, ⟨us, s2⟩, p1 G1 _ H1 o1 (Stp.refl _ _ _ _) (src_two dx dy ex ey)⟩
end
end EV
end
section
set_option Elab.async false
set_option linter.all false
set_option maxRecDepth 100000
set_option maxHeartbeats 4000000
set_option autoImplicit false
/-! EvH: comprehensions -/
namespace EV
open PySem L2

/-! ### slots put aside and back -/
theorem wipe_ge {σ : St} {i : Nat} : ∀ {vs : List Nat}, (wipe σ vs)[i]? = if i ∈ vs then (σ[i]?).map fun _ => none else σ[i]?
  | [] => by simp [wipe]
  | v :: vs => by
    unfold wipe
    rw [List.getElem?_set, wipe_length]
    by_cases h : v = i
    · subst h
      rw [if_pos rfl]
      by_cases hv : v < σ.length
      · rw [if_pos hv]; simp [List.getElem?_eq_getElem hv]
      · rw [if_neg hv]; simp [List.getElem?_eq_none (Nat.le_of_not_lt hv)]
    · rw [if_neg h, wipe_ge]
      have : (i ∈ v :: vs) ↔ i ∈ vs := by simp [Ne.symm h]
      simp only [this]
theorem wipeR_len (rho : List Slot) : ∀ vs : List Nat, (wipeR rho vs).length = rho.length
  | [] => rfl
  | v :: vs => by unfold wipeR; rw [List.length_set, wipeR_len rho vs]
theorem wipeR_ge {rho : List Slot} {i : Nat} : ∀ {vs : List Nat}, (wipeR rho vs)[i]? = if i ∈ vs then (rho[i]?).map fun _ => .non else rho[i]?
  | [] => by simp [wipeR]
  | v :: vs => by
    unfold wipeR
    rw [List.getElem?_set, wipeR_len]
    by_cases h : v = i
    · subst h
      rw [if_pos rfl]
      by_cases hv : v < rho.length
      · rw [if_pos hv]; simp [List.getElem?_eq_getElem hv]
      · rw [if_neg hv]; simp [List.getElem?_eq_none (Nat.le_of_not_lt hv)]
    · rw [if_neg h, wipeR_ge]
      have : (i ∈ v :: vs) ↔ i ∈ vs := by simp [Ne.symm h]
      simp only [this]
theorem backR_len (rho0 rho : List Slot) : ∀ vs : List Nat, (backR rho0 rho vs).length = rho.length
  | [] => rfl
  | v :: vs => by
    unfold backR
    cases rho0[v]? with
    | none => exact backR_len rho0 rho vs
    | some x =>
      show ((backR rho0 rho vs).set v x).length = _
      rw [List.length_set, backR_len rho0 rho vs]
theorem backR_ge {rho0 rho : List Slot} (hl : rho0.length = rho.length) {i : Nat} : ∀ {vs : List Nat}, (backR rho0 rho vs)[i]? = if i ∈ vs then rho0[i]? else rho[i]?
  | [] => by simp [backR]
  | v :: vs => by
    unfold backR
    cases e : rho0[v]? with
    | none =>
      show (backR rho0 rho vs)[i]? = _
      rw [backR_ge hl]
      by_cases h : v = i
      · subst h
        have : rho[v]? = none := by
          rw [List.getElem?_eq_none_iff] at e ⊢
          omega
        simp [e, this]
      · have : (i ∈ v :: vs) ↔ i ∈ vs := by simp [Ne.symm h]
        simp only [this]
    | some x =>
      show ((backR rho0 rho vs).set v x)[i]? = _
      rw [List.getElem?_set, backR_len]
      by_cases h : v = i
      · subst h
        have hv := (List.getElem?_eq_some_iff.mp e).1
        rw [if_pos rfl, if_pos (by omega)]
        simp [e]
      · rw [if_neg h, backR_ge hl]
        have : (i ∈ v :: vs) ↔ i ∈ vs := by simp [Ne.symm h]
        simp only [this]
theorem frees_at : ∀ {vs : List Nat} {rho : List Slot}, frees vs rho = true → ∀ v ∈ vs, ∀ x, rho[v]? ≠ some (.own x) ∧ rho[v]? ≠ some (.lck x)
  | [], _, _, _, h, _ => by simp at h
  | i :: r, rho, f, v, h, x => by
    unfold frees at f
    rw [Bool.and_eq_true] at f
    rcases List.mem_cons.mp h with rfl | h
    · refine ⟨fun e => ?_, fun e => ?_⟩ <;> (rw [e] at f; exact nomatch f.1)
    · exact frees_at f.2 v h x
section
variable {K : PySem.W.Frag} {G G' : Gh} {S S' : Ste} {σ σ' : St} {H H' : Hp}
theorem wipe_eq {a b : St} {vs : List Nat} (hl : a.length = b.length) (h : ∀ j, j ∉ vs → a[j]? = b[j]?) : wipe a vs = wipe b vs := by
  apply List.ext_getElem?
  intro i
  rw [wipe_ge, wipe_ge]
  split
  · by_cases hi : i < a.length
    · rw [List.getElem?_eq_getElem hi, List.getElem?_eq_getElem (by omega)]; rfl
    · rw [List.getElem?_eq_none (by omega), List.getElem?_eq_none (by omega)]
  · rename_i hi
    exact h i hi
theorem wipe_wipe {a : St} {vs : List Nat} : wipe (wipe a vs) vs = wipe a vs := wipe_eq (wipe_length _ _) fun j hj => by rw [wipe_ge, if_neg hj]
theorem own_wipe {vs : List Nat} {i : Nat} {a : Addr} (w : OwnAt (wipeR S.rho vs) (wipe σ vs) i a) : OwnAt S.rho σ i a ∧ i ∉ vs := by
  obtain ⟨⟨x, h⟩, e⟩ := w
  rw [wipeR_ge] at h
  rw [wipe_ge] at e
  split at h
  · rename_i hi
    rw [if_pos hi] at e
    cases hs : σ[i]? with
    | none => rw [hs] at e; cases e
    | some u => rw [hs] at e; cases e
  · rename_i hi
    rw [if_neg hi] at e
    exact ⟨⟨⟨x, h⟩, e⟩, hi⟩
/-- slots forgotten -/
theorem Ok.wiped (o : Ok K G S σ H) (vs : List Nat) : Ok K G { S with rho := wipeR S.rho vs } (wipe σ vs) H ∧ ∀ b, MM G (wipeR S.rho vs) (wipe σ vs) b → MM G S.rho σ b := by
  have less : ∀ b, MM G (wipeR S.rho vs) (wipe σ vs) b → MM G S.rho σ b := fun b h => by
    rcases h with h | ⟨i, h⟩ | h
    · exact .inl h
    · exact .inr (.inl ⟨i, (own_wipe h).1⟩)
    · exact .inr (.inr h)
  refine ⟨o.less (by rw [wipeR_len, wipe_length]; exact o.len) rfl (fun i a w => ?_) (fun i j a h1 h2 => o.inj i j a (own_wipe h1).1 (own_wipe h2).1) less (fun _ h => h) (fun i x e => ?_) (fun i x e => ?_), less⟩
  · obtain ⟨w', hi⟩ := own_wipe w
    obtain ⟨⟨x, h⟩, e⟩ := w
    rw [wipeR_ge, if_neg hi] at h
    obtain ⟨b, e1, _, c⟩ := o.at h
    rw [w'.2] at e1
    cases e1
    refine ⟨⟨x, by rw [wipeR_ge, if_neg hi]; exact h, c⟩, fun m => (o.s1 a m).1 ⟨i, w'⟩, o.s2 a ⟨i, w'⟩⟩
  · rw [wipeR_ge] at e
    split at e
    · cases hs : S.rho[i]? with
      | none => rw [hs] at e; cases e
      | some u => rw [hs] at e; cases e
    · rename_i hi
      rw [wipe_ge, if_neg hi]
      exact o.val i x e
  · rw [wipeR_ge] at e
    split at e
    · cases hs : S.rho[i]? with
      | none => rw [hs] at e; rcases e with e | e <;> cases e
      | some u => rw [hs] at e; rcases e with e | e <;> cases e
    · rename_i hi
      rw [wipe_ge, if_neg hi]
      obtain ⟨b, e1, _⟩ := o.at e
      exact ⟨b, e1⟩
theorem own_back {vs : List Nat} (hl : S.rho.length = S'.rho.length) (fr : ∀ v ∈ vs, ∀ x, S.rho[v]? ≠ some (.own x) ∧ S.rho[v]? ≠ some (.lck x)) (i : Nat) (a : Addr) :
    OwnAt (backR S.rho S'.rho vs) σ i a ↔ OwnAt S'.rho (wipe σ vs) i a := by
  unfold OwnAt
  rw [backR_ge hl, wipe_ge]
  by_cases hi : i ∈ vs
  · simp only [if_pos hi]
    constructor
    · rintro ⟨⟨x, h⟩, _⟩
      rcases h with h | h
      · exact ((fr i hi x).1 h).elim
      · exact ((fr i hi x).2 h).elim
    · rintro ⟨_, e⟩
      cases hs : σ[i]? with
      | none => rw [hs] at e; cases e
      | some u => rw [hs] at e; cases e
  · simp only [if_neg hi]
theorem Ok.back {vs : List Nat} (o : Ok K G S σ H) (o' : Ok K G' S' (wipe σ vs) H') (fr : ∀ v ∈ vs, ∀ x, S.rho[v]? ≠ some (.own x) ∧ S.rho[v]? ≠ some (.lck x))
    (k : Keeps (MM G S.rho σ) H (MM G' S'.rho (wipe σ vs)) H') (io : ∃ l, G'.io = G.io ++ l) :
    Ok K G' { S' with rho := backR S.rho S'.rho vs } σ H' ∧ MM G' (backR S.rho S'.rho vs) σ = MM G' S'.rho (wipe σ vs) := by
  have hl : S.rho.length = S'.rho.length := by rw [o.len, o'.len, wipe_length]
  have own := own_back (σ := σ) hl fr
  have mm : MM G' (backR S.rho S'.rho vs) σ = MM G' S'.rho (wipe σ vs) := by
    funext b
    apply propext
    unfold MM Own
    simp only [own]
  refine ⟨⟨by show (backR _ _ _).length = _; rw [backR_len, o'.len, wipe_length], fun i x e => ?_, fun i x e => ?_, fun i j a h1 h2 => o'.inj i j a ((own i a).mp h1) ((own j a).mp h2), o'.hlen, fun n x e => ?_, o'.nd,
    fun b m => ⟨fun ⟨j, q⟩ => (o'.s1 b m).1 ⟨j, (own j b).mp q⟩, (o'.s1 b m).2⟩, fun b ⟨j, q⟩ => o'.s2 b ⟨j, (own j b).mp q⟩, o'.tr⟩, mm⟩
  · have e : (backR S.rho S'.rho vs)[i]? = _ := e
    show ∃ v, _ ∧ SD K G'.io (MM G' (backR S.rho S'.rho vs) σ) H' x v
    rw [mm]
    rw [backR_ge hl] at e
    split at e
    · obtain ⟨v, h1, h2⟩ := o.val i x e
      exact ⟨v, h1, SD.mono k io h2⟩
    · rename_i hi
      obtain ⟨v, h1, h2⟩ := o'.val i x e
      rw [wipe_ge, if_neg hi] at h1
      exact ⟨v, h1, h2⟩
  · have e : (backR S.rho S'.rho vs)[i]? = _ ∨ (backR S.rho S'.rho vs)[i]? = _ := e
    show ∃ a, _ ∧ Cont K (MM G' (backR S.rho S'.rho vs) σ) H' a x
    rw [mm]
    rw [backR_ge hl] at e
    split at e
    · rename_i hi
      rcases e with e | e
      · exact ((fr i hi x).1 e).elim
      · exact ((fr i hi x).2 e).elim
    · rename_i hi
      obtain ⟨a, h1, c⟩ := o'.own i x e
      rw [wipe_ge, if_neg hi] at h1
      exact ⟨a, h1, c⟩
  · show ∃ a, _ ∧ Cont K (MM G' (backR S.rho S'.rho vs) σ) H' a x
    rw [mm]
    exact o'.heap n x e
/-- what nobody else knows is written -/
theorem Ok.wrA (o : Ok K G S σ H) {a : Addr} (m : G.A a) (u : HO) : Ok K G S σ (upd H a u) := by
  have k : Keeps (MM G S.rho σ) H (MM G S.rho σ) (upd H a u) := Keeps.at (.inr (.inr m))
  refine ⟨o.len, fun i x e => ?_, fun i x e => ?_, o.inj, o.hlen, fun n x e => ?_, o.nd, o.s1, o.s2, fun b h => ?_⟩
  · obtain ⟨v, h1, h2⟩ := o.val i x e
    exact ⟨v, h1, SD.mono k ⟨[], by simp⟩ h2⟩
  · obtain ⟨b, h1, w, c⟩ := o.at e
    exact ⟨b, h1, c.mono k (upd_ne fun z => o.s2 b ⟨i, w⟩ (by rw [z]; exact m))⟩
  · obtain ⟨b, h1, c⟩ := o.heap n x e
    exact ⟨b, h1, c.mono k (upd_ne fun z => (o.s1 b (List.mem_of_getElem? h1)).2 (by rw [z]; exact m))⟩
  · by_cases hb : b = a
    · subst hb; exact ⟨u, upd_same⟩
    · rw [upd_ne hb]; exact o.tr b h
end
theorem lcLoop_len {turn : D → Ste → Res (Option D)} : ∀ {xs acc ys : List D} {s s' : Ste}, lcLoop turn xs acc s = .ok ys s' → acc.length ≤ ys.length
  | [], acc, ys, s, s', h => by
    unfold lcLoop at h
    cases h
    exact Nat.le_refl _
  | x :: xs, acc, ys, s, s', h => by
    unfold lcLoop at h
    split at h
    · exact lcLoop_len h
    · have := lcLoop_len h
      rw [List.length_append] at this
      simp only [List.length_cons, List.length_nil] at this
      omega
    · cases h
end EV
end
section
set_option Elab.async false
set_option linter.all false
set_option maxRecDepth 100000
set_option maxHeartbeats 4000000
set_option autoImplicit false
/-! EvI: comprehensions, the rule -/
namespace EV
open PySem L2
def W0 : WX := fun _ _ _ => False
def lcTurn (P : Env) (vs : List Nat) (tg : Tg) (cs : Cs) (e : C) : D → Ste → Res (Option D) := fun x s => match bindT tg x s.rho with
  | some rho => (evTs P cs { s with rho := rho }).bind fun b s =>
      if b then (ev P e s).bind fun y s => (match y with
        | .d y => .ok (some y) { s with rho := wipeR s.rho vs }
        | _ => .stuck) else .ok none { s with rho := wipeR s.rho vs }
  | none => .stuck
theorem lc_ev {P : Env} {vs : List Nat} {tg : Tg} {it : It} {cs : Cs} {e : C} {S : Ste} : ev P (.lc vs tg it cs e) S = (evIt P it S).bind fun xs s1 => if frees vs s1.rho then
      match lcLoop (lcTurn P vs tg cs e) xs.1 [] { s1 with rho := wipeR s1.rho vs } with
      | .ok ys s2 => if ys.length ≤ lim then .ok (.d (.list ys)) { s2 with rho := unlock xs.2 (backR s1.rho s2.rho vs) } else .stuck
      | _ => .stuck
    else .stuck := by
  rw [ev] <;> rfl
theorem evIt_own {P : Env} {it : It} {S S1 : Ste} {xs : List D} {i : Nat} (h : evIt P it S = .ok (xs, some i) S1) : S.rho[i]? = some (.own (.list xs)) ∧ S1 = { S with rho := S.rho.set i (.lck (.list xs)) } := by
  cases it with
  | seq a =>
    rw [it_seq] at h
    cases e : ev P a S with
    | ok x s =>
      rw [e] at h
      cases x with
      | d x =>
        simp only [Res.bind] at h
        cases e2 : seqItems x with
        | none => rw [e2] at h; cases h
        | some ys => rw [e2] at h; cases h
      | r n => cases h
      | pk n => cases h
    | er c s => rw [e] at h; cases h
    | stuck => rw [e] at h; cases h
  | enum a =>
    rw [it_enum] at h
    cases e : ev P a S with
    | ok x s =>
      rw [e] at h
      cases x with
      | d x => cases x <;> cases h
      | r n => cases h
      | pk n => cases h
    | er c s => rw [e] at h; cases h
    | stuck => rw [e] at h; cases h
  | slot j =>
    rw [evIt] at h
    split at h
    · rename_i ys e
      cases h
      exact ⟨e, rfl⟩
    · cases h
    · rename_i y e
      cases e2 : seqItems y with
      | none => rw [e2] at h; cases h
      | some ys => rw [e2] at h; cases h
    · cases h
  | zip as =>
    rw [it_zip] at h
    cases e : evs P as S with
    | ok x s =>
      rw [e] at h
      simp only [Res.bind] at h
      cases e2 : (dats x).bind zipD with
      | none => rw [e2] at h; cases h
      | some ys => rw [e2] at h; cases h
    | er c s => rw [e] at h; cases h
    | stuck => rw [e] at h; cases h
  | rng as =>
    rw [it_rng] at h
    cases e : evs P as S with
    | ok x s =>
      rw [e] at h
      simp only [Res.bind] at h
      cases e2 : (s.ress x).bind rngItems with
      | none => rw [e2] at h; cases h
      | some ys => rw [e2] at h; cases h
    | er c s => rw [e] at h; cases h
    | stuck => rw [e] at h; cases h
section
variable {K : PySem.W.Frag} {G G' : Gh} {S S' : Ste} {σ σ' : St} {H H' : Hp}
theorem MM.withA {rho : List Slot} {A : Addr → Prop} (h : ∀ a, A a → G.A a) : ∀ a, MM { G with A := A } rho σ a → MM G rho σ a := fun a m => by
  rcases m with m | m | m
  · exact .inl m
  · exact .inr (.inl m)
  · exact .inr (.inr (h a m))
/-- what a loop keeps -/
structure Lp (G : Gh) (S : Ste) (σ : St) (H : Hp) (G' : Gh) (S' : Ste) (σ' : St) (H' : Hp) : Prop where
  io : ∃ l, G'.io = G.io ++ l
  mono : Keeps (MM G S.rho σ) H (MM G' S'.rho σ') H'
  anon : ∀ a, G.A a → H' a = H a
  lck : ∀ (i : Nat) (x : D), S.rho[i]? = some (.lck x) → S'.rho[i]? = some (.lck x) ∧ σ'[i]? = σ[i]?
  tr : ∀ a o, H a = some o → ∃ u, H' a = some u
theorem Lp.rch (l : Lp G S σ H G' S' σ' H') : Rch G S σ H G' S' σ' H' := ⟨l.mono, l.lck⟩
end
section
variable {X : Cx} {W : WX} {P : Env}
/-- what stands before turn i -/
structure LcI (K : PySem.W.Frag) (P : Env) (vs : List Nat) (tg : Tg) (cs : Cs) (e : C) (items ys : List D) (Sf : Ste) (G1 : Gh) (S1 : Ste) (σ : St) (H1 : Hp) (D0 : Addr) (i : Nat) (H : Hp) : Prop where
  le : i ≤ items.length
  ex : ∃ (G : Gh) (S : Ste) (acc : List D) (av : List V), lcLoop (lcTurn P vs tg cs e) (items.drop i) acc S = .ok ys Sf ∧ Ok K G S (wipe σ vs) H ∧ (G.A = fun a => a = D0 ∨ G1.A a) ∧ H D0 = some (.lst av) ∧ DnL K (MM G S.rho (wipe σ vs)) H acc av ∧
    (∀ v ∈ vs, ∀ x, S.rho[v]? = some x → x = .non) ∧ Lp G1 S1 σ H1 G { S with rho := backR S1.rho S.rho vs } σ H
theorem evTs_nil {S : Ste} : evTs P .nil S = .ok true S := by rw [evTs]
theorem evTs_one {c : C} : evTs P (.cons c .nil) = evB P c := by
  funext S
  rw [evTs]
  unfold evB
  cases ev P c S with
  | ok x s =>
    simp only [Res.bind]
    cases (s.res x).bind truth with
    | none => rfl
    | some b => cases b <;> simp only [evTs] <;> rfl
  | er c s => rfl
  | stuck => rfl
theorem sts_nil : PTs X [] (tT X.K W (evTs P .nil)) := ⟨fun pn s σ H Q I h => pts_nil.run pn s σ H Q I (by
  obtain ⟨G, S, o, p⟩ := h
  rw [evTs_nil] at p
  exact p G _ H o (Stp.refl _ _ _ _) rfl)⟩
theorem sts_one {c : Expr} {a : C} (h : PT X c (tT X.K W (evB P a))) : PTs X [c] (tT X.K W (evTs P (.cons a .nil))) := by
  rw [evTs_one]
  exact pts_one h
theorem lc_read {vs : List Nat} {tg : Tg} {it : It} {cs : Cs} {e : C} (sub : ∀ j ∈ slotsT tg, j ∈ vs) {σ : St} {H : Hp} {Q : VK} (h : tF X.K W (ev P (.lc vs tg it cs e)) σ H Q) :
    tLc (tI X.K W (evIt P it)) (tG X.K tg) (tT X.K W0 (evTs P cs)) (tE X.K W0 (ev P e)) vs σ H Q := by
  obtain ⟨G, S, o, p⟩ := h
  rw [lc_ev] at p
  refine ⟨G, S, o, ?_⟩
  cases eit : evIt P it S with
  | er c S' => rw [eit] at p; exact p
  | stuck => rw [eit] at p; exact p
  | ok xs S1 =>
    obtain ⟨items, lk⟩ := xs
    rw [eit] at p
    intro G1 J H1 o1 st1 src D0 n0
    simp only [Res.bind] at p
    split at p
    case isFalse => exact p.elim
    rename_i hfr
    have fr := frees_at hfr
    cases eL : lcLoop (lcTurn P vs tg cs e) items [] { S1 with rho := wipeR S1.rho vs } with
    | er c s => rw [eL] at p; exact p.elim
    | stuck => rw [eL] at p; exact p.elim
    | ok ys Sf =>
      rw [eL] at p
      dsimp only at p
      split at p
      case isFalse => exact p.elim
      rename_i hys
      refine ⟨fun i m H => m = items.length - i ∧ LcI X.K P vs tg cs e items ys Sf G1 S1 σ H1 D0 i H, ⟨items.length, by simp, Nat.zero_le _, ?_⟩, ?_⟩
      · obtain ⟨o2, k2, s2⟩ := o1.laid (u := .lst []) n0
        obtain ⟨o3, less3⟩ := o2.wiped vs
        have wn : ∀ v ∈ vs, ∀ x, (wipeR S1.rho vs)[v]? = some x → x = .non := fun v hv x hx => by
          rw [wipeR_ge, if_pos hv] at hx
          cases hs : S1.rho[v]? with
          | none => rw [hs] at hx; cases hx
          | some u => rw [hs] at hx; cases hx; rfl
        have k3 : Keeps (MM G1 S1.rho σ) H1 (MM (G1.plus D0) (wipeR S1.rho vs) (wipe σ vs)) (upd H1 D0 (.lst [])) := fun a u ha hn => ⟨(k2 a u ha hn).1, fun z => (k2 a u ha hn).2 (less3 a z)⟩
        obtain ⟨o4, mm⟩ := Ok.back o1 o3 fr k3 ⟨[], by simp [Gh.plus]⟩
        refine ⟨G1.plus D0, _, [], [], by rw [List.drop_zero]; exact eL, o3, rfl, upd_same, .nil, wn, ⟨[], by simp [Gh.plus]⟩, ?_, fun a ha => upd_ne fun z => ?_, fun i x hx => ⟨?_, rfl⟩, s2.tr⟩
        · show Keeps _ _ (MM (G1.plus D0) (backR S1.rho (wipeR S1.rho vs) vs) σ) _
          rw [mm]
          exact k3
        · obtain ⟨u, hu⟩ := o1.tr a ha
          rw [z, n0] at hu
          cases hu
        · show (backR S1.rho (wipeR S1.rho vs) vs)[i]? = _
          rw [backR_ge (by rw [wipeR_len])]
          split
          · exact hx
          · rename_i hi
            rw [wipeR_ge, if_neg hi]
            exact hx
      · rintro i m H2 ⟨rfl, hle, G2, S2, acc, av, eq, o2, eA, hD, la, wn, lp⟩
        have eA' : ∀ a, G2.A a ↔ a = D0 ∨ G1.A a := fun a => by rw [eA]
        have hl : S1.rho.length = S2.rho.length := by rw [o1.len, o2.len, wipe_length]
        have mmB : MM G2 (backR S1.rho S2.rho vs) σ = MM G2 S2.rho (wipe σ vs) := by
          have own := own_back (σ := σ) hl fr
          funext b
          apply propext
          unfold MM Own
          simp only [own]
        have k2 : Keeps (MM G1 S1.rho σ) H1 (MM G2 S2.rho (wipe σ vs)) H2 := by rw [← mmB]; exact lp.mono
        obtain ⟨oB, _⟩ := Ok.back o1 o2 fr k2 lp.io
        obtain ⟨sstop, sgo⟩ := src G2 _ σ H2 oB lp.rch i
        by_cases hlt : i < items.length
        · refine .inr ?_
          have eitm : items[i]? = some items[i] := List.getElem?_eq_getElem hlt
          obtain ⟨jgo, jy⟩ := sgo _ eitm
          refine ⟨jgo, fun H' => LcI X.K P vs tg cs e items ys Sf G1 S1 σ H1 D0 (i + 1) H', fun H' hN => ⟨items.length - (i + 1), by omega, rfl, hN⟩, fun v H3 yld => ?_⟩
          obtain ⟨same, dv⟩ := jy v H3 yld
          have dv : Dn X.K (MM G2 (backR S1.rho S2.rho vs) σ) H3 true items[i] v := dv
          rw [mmB] at dv
          rw [List.drop_eq_getElem_cons hlt] at eq
          unfold lcLoop at eq
          have o3 := o2.same same
          have hD3 : H3 D0 = some (.lst av) := same _ _ hD
          have st3 : Stp G2 S2 (wipe σ vs) H2 G2 S2 (wipe σ vs) H3 := Stp.same o2 same
          -- the turn
          cases eb : bindT tg items[i] S2.rho with
          | none =>
            simp only [lcTurn, eb] at eq
            cases eq
          | some rho =>
            have ln0 : rho.length = S2.rho.length ∨ True := .inr trivial
            refine ⟨G2, S2, items[i], rho, o3, dv, eb, fun σ2 o4 st4 ag ln less => ⟨?_, ?_⟩⟩
            · rw [← wipe_wipe (a := σ)]
              exact wipe_eq ln fun j hj => ag j fun z => hj (sub j z)
            have hw : wipe σ2 vs = wipe σ vs := by
              rw [← wipe_wipe (a := σ)]
              exact wipe_eq ln fun j hj => ag j fun z => hj (sub j z)
            -- behind it
            have fin : ∀ (G5 : Gh) (S5 : Ste) (H5 : Hp) (acc' : List D) (av' : List V), Stp G2 { S2 with rho := rho } σ2 H3 G5 S5 σ2 H5 ∨ (∃ H4, Stp G2 { S2 with rho := rho } σ2 H3 G5 S5 σ2 H4 ∧ H5 = upd H4 D0 (.lst av')) → Ok X.K G5 S5 σ2 H5 →
                lcLoop (lcTurn P vs tg cs e) (items.drop (i + 1)) acc' { S5 with rho := wipeR S5.rho vs } = .ok ys Sf → H5 D0 = some (.lst av') → DnL X.K (MM G5 S5.rho σ2) H5 acc' av' → LcI X.K P vs tg cs e items ys Sf G1 S1 σ H1 D0 (i + 1) H5 := fun G5 S5 H5 acc' av' hst o5 eq5 hD5 la5 => by
              obtain ⟨o6, less6⟩ := o5.wiped vs
              have wn6 : ∀ v ∈ vs, ∀ x, (wipeR S5.rho vs)[v]? = some x → x = .non := fun v hv x hx => by
                rw [wipeR_ge, if_pos hv] at hx
                cases hs : S5.rho[v]? with
                | none => rw [hs] at hx; cases hx
                | some u => rw [hs] at hx; cases hx; rfl
              have facts : G5.A = G2.A ∧ (∃ l, G5.io = G2.io ++ l) ∧ Keeps (MM G2 rho σ2) H3 (MM G5 S5.rho σ2) H5 ∧ (∀ a, a ≠ D0 → G2.A a → H5 a = H3 a) ∧ (∀ (j : Nat) (x : D), rho[j]? = some (.lck x) → S5.rho[j]? = some (.lck x)) ∧ ∀ a u, H3 a = some u → ∃ w, H5 a = some w := by
                rcases hst with st | ⟨H4, st, rfl⟩
                · exact ⟨st.A, st.io, st.mono, fun a _ ha => st.anon a ha, fun j x hx => (st.lck j x hx).1, st.tr⟩
                · have mD : MM G5 S5.rho σ2 D0 := .inr (.inr (by rw [st.A]; exact (eA' D0).mpr (.inl rfl)))
                  refine ⟨st.A, st.io, st.mono.trans (Keeps.at mD), fun a hne ha => by rw [upd_ne hne]; exact st.anon a ha, fun j x hx => (st.lck j x hx).1, fun a u hu => ?_⟩
                  obtain ⟨w, hw⟩ := st.tr a u hu
                  by_cases hz : a = D0
                  · subst hz; exact ⟨_, upd_same⟩
                  · exact ⟨w, by rw [upd_ne hz]; exact hw⟩
              obtain ⟨fA, ⟨l5, fio⟩, fk, fan, flck, ftr⟩ := facts
              have k6 : Keeps (MM G1 S1.rho σ) H1 (MM G5 (wipeR S5.rho vs) (wipe σ2 vs)) H5 := by
                refine (k2.trans st3.mono).trans ?_
                refine Keeps.trans (H1 := H3) (M1 := MM G2 rho σ2) (fun a u ha hn => ⟨ha, fun z => hn (less a z)⟩) (fk.trans fun a u ha hn => ⟨ha, fun z => hn (less6 a z)⟩)
              have io6 : ∃ l, G5.io = G1.io ++ l := by
                obtain ⟨l, hl⟩ := lp.io
                exact ⟨l ++ l5, by rw [fio, hl, List.append_assoc]⟩
              rw [hw] at o6 k6 less6
              obtain ⟨o7, mm7⟩ := Ok.back o1 o6 fr k6 io6
              refine ⟨hlt, G5, _, acc', av', eq5, o6, fA.trans eA, hD5, DnL.anti less6 _ _ la5, wn6, io6, ?_, fun a ha => ?_, fun j x hx => ⟨?_, rfl⟩, fun a u hu => ?_⟩
              · show Keeps _ _ (MM G5 (backR S1.rho (wipeR S5.rho vs) vs) σ) _
                rw [mm7]
                exact k6
              · have ne : a ≠ D0 := fun z => by
                  obtain ⟨u, hu⟩ := o1.tr a ha
                  rw [z, n0] at hu
                  cases hu
                rw [fan a ne ((eA' a).mpr (.inr ha)), st3.anon a ((eA' a).mpr (.inr ha))]
                exact lp.anon a ha
              · have hj : j ∉ vs := fun z => (fr j z x).2 hx
                have h1 := (lp.lck j x hx).1
                have h1 : (backR S1.rho S2.rho vs)[j]? = some (.lck x) := h1
                rw [backR_ge hl, if_neg hj] at h1
                show (backR S1.rho (wipeR S5.rho vs) vs)[j]? = _
                have hl5 : S1.rho.length = (wipeR S5.rho vs).length := by rw [o1.len, o6.len, wipe_length]
                rw [backR_ge hl5, if_neg hj, wipeR_ge, if_neg hj]
                exact flck j x (st4.lck j x h1).1
              · obtain ⟨w, hw⟩ := lp.tr a u hu
                obtain ⟨w2, hw2⟩ := st3.tr a w hw
                exact ftr a w2 hw2
            refine ⟨G2, { S2 with rho := rho }, o4, ?_⟩
            simp only [lcTurn, eb] at eq
            cases et : evTs P cs { S2 with rho := rho } with
            | er c s => rw [et] at eq; cases eq
            | stuck => rw [et] at eq; cases eq
            | ok b S4 =>
              rw [et] at eq
              intro G4 b' H4 o5 st5 hb
              have hb : b = b' := hb
              subst hb
              simp only [Res.bind] at eq
              have hD4 : H4 D0 = some (.lst av) := by rw [st5.anon D0 ((eA' D0).mpr (.inl rfl))]; exact hD3
              have la4 : DnL X.K (MM G4 S4.rho σ2) H4 acc av := DnL.mono st5.mono _ _ (DnL.anti less _ _ (DnL.mono st3.mono _ _ la))
              cases b with
              | false =>
                simp only [Bool.false_eq_true, if_false] at eq ⊢
                exact fin G4 S4 H4 acc av (.inl st5) o5 eq hD4 la4
              | true =>
                simp only [if_true] at eq ⊢
                refine ⟨G4, S4, o5, ?_⟩
                cases ee : ev P e S4 with
                | er c s => rw [ee] at eq; cases eq
                | stuck => rw [ee] at eq; cases eq
                | ok y S5 =>
                  rw [ee] at eq
                  intro G5 v5 H5 o6 st6 r6
                  cases y with
                  | r n => cases eq
                  | pk n => cases eq
                  | d y =>
                    have eq : lcLoop (lcTurn P vs tg cs e) (items.drop (i + 1)) (acc ++ [y]) { S5 with rho := wipeR S5.rho vs } = .ok ys Sf := eq
                    have stt := st5.trans st6
                    have hD5 : H5 D0 = some (.lst av) := by rw [stt.anon D0 ((eA' D0).mpr (.inl rfl))]; exact hD3
                    have la5 : DnL X.K (MM G5 S5.rho σ2) H5 acc av := DnL.mono st6.mono _ _ la4
                    have r6 : Dn X.K (MM G5 S5.rho σ2) H5 true y v5 := r6
                    have aD : G5.A D0 := by rw [stt.A]; exact (eA' D0).mpr (.inl rfl)
                    have kw : Keeps (MM G5 S5.rho σ2) H5 (MM G5 S5.rho σ2) (upd H5 D0 (.lst (av ++ [v5]))) := Keeps.at (.inr (.inr aD))
                    have few := lcLoop_len eq
                    rw [List.length_append] at few
                    simp only [List.length_cons, List.length_nil] at few
                    refine ⟨av, hD5, ?_, fin G5 S5 _ (acc ++ [y]) (av ++ [v5]) (.inr ⟨H5, stt, rfl⟩) (o6.wrA aD _) eq upd_same (DnL.mono kw _ _ (la5.append (.cons r6 .nil)))⟩
                    have := la5.length
                    have h2 : sizeLine ≥ lim := le_size (Nat.le_refl _)
                    omega
        · refine .inl ⟨sstop (by show items.length = i; omega), ?_⟩
          have hi : i = items.length := by omega
          subst hi
          rw [List.drop_length] at eq
          unfold lcLoop at eq
          injection eq with q1 q2
          subst q1 q2
          have nA : ¬ G1.A D0 := fun z => by
            obtain ⟨u, hu⟩ := o1.tr D0 z
            rw [n0] at hu
            cases hu
          have eG : ({ G2 with A := G1.A } : Gh).plus D0 = G2 := by
            show ({ io := G2.io, A := fun a => a = D0 ∨ G1.A a } : Gh) = G2
            rw [← eA]
          have cB : Cont X.K (MM G2 (backR S1.rho S2.rho vs) σ) H2 D0 (.list acc) := ⟨av, hD, by rw [mmB]; exact la⟩
          have nH : H D0 = none := by
            cases hz : H D0 with
            | none => rfl
            | some u =>
              obtain ⟨w, hw⟩ := st1.tr D0 u hz
              rw [n0] at hw
              cases hw
          have lessG : ∀ rho a, MM { G2 with A := G1.A } rho σ a → MM G2 rho σ a := fun rho => MM.withA fun a ha => (eA' a).mpr (.inr ha)
          have stG : ∀ rho', (∀ a, MM G2 rho' σ a → MM G2 (backR S1.rho S2.rho vs) σ a) → (∀ (j : Nat) (x : D), S.rho[j]? = some (.lck x) → rho'[j]? = some (.lck x)) → Stp G S σ H { G2 with A := G1.A } { S2 with rho := rho' } σ H2 := fun rho' sub' lk' => by
            refine ⟨?_, st1.A, (st1.mono.trans lp.mono).trans fun a u ha hn => ⟨ha, fun z => hn (sub' a (lessG _ a z))⟩, fun a ha => ?_, fun j x hx => ⟨lk' j x hx, rfl⟩, fun a u hu => ?_⟩
            · obtain ⟨l, h1⟩ := st1.io
              obtain ⟨l', h2⟩ := lp.io
              exact ⟨l ++ l', by show G2.io = _; rw [h2, h1, List.append_assoc]⟩
            · rw [lp.anon a (by rw [st1.A]; exact ha), st1.anon a ha]
            · obtain ⟨w, hw⟩ := st1.tr a u hu
              exact lp.tr a w hw
          cases lk with
          | none =>
            refine p.2 { G2 with A := G1.A } D0 H2 (by rw [eG]; exact oB) (stG _ (fun _ z => z) fun j x hx => (lp.lck j x (st1.lck j x hx).1).1) nH (by rw [eG]; exact cB)
          | some i0 =>
            obtain ⟨e0, e1⟩ := evIt_own eit
            have hi0 : i0 < S.rho.length := (List.getElem?_eq_some_iff.mp e0).1
            have l0 : S1.rho[i0]? = some (.lck (.list items)) := by rw [e1]; exact List.getElem?_set_self hi0
            have l2 : (backR S1.rho S2.rho vs)[i0]? = some (.lck (.list items)) := (lp.lck i0 _ l0).1
            obtain ⟨o8, mm8, self8⟩ := Ok.lock (S := { S2 with rho := backR S1.rho S2.rho vs }) oB (.inr ⟨rfl, rfl⟩) l2
            have eu : unlock (some i0) (backR S1.rho S2.rho vs) = (backR S1.rho S2.rho vs).set i0 (.own (.list items)) := by
              unfold unlock
              simp only [l2]
            have p := p.2 { G2 with A := G1.A } D0 H2
            dsimp only at p
            rw [eu] at p
            refine p (by rw [eG]; exact o8) (stG _ (fun a z => by
              have mm8 : MM G2 ((backR S1.rho S2.rho vs).set i0 (.own (.list items))) σ = MM G2 (backR S1.rho S2.rho vs) σ := mm8
              rw [mm8] at z
              exact z) fun j x hx => ?_) nH (by
              rw [eG]
              show Cont X.K (MM G2 ((backR S1.rho S2.rho vs).set i0 (.own (.list items))) σ) H2 D0 (.list acc)
              have mm8 : MM G2 ((backR S1.rho S2.rho vs).set i0 (.own (.list items))) σ = MM G2 (backR S1.rho S2.rho vs) σ := mm8
              rw [mm8]
              exact cB)
            have hj : j ≠ i0 := by
              rintro rfl
              rw [e0] at hx
              cases hx
            rw [List.getElem?_set_ne (Ne.symm hj)]
            exact (lp.lck j x (st1.lck j x hx).1).1
theorem dat_lc {vs : List Nat} {tg : Tg} {it : It} {cs : Cs} {e : C} : ∀ S x S', ev P (.lc vs tg it cs e) S = .ok x S' → ∃ d, x = .d d ∧ isC d = true := fun S x S' h => by
  rw [lc_ev] at h
  cases e1 : evIt P it S with
  | er c s => rw [e1] at h; cases h
  | stuck => rw [e1] at h; cases h
  | ok xs s1 =>
    rw [e1] at h
    simp only [Res.bind] at h
    split at h
    · split at h
      · split at h
        · cases h; exact ⟨_, rfl, rfl⟩
        · cases h
      · cases h
    · cases h
end
end EV
end
section
set_option Elab.async false
set_option linter.all false
set_option maxRecDepth 100000
set_option maxHeartbeats 4000000
set_option autoImplicit false
/-! EvJ: statements -/
namespace EV
open PySem L2
def PostS (K : PySem.W.Frag) (W : WX) (G : Gh) (S : Ste) (σ : St) (H : Hp) (D : Ends) : Out → Prop
  | .nx S' => ∀ G' σ' H', Ok K G' S' σ' H' → Stp G S σ H G' S' σ' H' → D.nx σ' H'
  | .rt x S' => ∀ G' σ' H' v, Ok K G' S' σ' H' → Stp G S σ H G' S' σ' H' → SD K G'.io (MM G' S'.rho σ') H' x v → D.rt v H'
  | .bk S' => ∀ G' σ' H', Ok K G' S' σ' H' → Stp G S σ H G' S' σ' H' → D.bk σ' H'
  | .ct S' => ∀ G' σ' H', Ok K G' S' σ' H' → Stp G S σ H G' S' σ' H' → D.ct σ' H'
  | .er c S' => ∀ G' σ' H', Ok K G' S' σ' H' → Stp G S σ H G' S' σ' H' → W c σ' H'
  | .stuck => False
def tS (K : PySem.W.Frag) (W : WX) (r : Ste → Out) : TS := fun D σ H => ∃ G S, Ok K G S σ H ∧ PostS K W G S σ H D (r S)
def Res.out {α : Type} (r : Res α) (f : α → Ste → Out) : Out := match r with
  | .ok x s => f x s
  | .er c s => .er c s
  | .stuck => .stuck
section
variable {K : PySem.W.Frag} {W : WX} {G G1 : Gh} {S S1 : Ste} {σ σ1 : St} {H H1 : Hp} {D : Ends}
theorem PostS.shift {r : Out} (h : PostS K W G S σ H D r) (st : Stp G S σ H G1 S1 σ1 H1) : PostS K W G1 S1 σ1 H1 D r := by
  cases r with
  | nx S' => exact fun G' σ' H' o s => h G' σ' H' o (st.trans s)
  | rt x S' => exact fun G' σ' H' v o s r => h G' σ' H' v o (st.trans s) r
  | bk S' => exact fun G' σ' H' o s => h G' σ' H' o (st.trans s)
  | ct S' => exact fun G' σ' H' o s => h G' σ' H' o (st.trans s)
  | er c S' => exact fun G' σ' H' o s => h G' σ' H' o (st.trans s)
  | stuck => exact h
theorem PostS.seq {α β : Type} {R : RL α β} {Q : β → Hp → Prop} {r : Res α} {f : α → Ste → Out} (h : PostS K W G S σ H D (r.out f))
    (k : ∀ G1 S1 x v H1, Ok K G1 S1 σ H1 → Stp G S σ H G1 S1 σ H1 → R σ G1 S1 H1 x v → PostS K W G1 S1 σ H1 D (f x S1) → Q v H1) : Post K W R G S σ H Q r := by
  cases r with
  | ok x S' => exact fun G' v H' o s r => k G' S' x v H' o s r (PostS.shift h s)
  | er c S' => exact fun G' H' o s => h G' σ H' o s
  | stuck => exact h
/-- .. of a fresh thing -/
theorem PostS.seqF {Q : VK} {r : Res Vl} {f : Vl → Ste → Out} (h : PostS K W G S σ H D (r.out f)) (no : ∀ x S', (∀ d, x = .d d → isC d = false) → f x S' = .stuck)
    (k : ∀ G1 S1 d p H1, Ok K (G1.plus p) S1 σ H1 → Stp G S σ H G1 S1 σ H1 → H p = none → Cont K (MM (G1.plus p) S1.rho σ) H1 p d → PostS K W G S σ H D (f (.d d) S1) → Q (.ref p) H1) : PostF K W G S σ H Q r := by
  cases r with
  | ok x S' =>
    have h : PostS K W G S σ H D (f x S') := h
    cases x with
    | d d =>
      cases hc : isC d with
      | true => exact ⟨hc, fun G' p H' o s n c => k G' S' d p H' o s n c h⟩
      | false =>
        rw [no (.d d) S' fun d' e => by cases e; exact hc] at h
        exact h.elim
    | r n => rw [no (.r n) S' fun d' e => nomatch e] at h; exact h.elim
    | pk n => rw [no (.pk n) S' fun d' e => nomatch e] at h; exact h.elim
  | er c S' => exact fun G' H' o s => h G' σ H' o s
  | stuck => exact h
/-- a new thing becomes a local's own -/
theorem Ok.owned {p : Addr} {d : EV.D} {i : Nat} (o : Ok K (G.plus p) S σ H) (nA : ¬ G.A p) (c : Cont K (MM (G.plus p) S.rho σ) H p d) (hi : i < S.rho.length) (nl : ∀ y, S.rho[i]? ≠ some (.lck y)) :
    Ok K G { S with rho := S.rho.set i (.own d) } (σ.set i (some (.ref p))) H ∧ (∀ b, MM G (S.rho.set i (.own d)) (σ.set i (some (.ref p))) b → MM (G.plus p) S.rho σ b) ∧
      ∀ (j : Nat) (y : EV.D), S.rho[j]? = some (.lck y) → (S.rho.set i (.own d))[j]? = some (.lck y) ∧ (σ.set i (some (.ref p)))[j]? = σ[j]? := by
  have hσ : i < σ.length := by rw [← o.len]; exact hi
  have ne : ∀ j y, ((S.rho.set i (.own d))[j]? = some (.own y) ∨ (S.rho.set i (.own d))[j]? = some (.lck y)) → (j = i ∧ y = d) ∨ j ≠ i ∧ (S.rho[j]? = some (.own y) ∨ S.rho[j]? = some (.lck y)) := fun j y h => by
    by_cases hj : j = i
    · subst hj
      rw [List.getElem?_set_self hi] at h
      rcases h with h | h <;> cases h
      exact .inl ⟨rfl, rfl⟩
    · rw [List.getElem?_set_ne (Ne.symm hj)] at h
      exact .inr ⟨hj, h⟩
  have own : ∀ j b, OwnAt (S.rho.set i (.own d)) (σ.set i (some (.ref p))) j b → (j = i ∧ b = p) ∨ j ≠ i ∧ OwnAt S.rho σ j b := fun j b ⟨⟨y, h⟩, h2⟩ => by
    rcases ne j y h with ⟨rfl, _⟩ | ⟨hj, h'⟩
    · rw [List.getElem?_set_self hσ] at h2
      cases h2
      exact .inl ⟨rfl, rfl⟩
    · rw [List.getElem?_set_ne (Ne.symm hj)] at h2
      exact .inr ⟨hj, ⟨y, h'⟩, h2⟩
  have less : ∀ b, MM G (S.rho.set i (.own d)) (σ.set i (some (.ref p))) b → MM (G.plus p) S.rho σ b := fun b h => by
    rcases h with h | ⟨j, h⟩ | h
    · exact .inl h
    · rcases own j b h with ⟨_, rfl⟩ | ⟨_, h⟩
      · exact .inr (.inr (.inl rfl))
      · exact .inr (.inl ⟨j, h⟩)
    · exact .inr (.inr (.inr h))
  have nown : ∀ j, ¬ OwnAt S.rho σ j p := fun j w => o.s2 p ⟨j, w⟩ (.inl rfl)
  refine ⟨o.less (by simpa using o.len) rfl (fun j b w => ?_) (fun j k b u w => ?_) less (fun _ h => .inr h) (fun j x e => ?_) (fun j x e => ?_), less, fun j y h => ?_⟩
  · rcases own j b w with ⟨rfl, rfl⟩ | ⟨hj, w'⟩
    · exact ⟨⟨d, .inl (List.getElem?_set_self hi), c⟩, fun m => (o.s1 b m).2 (.inl rfl), nA⟩
    · obtain ⟨⟨y, h⟩, h2⟩ := w
      rcases ne j y h with ⟨z, _⟩ | ⟨_, h'⟩
      · exact (hj z).elim
      · obtain ⟨b', e1, _, c'⟩ := o.at h'
        rw [w'.2] at e1
        cases e1
        exact ⟨⟨y, h, c'⟩, fun m => (o.s1 b m).1 ⟨j, w'⟩, fun z => o.s2 b ⟨j, w'⟩ (.inr z)⟩
  · rcases own j b u with ⟨rfl, rfl⟩ | ⟨hj, u'⟩ <;> rcases own k b w with ⟨rfl, hb⟩ | ⟨hk, w'⟩
    · rfl
    · exact (nown k w').elim
    · subst hb; exact (nown j u').elim
    · exact o.inj j k b u' w'
  · have hj : j ≠ i := by
      rintro rfl
      rw [List.getElem?_set_self hi] at e
      cases e
    rw [List.getElem?_set_ne (Ne.symm hj)] at e ⊢
    exact o.val j x e
  · rcases ne j x e with ⟨rfl, _⟩ | ⟨hj, h'⟩
    · exact ⟨p, List.getElem?_set_self hσ⟩
    · obtain ⟨b, e1, _⟩ := o.at h'
      exact ⟨b, by rw [List.getElem?_set_ne (Ne.symm hj)]; exact e1⟩
  · have hj : j ≠ i := by
      rintro rfl
      exact nl y h
    exact ⟨by rw [List.getElem?_set_ne (Ne.symm hj)]; exact h, List.getElem?_set_ne (Ne.symm hj)⟩
theorem open_at {rho : List Slot} {i : Nat} (h : Slot.open rho[i]? = true) : i < rho.length ∧ ∀ y, rho[i]? ≠ some (.lck y) := by
  cases e : rho[i]? with
  | none => rw [e] at h; cases h
  | some x =>
    refine ⟨(List.getElem?_eq_some_iff.mp e).1, fun y z => ?_⟩
    cases z
    rw [e] at h
    cases h
end
section
variable {X : Cx} {W : WX} {P : Env} {pos : Pos}
/-! ### stores -/
theorem set_ev {i : Nat} {e : C} {S : Ste} : exS P (.set i e) S = (ev P e S).out fun x s => match x with
    | .d x => if Slot.open s.rho[i]? then .nx { s with rho := s.rho.set i (.v (.d x)) } else .stuck
    | .r n => if Slot.open s.rho[i]? then .nx { s with rho := s.rho.set i (.v (.r n)) } else .stuck
    | .pk _ => .stuck := by
  rw [exS]
  cases ev P e S with
  | ok x s => cases x <;> rfl
  | er c s => rfl
  | stuck => rfl
theorem set_fin {i : Nat} {x : Vl} {v : V} {G : Gh} {S : Ste} {σ : St} {H : Hp} {D : Ends} (o : Ok X.K G S σ H) (r : SD X.K G.io (MM G S.rho σ) H x v)
    (p : PostS X.K W G S σ H D (if Slot.open S.rho[i]? then .nx { S with rho := S.rho.set i (.v x) } else .stuck)) : D.nx (σ.set i (some v)) H := by
  split at p
  · rename_i hop
    obtain ⟨hi, nl⟩ := open_at hop
    obtain ⟨o2, st, _⟩ := o.asg hi nl r
    exact p G _ H o2 st
  · exact p.elim
theorem r_set {i : Nat} {e : C} {D : Ends} {σ : St} {H : Hp} (h : tS X.K W (exS P (.set i e)) D σ H) : tAsg (tE X.K W (ev P e)) (gName i) D σ H := by
  obtain ⟨G, S, o, p⟩ := h
  rw [set_ev] at p
  refine ⟨G, S, o, p.seq fun G1 S1 x v H1 o1 st1 r1 p1 => ?_⟩
  cases x with
  | d x => exact set_fin (x := .d x) o1 r1 p1
  | r n => exact set_fin (x := .r n) o1 r1 p1
  | pk n => exact p1.elim
theorem setO_ev {i : Nat} {e : C} {S : Ste} : exS P (.setO i e) S = (ev P e S).out fun x s => match x with
    | .d x => if isC x && Slot.open s.rho[i]? then .nx { s with rho := s.rho.set i (.own x) } else .stuck
    | _ => .stuck := by
  rw [exS]
  cases ev P e S with
  | ok x s => cases x <;> rfl
  | er c s => rfl
  | stuck => rfl
theorem r_setO {i : Nat} {e : C} {D : Ends} {σ : St} {H : Hp} (h : tS X.K W (exS P (.setO i e)) D σ H) : tAsg (tF X.K W (ev P e)) (gName i) D σ H := by
  obtain ⟨G, S, o, p⟩ := h
  rw [setO_ev] at p
  refine ⟨G, S, o, p.seqF (fun x S' hx => ?_) fun G1 S1 d q H1 o1 st1 n1 c1 p1 => ?_⟩
  · cases x with
    | d d => simp only [hx d rfl]; rfl
    | r n => rfl
    | pk n => rfl
  · dsimp only at p1
    split at p1
    · rename_i hop
      rw [Bool.and_eq_true] at hop
      obtain ⟨hi, nl⟩ := open_at hop.2
      have nA : ¬ G1.A q := fun z => by
        rw [st1.A] at z
        obtain ⟨u, hu⟩ := o.tr q z
        rw [n1] at hu
        cases hu
      obtain ⟨o2, less, lk⟩ := o1.owned nA c1 hi nl
      refine p1 G1 _ H1 o2 ⟨st1.io, st1.A, fun a u ha hn => ?_, st1.anon, fun j y hj => ?_, st1.tr⟩
      · obtain ⟨h1, h2⟩ := st1.mono a u ha hn
        refine ⟨h1, fun z => ?_⟩
        rcases less a z with z | z | z | z
        · exact h2 (.inl z)
        · exact h2 (.inr (.inl z))
        · rw [z, n1] at ha; cases ha
        · exact h2 (.inr (.inr z))
      · obtain ⟨h1, h2⟩ := st1.lck j y hj
        obtain ⟨h3, h4⟩ := lk j y h1
        exact ⟨h3, h4.trans h2⟩
    · exact p1.elim
theorem setT_ev {ts : List Tg} {e : C} {S : Ste} : exS P (.setT ts e) S = (ev P e S).out fun x s => match x with
    | .d x => (match bindT (.tp ts) x s.rho with
      | some rho => .nx { s with rho := rho }
      | none => .stuck)
    | _ => .stuck := by
  rw [exS]
  cases ev P e S with
  | ok x s => cases x <;> rfl
  | er c s => rfl
  | stuck => rfl
theorem r_setT {ts : List Tg} {e : C} {D : Ends} {σ : St} {H : Hp} (h : tS X.K W (exS P (.setT ts e)) D σ H) : tAsg (tE X.K W (ev P e)) (tG X.K (.tp ts)) D σ H := by
  obtain ⟨G, S, o, p⟩ := h
  rw [setT_ev] at p
  refine ⟨G, S, o, p.seq fun G1 S1 x v H1 o1 st1 r1 p1 => ?_⟩
  cases x with
  | d x =>
    dsimp only at p1
    cases eb : bindT (.tp ts) x S1.rho with
    | none => rw [eb] at p1; exact p1.elim
    | some rho =>
      rw [eb] at p1
      exact ⟨G1, S1, x, rho, o1, r1, eb, fun σ' o2 st2 _ _ _ => p1 G1 σ' H1 o2 st2⟩
  | r n => exact p1.elim
  | pk n => exact p1.elim
/-! ### the rest -/
theorem expr_ev {e : C} {S : Ste} : exS P (.expr e) S = (ev P e S).out fun _ s => .nx s := by
  rw [exS]
  cases ev P e S <;> rfl
theorem r_expr {e : C} {D : Ends} {σ : St} {H : Hp} (h : tS X.K W (exS P (.expr e)) D σ H) : tDrop (tE X.K W (ev P e)) D σ H := by
  obtain ⟨G, S, o, p⟩ := h
  rw [expr_ev] at p
  exact ⟨G, S, o, p.seq fun G1 S1 x v H1 o1 st1 r1 p1 => p1 G1 σ H1 o1 (Stp.refl _ _ _ _)⟩
theorem ret_ev {e : C} {S : Ste} : exS P (.ret e) S = (ev P e S).out fun x s => match x with
    | .d x => .rt (.d x) s
    | .r n => .rt (.r n) s
    | .pk _ => .stuck := by
  rw [exS]
  cases ev P e S with
  | ok x s => cases x <;> rfl
  | er c s => rfl
  | stuck => rfl
theorem r_ret {e : C} {D : Ends} {σ : St} {H : Hp} (h : tS X.K W (exS P (.ret e)) D σ H) : tRet (tE X.K W (ev P e)) D σ H := by
  obtain ⟨G, S, o, p⟩ := h
  rw [ret_ev] at p
  refine ⟨G, S, o, p.seq fun G1 S1 x v H1 o1 st1 r1 p1 => ?_⟩
  cases x with
  | d x => exact p1 G1 σ H1 v o1 (Stp.refl _ _ _ _) r1
  | r n => exact p1 G1 σ H1 v o1 (Stp.refl _ _ _ _) r1
  | pk n => exact p1.elim
theorem r_retN {D : Ends} {σ : St} {H : Hp} (h : tS X.K W (exS P .retN) D σ H) : tRetN D σ H := by
  obtain ⟨G, S, o, p⟩ := h
  rw [exS] at p
  exact p G σ H .non o (Stp.refl _ _ _ _) .non
theorem r_pass {D : Ends} {σ : St} {H : Hp} (h : tS X.K W (exS P .pass) D σ H) : tNext D σ H := by
  obtain ⟨G, S, o, p⟩ := h
  rw [exS] at p
  exact p G σ H o (Stp.refl _ _ _ _)
theorem r_brk {D : Ends} {σ : St} {H : Hp} (h : tS X.K W (exS P .brk) D σ H) : tBreak D σ H := by
  obtain ⟨G, S, o, p⟩ := h
  rw [exS] at p
  exact p G σ H o (Stp.refl _ _ _ _)
theorem r_cnt {D : Ends} {σ : St} {H : Hp} (h : tS X.K W (exS P .cnt) D σ H) : tCont D σ H := by
  obtain ⟨G, S, o, p⟩ := h
  rw [exS] at p
  exact p G σ H o (Stp.refl _ _ _ _)
theorem r_raise {c : Nat} {D : Ends} {σ : St} {H : Hp} (h : tS X.K W (exS P (.raise c)) D σ H) : W c σ H := by
  obtain ⟨G, S, o, p⟩ := h
  rw [exS] at p
  exact p G σ H o (Stp.refl _ _ _ _)
theorem ite_ev {t : C} {a b : CSs} {S : Ste} : exS P (.ite t a b) S = (evB P t S).out fun c s => if c then exs P a s else exs P b s := by
  rw [exS]
  unfold evB
  cases ev P t S with
  | ok x s =>
    simp only [Res.bind]
    cases (s.res x).bind truth with
    | none => rfl
    | some c => cases c <;> rfl
  | er c s => rfl
  | stuck => rfl
theorem r_if {t : C} {a b : CSs} {D : Ends} {σ : St} {H : Hp} (h : tS X.K W (exS P (.ite t a b)) D σ H) : tIfS (tT X.K W (evB P t)) (tS X.K W (exs P a)) (tS X.K W (exs P b)) D σ H := by
  obtain ⟨G, S, o, p⟩ := h
  rw [ite_ev] at p
  refine ⟨G, S, o, p.seq fun G1 S1 c v H1 o1 st1 r1 p1 => ?_⟩
  have r1 : c = v := r1
  subst r1
  cases c with
  | true => exact ⟨G1, S1, o1, p1⟩
  | false => exact ⟨G1, S1, o1, p1⟩
/-! ### rows of statements -/
theorem r_nil {D : Ends} {σ : St} {H : Hp} (h : tS X.K W (exs P .nil) D σ H) : tNext D σ H := by
  obtain ⟨G, S, o, p⟩ := h
  rw [exs] at p
  exact p G σ H o (Stp.refl _ _ _ _)
theorem r_cons {c : CS} {r : CSs} {D : Ends} {σ : St} {H : Hp} (h : tS X.K W (exs P (.cons c r)) D σ H) : tSeq (tS X.K W (exS P c)) (tS X.K W (exs P r)) D σ H := by
  obtain ⟨G, S, o, p⟩ := h
  rw [exs] at p
  refine ⟨G, S, o, ?_⟩
  cases e : exS P c S with
  | nx S' => rw [e] at p; exact fun G' σ' H' o' s => ⟨G', S', o', PostS.shift p s⟩
  | rt x S' => rw [e] at p; exact p
  | bk S' => rw [e] at p; exact p
  | ct S' => rw [e] at p; exact p
  | er c S' => rw [e] at p; exact p
  | stuck => rw [e] at p; exact p
/-! ### loops -/
def forTurn (P : Env) (tg : Tg) (b : CSs) : D → Ste → Out := fun x s => match bindT tg x s.rho with
  | some rho => exs P b { s with rho := rho }
  | none => .stuck
def Out.after (lk : Option Nat) : Out → Out
  | .nx s => .nx { s with rho := unlock lk s.rho }
  | o => o
theorem for_ev {tg : Tg} {it : It} {b : CSs} {S : Ste} : exS P (.for tg it b) S = (evIt P it S).out fun xs s => (forLoop (forTurn P tg b) xs.1 s).after xs.2 := by
  rw [exS]
  cases evIt P it S with
  | ok xs s =>
    show (match forLoop (forTurn P tg b) xs.1 s with | .nx s => .nx { s with rho := unlock xs.2 s.rho } | o => o) = (forLoop (forTurn P tg b) xs.1 s).after xs.2
    cases forLoop (forTurn P tg b) xs.1 s <;> rfl
  | er c s => rfl
  | stuck => rfl
theorem r_for {tg : Tg} {it : It} {b : CSs} {D : Ends} {σ : St} {H : Hp} (h : tS X.K W (exS P (.for tg it b)) D σ H) : tFor (tI X.K W (evIt P it)) (tG X.K tg) (tS X.K W (exs P b)) D σ H := by
  obtain ⟨G, S, o, p⟩ := h
  rw [for_ev] at p
  refine ⟨G, S, o, ?_⟩
  cases eit : evIt P it S with
  | er c S' => rw [eit] at p; exact fun G' H' o s => p G' σ H' o s
  | stuck => rw [eit] at p; exact p
  | ok xs S1 =>
    obtain ⟨items, lk⟩ := xs
    rw [eit] at p
    intro G1 J H1 o1 st1 src
    have p : PostS X.K W G S σ H D ((forLoop (forTurn P tg b) items S1).after lk) := p
    have src : Src X.K J items G1 S1 σ H1 := src
    obtain ⟨O, hO⟩ : ∃ O, forLoop (forTurn P tg b) items S1 = O := ⟨_, rfl⟩
    rw [hO] at p
    -- behind the last turn, or a break
    have done : ∀ (S2 : Ste) (G2 : Gh) (σ2 : St) (H2 : Hp), O = .nx S2 → Ok X.K G2 S2 σ2 H2 → Stp G1 S1 σ H1 G2 S2 σ2 H2 → D.nx σ2 H2 := fun S2 G2 σ2 H2 e o2 st2 => by
      rw [e] at p
      cases lk with
      | none => exact p G2 σ2 H2 o2 (st1.trans st2)
      | some i0 =>
        obtain ⟨e0, e1⟩ := evIt_own eit
        have hi0 : i0 < S.rho.length := (List.getElem?_eq_some_iff.mp e0).1
        have l0 : S1.rho[i0]? = some (.lck (.list items)) := by rw [e1]; exact List.getElem?_set_self hi0
        have l2 := (st2.lck i0 _ l0).1
        obtain ⟨o3, mm, self⟩ := Ok.lock o2 (.inr ⟨rfl, rfl⟩) l2
        have eu : unlock (some i0) S2.rho = S2.rho.set i0 (.own (.list items)) := by
          unfold unlock
          simp only [l2]
        have st := st1.trans st2
        have p : PostS X.K W G S σ H D (.nx { S2 with rho := unlock (some i0) S2.rho }) := p
        rw [eu] at p
        refine p G2 σ2 H2 o3 ⟨st.io, st.A, ?_, st.anon, fun j y hj => ?_, st.tr⟩
        · show Keeps _ _ (MM G2 (S2.rho.set i0 (.own (.list items))) σ2) _
          rw [mm]
          exact st.mono
        · have hne : j ≠ i0 := by
            rintro rfl
            rw [e0] at hj
            cases hj
          obtain ⟨h1, h2⟩ := st.lck j y hj
          exact ⟨by show (S2.rho.set i0 _)[j]? = _; rw [List.getElem?_set_ne (Ne.symm hne)]; exact h1, h2⟩
    refine ⟨fun i m σ2 H2 => m = items.length - i ∧ i ≤ items.length ∧ ∃ G2 S2, forLoop (forTurn P tg b) (items.drop i) S2 = O ∧ Ok X.K G2 S2 σ2 H2 ∧ Stp G1 S1 σ H1 G2 S2 σ2 H2,
      ⟨items.length, by simp, Nat.zero_le _, G1, S1, by rw [List.drop_zero]; exact hO, o1, Stp.refl _ _ _ _⟩, ?_⟩
    rintro i m σ2 H2 ⟨rfl, hle, G2, S2, eq, o2, st2⟩
    obtain ⟨sstop, sgo⟩ := src G2 S2 σ2 H2 o2 st2.rch i
    by_cases hlt : i < items.length
    · refine .inr ?_
      obtain ⟨jgo, jy⟩ := sgo _ (List.getElem?_eq_getElem hlt)
      refine ⟨jgo, fun σ' H' => i + 1 ≤ items.length ∧ ∃ G2 S2, forLoop (forTurn P tg b) (items.drop (i + 1)) S2 = O ∧ Ok X.K G2 S2 σ' H' ∧ Stp G1 S1 σ H1 G2 S2 σ' H',
        fun σ' H' hN => ⟨items.length - (i + 1), by omega, rfl, hN⟩, fun v H3 yld => ?_⟩
      obtain ⟨same, dv⟩ := jy v H3 yld
      have o3 := o2.same same
      have st3 := st2.trans (Stp.same o2 same)
      rw [List.drop_eq_getElem_cons hlt] at eq
      unfold forLoop at eq
      cases eb : bindT tg items[i] S2.rho with
      | none =>
        have e : forTurn P tg b items[i] S2 = .stuck := by simp only [forTurn, eb]
        rw [e] at eq
        simp only at eq
        rw [← eq] at p
        exact p.elim
      | some rho =>
        have e : forTurn P tg b items[i] S2 = exs P b { S2 with rho := rho } := by simp only [forTurn, eb]
        rw [e] at eq
        refine ⟨G2, S2, items[i], rho, o3, dv, eb, fun σ3 o4 st4 ag ln less => ⟨G2, { S2 with rho := rho }, o4, ?_⟩⟩
        have st5 := st3.trans st4
        cases ex : exs P b { S2 with rho := rho } with
        | nx S' =>
          rw [ex] at eq
          exact fun G' σ' H' o' s => ⟨hlt, G', S', eq, o', st5.trans s⟩
        | ct S' =>
          rw [ex] at eq
          exact fun G' σ' H' o' s => ⟨hlt, G', S', eq, o', st5.trans s⟩
        | bk S' =>
          rw [ex] at eq
          exact fun G' σ' H' o' s => done S' G' σ' H' eq.symm o' (st5.trans s)
        | rt x S' =>
          rw [ex] at eq
          simp only at eq
          rw [← eq] at p
          exact fun G' σ' H' v o' s r => p G' σ' H' v o' (st1.trans (st5.trans s)) r
        | er c S' =>
          rw [ex] at eq
          simp only at eq
          rw [← eq] at p
          exact fun G' σ' H' o' s => p G' σ' H' o' (st1.trans (st5.trans s))
        | stuck =>
          rw [ex] at eq
          simp only at eq
          rw [← eq] at p
          exact p.elim
    · have hi : i = items.length := by omega
      subst hi
      rw [List.drop_length] at eq
      unfold forLoop at eq
      exact .inl ⟨sstop rfl, done S2 G2 σ2 H2 eq.symm o2 st2⟩
theorem while_ev {t : C} {b : CSs} {S : Ste} : exS P (.while t b) S = whileLoop (evB P t) (exs P b) wfuel S := by
  rw [exS] <;> rfl
theorem r_while {t : C} {b : CSs} {D : Ends} {σ : St} {H : Hp} (h : tS X.K W (exS P (.while t b)) D σ H) : tWhile (tT X.K W (evB P t)) (tS X.K W (exs P b)) D σ H := by
  obtain ⟨G, S, o, p⟩ := h
  rw [while_ev] at p
  refine ⟨fun m σ2 H2 => ∃ G2 S2, Ok X.K G2 S2 σ2 H2 ∧ PostS X.K W G2 S2 σ2 H2 D (whileLoop (evB P t) (exs P b) m S2), ⟨wfuel, G, S, o, p⟩, ?_⟩
  rintro m σ2 H2 ⟨G2, S2, o2, p2⟩
  cases m with
  | zero => exact p2.elim
  | succ m =>
    unfold whileLoop at p2
    refine ⟨G2, S2, o2, ?_⟩
    cases et : evB P t S2 with
    | er c S' => rw [et] at p2; exact fun G' H' o s => p2 G' σ2 H' o s
    | stuck => rw [et] at p2; exact p2
    | ok c S3 =>
      rw [et] at p2
      intro G3 c' H3 o3 st3 hc
      have hc : c = c' := hc
      subst hc
      cases c with
      | false => exact p2 G3 σ2 H3 o3 st3
      | true =>
        refine ⟨fun σ' H' => ∃ G2 S2, Ok X.K G2 S2 σ' H' ∧ PostS X.K W G2 S2 σ' H' D (whileLoop (evB P t) (exs P b) m S2), fun σ' H' hN => ⟨m, Nat.lt_succ_self _, hN⟩, G3, S3, o3, ?_⟩
        have p3 := PostS.shift p2 st3
        dsimp only at p3
        cases ex : exs P b S3 with
        | nx S' => rw [ex] at p3; exact fun G' σ' H' o' s => ⟨G', S', o', PostS.shift p3 s⟩
        | ct S' => rw [ex] at p3; exact fun G' σ' H' o' s => ⟨G', S', o', PostS.shift p3 s⟩
        | bk S' => rw [ex] at p3; exact p3
        | rt x S' => rw [ex] at p3; exact p3
        | er c S' => rw [ex] at p3; exact p3
        | stuck => rw [ex] at p3; exact p3
end
end EV
end
section
set_option Elab.async false
set_option linter.all false
set_option maxRecDepth 100000
set_option maxHeartbeats 4000000
set_option autoImplicit false
/-! EvK: stores at an index; the form of a def's end -/
namespace EV
open PySem L2
section
variable {X : Cx} {W : WX} {P : Env} {pos : Pos}
theorem put_ev {i : Nat} {k v : C} {S : Ste} : exS P (.put i k v) S = (ev P v S).out fun y s => match y with
    | .d y => if (s.cell i).isSome then (ev P k s).out fun x s => (match x with
      | .d x => (match s.cell i with
        | some (o, f) => (match putD o x y with
          | some o' => .nx (f o')
          | none => .stuck)
        | none => .stuck)
      | _ => .stuck) else .stuck
    | _ => .stuck := by
  rw [exS]
  cases ev P v S with
  | ok y s =>
    cases y with
    | d y =>
      show (if (s.cell i).isSome then _ else Out.stuck) = (if (s.cell i).isSome then _ else Out.stuck)
      split
      · cases ev P k s with
        | ok x s => cases x <;> rfl
        | er c s => rfl
        | stuck => rfl
      · rfl
    | r n => rfl
    | pk n => rfl
  | er c s => rfl
  | stuck => rfl
theorem cell_at {K : PySem.W.Frag} {G : Gh} {S : Ste} {σ : St} {H : Hp} {i : Nat} (o : Ok K G S σ H) (h : (S.cell i).isSome = true) : ∃ a, σ[i]? = some (some (.ref a)) := by
  obtain ⟨⟨x, f⟩, e⟩ := Option.isSome_iff_exists.mp h
  obtain ⟨a, h1, _⟩ := o.wr e
  exact ⟨a, h1⟩
theorem r_put {i : Nat} {k v : C} {D : Ends} {σ : St} {H : Hp} (h : tS X.K W (exS P (.put i k v)) D σ H) : tAsg (tE X.K W (ev P v)) (gSub (tVar i) (tE X.K W (ev P k)) rSetL) D σ H := by
  obtain ⟨G, S, o, p⟩ := h
  rw [put_ev] at p
  refine ⟨G, S, o, p.seq fun G1 S1 y u H1 o1 st1 r1 p1 => ?_⟩
  cases y with
  | d y =>
    dsimp only at p1
    split at p1
    case isFalse => exact p1.elim
    rename_i hc
    obtain ⟨a, ea⟩ := cell_at o1 hc
    refine ⟨_, ea, G1, S1, o1, p1.seq fun G2 S2 x w H2 o2 st2 r2 p2 => ?_⟩
    cases x with
    | d x =>
      dsimp only at p2
      cases ec : S2.cell i with
      | none => rw [ec] at p2; exact p2.elim
      | some q =>
        obtain ⟨d, f⟩ := q
        rw [ec] at p2
        dsimp only at p2
        cases ep : putD d x y with
        | none => rw [ep] at p2; exact p2.elim
        | some d' =>
          rw [ep] at p2
          obtain ⟨a', ea', m, c, step⟩ := o2.wr ec
          rw [ea] at ea'
          cases ea'
          have fin : ∀ (zs : List EV.D) (j : Int), d = .list zs → x = .int j → rSetL (.ref a) w u H2 fun H3 => D.nx σ H3 := fun zs j ez ej0 => by
            subst ez ej0
            have ep : ((ixN zs.length j).map fun n => PyData.list (zs.set n y)) = some d' := ep
            obtain ⟨vs, e1, l1⟩ := c
            have r2 : Dn X.K (MM G2 S2.rho σ) H2 true (.int j) w := r2
            cases r2
            cases ej : ixN zs.length j with
            | none => rw [ej] at ep; cases ep
            | some n =>
              rw [ej] at ep
              cases ep
              have dz : Dn X.K (MM G2 S2.rho σ) H2 true y u := VD.step (x := .d y) st2 r1
              obtain ⟨o3, st3, mm⟩ := step (.lst (vs.set n u)) (.list (zs.set n y)) ⟨_, upd_same, DnL.mono (Keeps.at m) _ _ (l1.set dz n)⟩
              exact ⟨a, vs, j, n, rfl, rfl, e1, by rw [← l1.length]; exact ej, p2 G2 σ _ o3 st3⟩
          cases d with
          | list zs =>
            cases x with
            | int j => exact fin zs j rfl rfl
            | _ => cases ep
          | _ => cases ep
    | r n => exact p2.elim
    | pk n => exact p2.elim
  | r n => exact p1.elim
  | pk n => exact p1.elim
end
end EV
end
section
set_option Elab.async false
set_option linter.all false
set_option maxRecDepth 100000
set_option maxHeartbeats 4000000
set_option autoImplicit false
/-! EvL: from a def's text to core terms, with the proof -/
namespace EV
open PySem L2

structure CX where
  N : List Str
  own : List Str := []
  fs : List (Str × Nat) := []
  gs : List (Str × Nat) := []
  ex : List (Str × Nat) := []
  bl : List Str := []
  share : Bool := false
  gd : List (Str × List (Str × Str)) := []
structure Bk where
  sc : Scope
  fnl : List Str
def Wd (exv : Nat → Value) (W : WX) : L2.WX := fun cls d σ H => EW exv W σ cls d H
structure Good (cx : CX) (k : Nat) (b : Bk) (X : Cx) (W : WX) (P : Env) (exv : Nat → Value) : Prop where
  n : X.N = cx.N
  nd : X.N.Nodup
  sc : X.env.scope = b.sc
  fnl : ∀ x ∈ b.fnl, X.fn x = true
  calm : X.calm = true
  hgd : X.A.guards = some []
  rm : Room k X.A
  bl : ∀ x ∈ cx.bl, X.mg x = none
  fs : ∀ p ∈ cx.fs, ∃ a fd ps, FnG X.prog X.w X.K X.mg X.base (L2.CX X.prog X.w) k a fd ps (spF X.K exv (P.call p.2)) ∧ X.mg p.1 = some (.ref a) ∧ PySem.W.keepIn X.K (.ref a) = true ∧ Binds X.K fd ps []
  gs : ∀ p ∈ cx.gs, ∃ u v d, X.mg p.1 = some u ∧ RelV v u ∧ P.consts[p.2]? = some d ∧ ∀ M H, Dn X.K M H true d v
  gd : ∀ p ∈ cx.gd, ∃ a, X.mg p.1 = some (.ref a) ∧ KDs X.K X.w a p.2
  tk : Takes X (Wd exv W)
  npk : ∀ f xs hp, noPk xs = false → P.call f xs hp = .stuck
theorem Good.hu {cx : CX} {k : Nat} {b : Bk} {X : Cx} {W : WX} {P : Env} {exv : Nat → Value} (g : Good cx k b X W P exv) : X.A.units + 200 < cLine := by have := g.rm.un; omega
/-! ### small facts of a text -/
def okN (x : Str) : Bool := !(x == ("__debug__" : Str)) && !(x == ("__classdict__" : Str)) && !(x == ("__name__" : Str))
theorem okN1 {x : Str} (h : okN x = true) : (x == ("__debug__" : Str)) = false := by
  simp only [okN, Bool.and_eq_true, Bool.not_eq_true'] at h; exact h.1.1
theorem okN2 {x : Str} (h : okN x = true) : (x == ("__classdict__" : Str)) = false := by
  simp only [okN, Bool.and_eq_true, Bool.not_eq_true'] at h; exact h.1.2
theorem okN3 {x : Str} (h : okN x = true) : x ≠ "__name__" := by
  simp only [okN, Bool.and_eq_true, Bool.not_eq_true'] at h
  intro e
  rw [e] at h
  exact absurd h.2 (by decide +kernel)
def visB (sc : Scope) (x : Str) : Bool := match sc.names.lookup x with
  | some .local => true
  | some .cell => true
  | some .free => true
  | _ => false
theorem visB_of {sc : Scope} {x : Str} (h : visB sc x = true) : Vis sc x := by
  unfold visB at h
  split at h
  · exact .inl (by assumption)
  · exact .inr (.inl (by assumption))
  · exact .inr (.inr (by assumption))
  · cases h
def glB (sc : Scope) (x : Str) : Bool := match sc.names.lookup x with
  | some .globalImplicit => true
  | _ => false
theorem glB_of {sc : Scope} {x : Str} (h : glB sc x = true) : sc.names.lookup x = some .globalImplicit := by
  unfold glB at h
  split at h
  · assumption
  · cases h
def isLocal (sc : Scope) (x : Str) : Bool := match sc.names.lookup x with
  | some .local => true
  | _ => false
theorem isLocal_of {sc : Scope} {x : Str} (h : isLocal sc x = true) : sc.names.lookup x = some .local := by
  unfold isLocal at h
  split at h
  · assumption
  · cases h
def isCell (sc : Scope) (x : Str) : Bool := match sc.names.lookup x with
  | some .cell => true
  | _ => false
theorem isCell_of {sc : Scope} {x : Str} (h : isCell sc x = true) : sc.names.lookup x = some .cell := by
  unfold isCell at h
  split at h
  · assumption
  · cases h
def look {α : Type} : (l : List (Str × α)) → (x : Str) → Option {a : α // (x, a) ∈ l}
  | [], _ => none
  | (y, a) :: r, x => if h : y = x then some ⟨a, by subst h; exact List.mem_cons_self⟩ else match look r x with
    | some ⟨c, m⟩ => some ⟨c, List.mem_cons_of_mem _ m⟩
    | none => none
def slotOf : (N : List Str) → (x : Str) → Option {i : Nat // N[i]? = some x}
  | [], _ => none
  | y :: r, x => if h : y = x then some ⟨0, by rw [h]; rfl⟩ else match slotOf r x with
    | some ⟨i, e⟩ => some ⟨i + 1, by rw [List.getElem?_cons_succ]; exact e⟩
    | none => none
def memB (l : List Str) (x : Str) : Bool := l.any fun y => decide (y = x)
theorem memB_of {l : List Str} {x : Str} (h : memB l x = true) : x ∈ l := by
  unfold memB at h
  obtain ⟨y, m, e⟩ := List.any_eq_true.mp h
  have := of_decide_eq_true e
  rw [← this]
  exact m
def noStar : Expr → Bool
  | .Starred _ _ => false
  | _ => true
theorem star1 {e : Expr} (h : noStar e = true) (es : List Expr) (env : PySem.Env) : starEach (e :: es) env = (false, eval e env) :: starEach es env := by
  cases e with
  | Starred _ _ => cases h
  | _ => rfl
theorem starN : ∀ {es : List Expr}, es.all noStar = true → ∀ (pos : Pos) (env : PySem.Env), (backTo pos (starEach es env)).any (·.1) = false ∧ (backTo pos (starEach es env)).all (fun x => !x.1) = true
  | [], _, _, _ => ⟨rfl, rfl⟩
  | e :: es, h, pos, env => by
    rw [List.all_cons, Bool.and_eq_true] at h
    obtain ⟨h1, h2⟩ := starN h.2 pos env
    rw [star1 h.1]
    unfold backTo at h1 h2 ⊢
    rw [List.map_cons, List.any_cons, List.all_cons, h1, h2]
    exact ⟨rfl, rfl⟩
def plainIx : Expr → Bool
  | .Slice _ _ _ _ => false
  | _ => true
theorem plainIx_of {e : Expr} (h : plainIx e = true) : PlainIx e := fun o i => by
  cases e with
  | Slice _ _ _ _ => cases h
  | _ => rfl
def noSet : Expr → Bool
  | .Set _ _ _ => false
  | _ => true
theorem noSet_of {e : Expr} (h : noSet e = true) (env : PySem.Env) (x : Value) : foldedSetIterable e env x = pure x := by
  cases e with
  | Set _ _ _ => cases h
  | _ => rfl
def noComp : Expr → Bool
  | .ListComp _ _ _ _ => false
  | .SetComp _ _ _ _ => false
  | .DictComp _ _ _ _ _ => false
  | _ => true
theorem noComp_of {e : Expr} (h : noComp e = true) (t : Option Expr) (l : Nat) (env : PySem.Env) : swapsWith e t l env = pure false := by
  cases e with
  | ListComp _ _ _ _ => cases h
  | SetComp _ _ _ _ => cases h
  | DictComp _ _ _ _ _ => cases h
  | _ => rfl
def noTest : Expr → Bool
  | .UnaryOp .Not _ _ => false
  | .BoolOp _ _ _ => false
  | .IfExp _ _ _ _ => false
  | .Compare _ _ _ _ => false
  | _ => true
theorem noTest_of {e : Expr} (h : noTest e = true) (env : PySem.Env) (whole : Sem Value) : isTrue e env whole = (do let v ← whole; standAt e.pos; holding [v] (truthy v)) := by
  cases e with
  | UnaryOp op _ _ => cases op with
    | Not => cases h
    | _ => rfl
  | BoolOp _ _ _ => cases h
  | IfExp _ _ _ _ => cases h
  | Compare _ _ _ _ => cases h
  | _ => rfl
def noTup : Expr → Bool
  | .Tuple _ _ _ => false
  | _ => true
theorem noTup_of {e : Expr} (h : noTup e = true) (ts : List Expr) (n : Nat) (tp : Pos) (env : PySem.Env) : swappedStores [.Tuple ts n tp] e env = pure none := by
  cases e with
  | Tuple _ _ _ => cases h
  | _ => rfl
def noCall : Expr → Bool
  | .Call _ _ _ _ => false
  | _ => true
theorem noCall_of {e : Expr} (h : noCall e = true) (n : Str) (env : PySem.Env) (w : Sem Value) : attributeBase e n env w = w := by
  cases e with
  | Call _ _ _ _ => cases h
  | _ => rfl
theorem Gl.of {X : Cx} {sc : Scope} {x : Str} (e : X.env.scope = sc) (h : glB sc x = true) : Gl X x := by
  show X.env.scope.names.lookup x = _
  rw [e]
  exact glB_of h
/-! ### what it comes to -/
abbrev RE (cx : CX) (b : Bk) (e : Expr) := { c : C // ∀ {k X W P exv}, Good cx k b X W P exv → PE X e (tE X.K W (ev P c)) }
abbrev RF (cx : CX) (b : Bk) (e : Expr) := { c : C // ∀ {k X W P exv}, Good cx k b X W P exv → PE X e (tF X.K W (ev P c)) }
abbrev RT (cx : CX) (b : Bk) (e : Expr) := { c : C // ∀ {k X W P exv}, Good cx k b X W P exv → PT X e (tT X.K W (evB P c)) }
abbrev RW (cx : CX) (b : Bk) (e : Expr) := { c : C // ∀ {k X W P exv}, Good cx k b X W P exv → PW X e (tT X.K W (evB P c)) }
abbrev RA (cx : CX) (b : Bk) (es : List Expr) := { as : Cs // es.all noStar = true ∧ ∀ {k X W P exv}, Good cx k b X W P exv → PA X es (tA X.K W (evs P as)) }
abbrev RI' (cx : CX) (b : Bk) (tg e : Expr) := { it : It // ∀ {k X W P exv}, Good cx k b X W P exv → PI X tg e (tI X.K W (evIt P it)) }
abbrev RTs (cx : CX) (b : Bk) (es : List Expr) := { cs : Cs // ∀ {k X W P exv}, Good cx k b X W P exv → PTs X es (tT X.K W (evTs P cs)) }
abbrev RG (cx : CX) (b : Bk) (e : Expr) := { t : Tg // ∀ {k X W P exv}, Good cx k b X W P exv → TgE X e t }
abbrev RGs (cx : CX) (b : Bk) (es : List Expr) := { t : List Tg // ∀ {k X W P exv}, Good cx k b X W P exv → TgEs X es t }
structure Cmp (cx : CX) where
  e : ∀ b e, Option (RE cx b e)
  f : ∀ b e, Option (RF cx b e)
  t : ∀ b e, Option (RT cx b e)
  w : ∀ b e, Option (RW cx b e)
  g : ∀ b e, Option (RG cx b e)
section
variable {cx : CX} {k : Nat}
def mName (b : Bk) (x : Str) (pos : Pos) : Option (RE cx b (.Name x pos)) :=
  if ho : okN x = true then match slotOf cx.N x with
    | some ⟨i, hi⟩ => if hv : visB b.sc x = true then some ⟨.var i, fun {k X W P exv} g => se_var (by rw [g.n]; exact hi) (by rw [g.sc]; exact visB_of hv) (okN1 ho) (okN2 ho)⟩ else none
    | none => if hg : glB b.sc x = true then match look cx.gs x with
      | some ⟨j, m⟩ => some ⟨.glob j, fun {k X W P exv} g => by
          obtain ⟨u, v, d, h1, h2, h3, h4⟩ := g.gs _ m
          exact se_glob (pe_glob (Gl.of g.sc hg) h1 h2 (okN1 ho)) h3 h4⟩
      | none => none
      else none
  else none
/-- a name looked at where it stands -/
def mPeek (b : Bk) (x : Str) (pos : Pos) : Option (RE cx b (.Name x pos)) :=
  if ho : okN x = true then match slotOf cx.N x with
    | some ⟨i, hi⟩ => if hv : visB b.sc x = true then some ⟨.peek i, fun {k X W P exv} g => se_peek (by rw [g.n]; exact hi) (by rw [g.sc]; exact visB_of hv) (okN1 ho) (okN2 ho)⟩ else none
    | none => mName b x pos
  else none
def mOp (r : Cmp cx) (b : Bk) : (e : Expr) → Option (RE cx b e)
  | .Name x pos => mPeek b x pos
  | e => r.e b e
def mA (r : Cmp cx) (b : Bk) : (es : List Expr) → Option (RA cx b es)
  | [] => some ⟨.nil, rfl, fun {k X W P exv} g => sa_nil⟩
  | e :: es => if hs : noStar e = true then match r.e b e, mA r b es with
    | some ⟨a, pa⟩, some ⟨as, hs2, pas⟩ => some ⟨.cons a as, by rw [List.all_cons, hs, hs2]; rfl, fun {k X W P exv} g => sa_cons (pa g) (pas g) (star1 hs es X.env)⟩
    | _, _ => none
    else none
/-- operands -/
def mAo (r : Cmp cx) (b : Bk) : (es : List Expr) → Option (RA cx b es)
  | [] => some ⟨.nil, rfl, fun {k X W P exv} g => sa_nil⟩
  | e :: es => if hs : noStar e = true then match mOp r b e, mAo r b es with
    | some ⟨a, pa⟩, some ⟨as, hs2, pas⟩ => some ⟨.cons a as, by rw [List.all_cons, hs, hs2]; rfl, fun {k X W P exv} g => sa_cons (pa g) (pas g) (star1 hs es X.env)⟩
    | _, _ => none
    else none
def mConst (b : Bk) (c : Const) (j : Nat) (pos : Pos) : Option (RE cx b (.Constant c j pos)) := match c with
  | .none => some ⟨.kst .none, fun {k X W P exv} g => se_kst pe_non fun _ _ => .non⟩
  | .bool z => some ⟨.kst (.bool z), fun {k X W P exv} g => se_kst pe_bl fun _ _ => .bl _⟩
  | .int z => some ⟨.kst (.int z), fun {k X W P exv} g => se_kst pe_int fun _ _ => .int _⟩
  | .str z => some ⟨.kst (.str z), fun {k X W P exv} g => se_kst pe_str fun _ _ => .str _⟩
  | _ => none
end
theorem lk_mul : ∀ ds d, fMul ds = some d → isC d = true → ∃ ys, d = .list ys := fun ds d h c => by
  unfold fMul at h
  split at h
  · split at h
    · cases h; cases c
    · cases h
  · split at h
    · cases h; cases c
    · cases h
  · cases h
def binO : (op : Operator) → Option { o : Op // ∀ X, OpP X (binaryOp op) o.fresh o.fn }
  | .Add => some ⟨.add, fun X => o_add⟩
  | .Sub => some ⟨.sub, fun X => o_sub⟩
  | .Mult => some ⟨.mul, fun X => o_mul⟩
  | .FloorDiv => some ⟨.fdiv, fun X => o_fdiv⟩
  | .Mod => some ⟨.mod, fun X => o_mod⟩
  | .Pow => some ⟨.pow, fun X => o_pow⟩
  | _ => none
def binF : (op : Operator) → Option { o : Op // (∀ X, OpP X (binaryOp op) true o.fn) ∧ ∀ ds d, o.fn ds = some d → isC d = true → ∃ ys, d = .list ys }
  | .Add => some ⟨.add, fun X => o_add, lk_add⟩
  | _ => none
theorem bl_eq : ∀ ds d, fEq ds = some d → ∃ b, d = .bool b := fun ds d h => by
  unfold fEq at h
  split at h
  · split at h
    · cases h; exact ⟨_, rfl⟩
    · unfold isNil at h
      split at h
      · cases h; exact ⟨_, rfl⟩
      · cases h
  · cases h
theorem bl_ne : ∀ ds d, fNe ds = some d → ∃ b, d = .bool b := fun ds d h => by
  unfold fNe at h
  split at h
  · split at h
    · cases h; exact ⟨_, rfl⟩
    · unfold notNil at h
      split at h
      · cases h; exact ⟨_, rfl⟩
      · cases h
  · cases h
theorem bl_lt : ∀ ds d, fLt ds = some d → ∃ b, d = .bool b := fun ds d h => by
  unfold fLt at h
  split at h <;> cases h
  exact ⟨_, rfl⟩
theorem bl_le : ∀ ds d, fLe ds = some d → ∃ b, d = .bool b := fun ds d h => by
  unfold fLe at h
  split at h <;> cases h
  exact ⟨_, rfl⟩
theorem bl_gt : ∀ ds d, fGt ds = some d → ∃ b, d = .bool b := fun ds d h => by
  unfold fGt at h
  split at h <;> cases h
  exact ⟨_, rfl⟩
theorem bl_ge : ∀ ds d, fGe ds = some d → ∃ b, d = .bool b := fun ds d h => by
  unfold fGe at h
  split at h <;> cases h
  exact ⟨_, rfl⟩
theorem bl_is : ∀ ds d, fIs ds = some d → ∃ b, d = .bool b := fun ds d h => by
  unfold fIs at h
  split at h <;> cases h <;> exact ⟨_, rfl⟩
theorem bl_isnt : ∀ ds d, fIsnt ds = some d → ∃ b, d = .bool b := fun ds d h => by
  unfold fIsnt at h
  split at h <;> cases h <;> exact ⟨_, rfl⟩
theorem bl_in : ∀ ds d, fIn ds = some d → ∃ b, d = .bool b := fun ds d h => by
  unfold fIn at h
  split at h
  · cases h; exact ⟨_, rfl⟩
  · split at h
    · cases h; exact ⟨_, rfl⟩
    · obtain ⟨_, _, _, _, rfl⟩ := dictNo_of h; exact ⟨_, rfl⟩
  · split at h
    · cases h; exact ⟨_, rfl⟩
    · cases h
  · cases h
theorem bl_notin : ∀ ds d, fNotin ds = some d → ∃ b, d = .bool b := fun ds d h => by
  unfold fNotin at h
  split at h
  · cases h; exact ⟨_, rfl⟩
  · split at h
    · cases h; exact ⟨_, rfl⟩
    · cases h
  · split at h
    · cases h; exact ⟨_, rfl⟩
    · cases h
  · cases h
def cmpO : (op : CmpOp) → { o : Op // (∀ X : Cx, X.A.units + 200 < cLine → OpP X (compareOp op) o.fresh o.fn) ∧ ∀ ds d, o.fn ds = some d → ∃ b, d = .bool b }
  | .Eq => ⟨.eq, fun X hu => o_eq hu, bl_eq⟩
  | .NotEq => ⟨.ne, fun X hu => o_ne hu, bl_ne⟩
  | .Lt => ⟨.lt, fun X hu => o_lt, bl_lt⟩
  | .LtE => ⟨.le, fun X hu => o_le, bl_le⟩
  | .Gt => ⟨.gt, fun X hu => o_gt, bl_gt⟩
  | .GtE => ⟨.ge, fun X hu => o_ge, bl_ge⟩
  | .Is => ⟨.is_, fun X hu => o_is, bl_is⟩
  | .IsNot => ⟨.isnt, fun X hu => o_isnt, bl_isnt⟩
  | .In => ⟨.in_, fun X hu => o_in hu, bl_in⟩
  | .NotIn => ⟨.notin, fun X hu => o_notin hu, bl_notin⟩
theorem bt_all : bootBuiltins "all" = some (.builtin "all") := by decide +kernel
theorem bt_any : bootBuiltins "any" = some (.builtin "any") := by decide +kernel
theorem bt_abs : bootBuiltins "abs" = some (.builtin "abs") := by decide +kernel
theorem bt_max : bootBuiltins "max" = some (.builtin "max") := by decide +kernel
theorem bt_min : bootBuiltins "min" = some (.builtin "min") := by decide +kernel
theorem bt_repr : bootBuiltins "repr" = some (.builtin "repr") := by decide +kernel
theorem bt_sorted : bootBuiltins "sorted" = some (.builtin "sorted") := by decide +kernel
theorem bt_len : bootBuiltins "len" = some (.builtin "len") := by decide +kernel
theorem bt_isinst : bootBuiltins "isinstance" = some (.builtin "isinstance") := by decide +kernel
theorem bt_int : bootBuiltins "int" = some (.type "int") := by decide +kernel
theorem bt_str : bootBuiltins "str" = some (.type "str") := by decide +kernel
theorem bt_bool : bootBuiltins "bool" = some (.type "bool") := by decide +kernel
theorem bt_list : bootBuiltins "list" = some (.type "list") := by decide +kernel
theorem bt_tuple : bootBuiltins "tuple" = some (.type "tuple") := by decide +kernel
theorem bt_dict : bootBuiltins "dict" = some (.type "dict") := by decide +kernel
/-- builtins that are called by values -/
def biOf (x : Str) : Option { q : Op × String // bootBuiltins x = some (.builtin q.2) ∧ ∀ X : Cx, X.calm = true → X.A.guards = some [] → X.A.units + 200 < cLine → CallP X (.builtin q.2) q.1.fresh q.1.fn } :=
  if h : x = "len" then some ⟨(.len, "len"), by subst h; exact bt_len, fun X _ _ _ => o_len⟩
  else if h : x = "all" then some ⟨(.all, "all"), by subst h; exact bt_all, fun X hc _ _ => o_all hc⟩
  else if h : x = "any" then some ⟨(.any, "any"), by subst h; exact bt_any, fun X hc _ _ => o_any hc⟩
  else if h : x = "abs" then some ⟨(.abs, "abs"), by subst h; exact bt_abs, fun X _ _ _ => o_abs⟩
  else if h : x = "max" then some ⟨(.max2, "max"), by subst h; exact bt_max, fun X hc _ _ => o_max2 hc⟩
  else if h : x = "min" then some ⟨(.min2, "min"), by subst h; exact bt_min, fun X hc _ _ => o_min2 hc⟩
  else if h : x = "repr" then some ⟨(.repr, "repr"), by subst h; exact bt_repr, fun X _ hg hu => o_repr hg hu⟩
  else if h : x = "sorted" then some ⟨(.sorted, "sorted"), by subst h; exact bt_sorted, fun X hc _ hu => o_sorted hc hu⟩
  else none
def tyOf (x : Str) : Option { q : Op × String // bootBuiltins x = some (.type q.2) ∧ ∀ X : Cx, CallP X (.type q.2) q.1.fresh q.1.fn } :=
  if h : x = "int" then some ⟨(.int1, "int"), by subst h; exact bt_int, fun X => o_int⟩
  else if h : x = "list" then some ⟨(.ofList, "list"), by subst h; exact bt_list, fun X => o_ofList⟩
  else if h : x = "tuple" then some ⟨(.ofTuple, "tuple"), by subst h; exact bt_tuple, fun X => o_ofTuple⟩
  else if h : x = "str" then some ⟨(.str1, "str"), by subst h; exact bt_str, fun X => o_str1⟩
  else none
def biF (x : Str) : Option { q : Op × String // bootBuiltins x = some (.builtin q.2) ∧ (∀ X : Cx, X.calm = true → X.A.units + 200 < cLine → CallP X (.builtin q.2) true q.1.fn) ∧ ∀ ds d, q.1.fn ds = some d → isC d = true → ∃ ys, d = .list ys } :=
  if h : x = "sorted" then some ⟨(.sorted, "sorted"), by subst h; exact bt_sorted, fun X hc hu => o_sorted hc hu, lk_sorted⟩
  else none
def tyF (x : Str) : Option { q : Op × String // bootBuiltins x = some (.type q.2) ∧ (∀ X : Cx, CallP X (.type q.2) true q.1.fn) ∧ ∀ ds d, q.1.fn ds = some d → isC d = true → ∃ ys, d = .list ys } :=
  if h : x = "list" then some ⟨(.ofList, "list"), by subst h; exact bt_list, fun X => o_ofList, lk_ofList⟩
  else none
def tyName (x : Str) : Option { t : Ty // bootBuiltins x = some (.type t.str') } :=
  if h : x = "str" then some ⟨.str, by subst h; exact bt_str⟩
  else if h : x = "int" then some ⟨.int, by subst h; exact bt_int⟩
  else if h : x = "bool" then some ⟨.bool, by subst h; exact bt_bool⟩
  else if h : x = "list" then some ⟨.list, by subst h; exact bt_list⟩
  else if h : x = "tuple" then some ⟨.tuple, by subst h; exact bt_tuple⟩
  else if h : x = "dict" then some ⟨.dict, by subst h; exact bt_dict⟩
  else none
theorem pe_tyName {X : Cx} {x : Str} {T : String} {p : Pos} (hg : Gl X x) (hm : X.mg x = none) (hv : bootBuiltins x = some (.type T)) (hn : x ≠ "__name__") (hdb : (x == ("__debug__" : Str)) = false) : PE X (.Name x p) (tC (.ty T)) :=
  ⟨fun pins s σ H Q I h => ld_blt I hg hm hv ⟨.ty T, H, I, rfl, h⟩ hn hdb⟩
end EV
end
section
set_option Elab.async false
set_option linter.all false
set_option maxRecDepth 100000
set_option maxHeartbeats 4000000
set_option autoImplicit false
/-! EvM: from a def's text to core terms, expressions -/
namespace EV
open PySem L2
section
variable {cx : CX} {k : Nat}
theorem fewN {es : List Expr} (h : es.all noStar = true) (few : es.length < 30) (pos : Pos) (env : PySem.Env) : ((backTo pos (starEach es env)).all (fun x => !x.1) && (backToKw pos (keywordEach [] env)).all (fun x => x.1.isSome)
      && decide (es.length + ([] : List Keyword).length + (if ([] : List Keyword).isEmpty then 0 else 1) < 30)) = true := by
  rw [(starN h pos env).2]
  simp [keywordEach, backToKw, few]
/-! ### calls -/
def mIsinst (r : Cmp cx) (b : Bk) (p : Pos) (es : List Expr) (pos : Pos) : Option (RE cx b (.Call (.Name "isinstance" p) es [] pos)) := match es with
  | [e, .Name T q] => if hs : noStar e = true then (if hg : glB b.sc "isinstance" = true then (if hg2 : glB b.sc T = true then (if hm : memB cx.bl "isinstance" = true then (if hm2 : memB cx.bl T = true then (if ho : okN T = true then match tyName T, mOp r b e with
    | some ⟨t, ht⟩, some ⟨a, pa⟩ => some ⟨.op (.isinst t) (.cons a .nil), fun {k X W P exv} g => se_isinst (Gl.of g.sc hg) (g.bl _ (memB_of hm)) bt_isinst (pa g) (pe_tyName (Gl.of g.sc hg2) (g.bl _ (memB_of hm2)) ht (okN3 ho) (okN1 ho)) (by decide +kernel) (by decide +kernel)
        (star1 hs _ _) (star1 rfl _ _) rfl⟩
    | _, _ => none
    else none) else none) else none) else none) else none) else none
  | [e, .Tuple [.Name T q, .Name T2 q2] kk tpos] => if h : T = "list" then (if h2 : T2 = "tuple" then (if hs : noStar e = true then (if hg : glB b.sc "isinstance" = true then (if hgl : glB b.sc "list" = true then (if hgt : glB b.sc "tuple" = true then (if hm : memB cx.bl "isinstance" = true then (if hml : memB cx.bl "list" = true then (if hmt : memB cx.bl "tuple" = true then match mOp r b e with
    | some ⟨a, pa⟩ => by
      subst h h2
      exact some ⟨.op .isLT (.cons a .nil), fun {k X W P exv} g => se_isLT (Gl.of g.sc hg) (g.bl _ (memB_of hm)) (pa g) (pe_tyName (Gl.of g.sc hgl) (g.bl _ (memB_of hml)) bt_list (by decide +kernel) (by decide +kernel)) (pe_tyName (Gl.of g.sc hgt) (g.bl _ (memB_of hmt)) bt_tuple (by decide +kernel) (by decide +kernel)) (star1 hs _ _)⟩
    | none => none
    else none) else none) else none) else none) else none) else none) else none) else none) else none
  | _ => none
def mBi (r : Cmp cx) (b : Bk) (x : Str) (p : Pos) (es : List Expr) (pos : Pos) : Option (RE cx b (.Call (.Name x p) es [] pos)) := match es with
  | [] => none
  | e :: es => if hg : glB b.sc x = true then (if hm : memB cx.bl x = true then (if ho : okN x = true then match mAo r b (e :: es) with
    | some ⟨as, hs, pa⟩ => (match biOf x with
      | some ⟨q, hb, hc⟩ => some ⟨.op q.1 as, fun {k X W P exv} g => se_bi (hc X g.calm g.hgd g.hu) (Gl.of g.sc hg) (g.bl _ (memB_of hm)) hb (pa g) (okN3 ho) (okN1 ho)
          (star1 (by rw [List.all_cons, Bool.and_eq_true] at hs; exact hs.1) _ _) (starN (by rw [List.all_cons, Bool.and_eq_true] at hs; exact hs.2) _ _).1⟩
      | none => (match tyOf x with
        | some ⟨q, hb, hc⟩ => some ⟨.op q.1 as, fun {k X W P exv} g => se_ty (hc X) (Gl.of g.sc hg) (g.bl _ (memB_of hm)) hb (pa g) (okN3 ho) (okN1 ho)
            (star1 (by rw [List.all_cons, Bool.and_eq_true] at hs; exact hs.1) _ _) (starN (by rw [List.all_cons, Bool.and_eq_true] at hs; exact hs.2) _ _).1⟩
        | none => none))
    | none => none
    else none) else none) else none
theorem passOf {exv : Nat → Value} {b : Bk} {X : Cx} {W : WX} {P : Env} (g : Good cx k b X W P exv) (ss : St) : PassesAt (L2.CX X.prog X.w) X ss (EW exv W ss) := passAt g.tk ss
def mFn (r : Cmp cx) (b : Bk) (x : Str) (p : Pos) (es : List Expr) (pos : Pos) : Option (RE cx b (.Call (.Name x p) es [] pos)) :=
  if hg : glB b.sc x = true then (if ho : okN x = true then match look cx.fs x with
    | some ⟨f, m⟩ => (match es with
      | [] => some ⟨.call f .nil, fun {k X W P exv} g => by
          obtain ⟨a, fd, ps, F, hm, hk, hb⟩ := g.fs _ m
          exact se_call0 F g.rm g.hgd (Gl.of g.sc hg) hm hk hb (passOf g) (g.npk f) (okN1 ho)⟩
      | e :: es => match mA r b (e :: es) with
        | some ⟨as, hs, pa⟩ => some ⟨.call f as, fun {k X W P exv} g => by
            obtain ⟨a, fd, ps, F, hm, hk, hb⟩ := g.fs _ m
            rw [List.all_cons, Bool.and_eq_true] at hs
            exact se_call F g.rm g.hgd (Gl.of g.sc hg) hm hk hb (passOf g) (g.npk f) (pa g) (okN1 ho) (star1 hs.1 _ _) (starN hs.2 _ _).1⟩
        | none => none)
    | none => none
    else none) else none
def muOf (x : Str) (n : Nat) : Option { q : Mu × String // PySem.Slot "list" x q.2 ∧ typeOf (.builtin q.2) = pure (.type "method_descriptor") ∧ ∀ X : Cx, MuP X q.2 q.1 } :=
  if h : x = "append" then some ⟨(.app, "list.append"), by subst h; exact PySem.F.slot_list_append, PySem.F.type_list_append, fun X => u_app⟩
  else if h : x = "pop" then (if n = 0 then some ⟨(.pop, "list.pop"), by subst h; exact PySem.F.slot_list_pop, PySem.F.type_list_pop, fun X => u_pop⟩ else some ⟨(.popAt, "list.pop"), by subst h; exact PySem.F.slot_list_pop, PySem.F.type_list_pop, fun X => u_popAt⟩)
  else if h : x = "reverse" then some ⟨(.rev, "list.reverse"), by subst h; exact PySem.F.slot_list_reverse, PySem.F.type_list_reverse, fun X => u_rev⟩
  else if h : x = "clear" then some ⟨(.clr, "list.clear"), by subst h; exact PySem.F.slot_list_clear, PySem.F.type_list_clear, fun X => u_clr⟩
  else none
def mMut (r : Cmp cx) (b : Bk) (x : Str) (np : Pos) (name : Str) (ap : Pos) (es : List Expr) (pos : Pos) : Option (RE cx b (.Call (.Attribute (.Name x np) name ap) es [] pos)) :=
  if ho : okN x = true then (if hv : visB b.sc x = true then match slotOf cx.N x, muOf name es.length with
    | some ⟨i, hi⟩, some ⟨q, sl, ty, hq⟩ => if hl : (ap.endLine == pos.line) = true then (match es with
      | [] => some ⟨.mut i q.1 .nil, fun {k X W P exv} g => se_mut0 (hq X) sl ty (by rw [g.n]; exact hi) (by rw [g.sc]; exact visB_of hv) (okN1 ho) (okN2 ho) hl⟩
      | e :: es => (match mA r b (e :: es) with
        | some ⟨as, hs, pa⟩ => if few : (e :: es).length < 30 then some ⟨.mut i q.1 as, fun {k X W P exv} g => se_mut (hq X) sl ty (by rw [g.n]; exact hi) (by rw [g.sc]; exact visB_of hv) (okN1 ho) (okN2 ho) (pa g) (fewN hs few _ _) hl
            (star1 (by rw [List.all_cons, Bool.and_eq_true] at hs; exact hs.1) _ _) (starN (by rw [List.all_cons, Bool.and_eq_true] at hs; exact hs.2) _ _).1⟩ else none
        | none => none)) else none
    | _, _ => none
    else none) else none
theorem ty_join {K : PySem.W.Frag} : ∀ d, mty .join d = true → ∀ M H v, Dn K M H false d v → tyV K "str" v H := fun d h M H v dn => by
  cases d with
  | str x => cases dn; trivial
  | _ => cases h
theorem ty_split {K : PySem.W.Frag} : ∀ d, mty .split d = true → ∀ M H v, Dn K M H false d v → tyV K "str" v H := fun d h M H v dn => by
  cases d with
  | str x => cases dn; trivial
  | _ => cases h
theorem ty_strip {K : PySem.W.Frag} : ∀ d, mty .strip d = true → ∀ M H v, Dn K M H false d v → tyV K "str" v H := fun d h M H v dn => by
  cases d with
  | str x => cases dn; trivial
  | _ => cases h
def meOf (x : Str) : Option { q : Op × String × String // PlainAttrs q.2.1 ∧ PySem.Slot q.2.1 x q.2.2 ∧ typeOf (.builtin q.2.2) = pure (.type "method_descriptor") ∧ (∀ X : Cx, MtP X q.2.2 q.1.fresh q.1.fn) ∧ ∀ (K : PySem.W.Frag) d, mty q.1 d = true → ∀ M H v, Dn K M H false d v → tyV K q.2.1 v H } :=
  if h : x = "strip" then some ⟨(.strip, "str", "str.strip"), PySem.F.plainAttrs_str, by subst h; exact PySem.F.slot_str_strip, PySem.F.type_str_strip, fun X => o_strip, fun K => ty_strip⟩
  else if h : x = "join" then some ⟨(.join, "str", "str.join"), PySem.F.plainAttrs_str, by subst h; exact PySem.F.slot_str_join, PySem.F.type_str_join, fun X => o_join, fun K => ty_join⟩
  else if h : x = "split" then some ⟨(.split, "str", "str.split"), PySem.F.plainAttrs_str, by subst h; exact PySem.F.slot_str_split, PySem.F.type_str_split, fun X => o_split, fun K => ty_split⟩
  else none
def mMeth (r : Cmp cx) (b : Bk) (o : Expr) (name : Str) (ap : Pos) (es : List Expr) (pos : Pos) : Option (RE cx b (.Call (.Attribute o name ap) es [] pos)) :=
  if hn : noCall o = true then match es with
    | [] => none
    | e :: es => (match meOf name, mOp r b o, mAo r b (e :: es) with
      | some ⟨q, h1, h2, h3, h4, h5⟩, some ⟨a, pa⟩, some ⟨as, hs, pas⟩ => if hl : (ap.endLine == pos.line) = true then (if few : (e :: es).length < 30 then some ⟨.meth q.1 a as, fun {k X W P exv} g => se_meth h1 h2 h3 (h4 X) (h5 X.K) (pa g) (pas g) (noCall_of hn _ _ _) (fewN hs few _ _) hl
          (star1 (by rw [List.all_cons, Bool.and_eq_true] at hs; exact hs.1) _ _) (starN (by rw [List.all_cons, Bool.and_eq_true] at hs; exact hs.2) _ _).1⟩ else none) else none
      | _, _, _ => none)
    else none
def mSetlen (r : Cmp cx) (b : Bk) (p p2 q : Pos) (e : Expr) (pos : Pos) : Option (RE cx b (.Call (.Name "len" p) [.Call (.Name "set" p2) [e] [] q] [] pos)) :=
  if hs : noStar e = true then (if hg : glB b.sc "len" = true then (if hg2 : glB b.sc "set" = true then (if hm : memB cx.bl "len" = true then (if hm2 : memB cx.bl "set" = true then match mOp r b e with
    | some ⟨a, pa⟩ => some ⟨.op .setlen (.cons a .nil), fun {k X W P exv} g => se_setlen g.calm (Gl.of g.sc hg) (g.bl _ (memB_of hm)) (Gl.of g.sc hg2) (g.bl _ (memB_of hm2)) (pa g) (star1 hs _ _)⟩
    | none => none
    else none) else none) else none) else none) else none
def mLen (r : Cmp cx) (b : Bk) (x : Str) (p : Pos) (es : List Expr) (pos : Pos) : Option (RE cx b (.Call (.Name x p) es [] pos)) := match es with
  | [.Call (.Name y p2) [e] [] q] => if h : x = "len" then (if h2 : y = "set" then by subst h h2; exact mSetlen r b p p2 q e pos else none) else none
  | _ => none
def mExtF (r : Cmp cx) (b : Bk) (x : Str) (np : Pos) (name : Str) (ap : Pos) (es : List Expr) (pos : Pos) : Option (RE cx b (.Call (.Attribute (.Name x np) name ap) es [] pos)) := match es with
  | [e] => if h : name = "extend" then (if ho : okN x = true then (if hv : visB b.sc x = true then (if hs : noStar e = true then match slotOf cx.N x, r.f b e with
    | some ⟨i, hi⟩, some ⟨a, pa⟩ => if hl : (ap.endLine == pos.line) = true then some ⟨.extF i a, fun {k X W P exv} g => by
        subst h
        exact se_extF (by rw [g.n]; exact hi) (by rw [g.sc]; exact visB_of hv) (okN1 ho) (okN2 ho) (pa g) (fewN (by rw [List.all_cons, hs]; rfl) (by show 1 < 30; decide) _ _) hl (star1 hs _ _)⟩ else none
    | _, _ => none
    else none) else none) else none) else none
  | _ => none
def orE {α : Type} (a b : Option α) : Option α := match a with
  | some x => some x
  | none => b
def mCall (r : Cmp cx) (b : Bk) : (f : Expr) → (es : List Expr) → (kw : List Keyword) → (pos : Pos) → Option (RE cx b (.Call f es kw pos))
  | .Name x p, es, [], pos => if h : x = "isinstance" then by subst h; exact mIsinst r b p es pos else orE (mFn r b x p es pos) (orE (mLen r b x p es pos) (mBi r b x p es pos))
  | .Attribute (.Name x np) name ap, es, [], pos => orE (mExtF r b x np name ap es pos) (orE (mMut r b x np name ap es pos) (mMeth r b (.Name x np) name ap es pos))
  | .Attribute o name ap, es, [], pos => mMeth r b o name ap es pos
  | _, _, _, _ => none
/-! ### the rest -/
def mBool (r : Cmp cx) (b : Bk) (pos : Pos) : (op : PySem.BoolOp) → (es : List Expr) → Option (RE cx b (.BoolOp op es pos))
  | _, [] => none
  | op, [e] => match mOp r b e with
    | some ⟨a, pa⟩ => some ⟨a, fun {k X W P exv} g => pe_one (pa g)⟩
    | none => none
  | .And, e :: e2 :: es => match mOp r b e, mBool r b pos .And (e2 :: es) with
    | some ⟨a, pa⟩, some ⟨c, pc⟩ => some ⟨.and a c, fun {k X W P exv} g => se_and (pa g) (pc g)⟩
    | _, _ => none
  | .Or, e :: e2 :: es => match mOp r b e, mBool r b pos .Or (e2 :: es) with
    | some ⟨a, pa⟩, some ⟨c, pc⟩ => some ⟨.or a c, fun {k X W P exv} g => se_or (pa g) (pc g)⟩
    | _, _ => none
def mBoolW (r : Cmp cx) (b : Bk) (pos : Pos) : (op : PySem.BoolOp) → (es : List Expr) → Option (RW cx b (.BoolOp op es pos))
  | _, [] => none
  | .And, [e] => match r.t b e with
    | some ⟨a, pa⟩ => some ⟨a, fun {k X W P exv} g => pw_and1 (pa g)⟩
    | none => none
  | .Or, [e] => match r.t b e with
    | some ⟨a, pa⟩ => some ⟨a, fun {k X W P exv} g => pw_or1 (pa g)⟩
    | none => none
  | .And, e :: e2 :: es => match r.t b e, mBoolW r b pos .And (e2 :: es) with
    | some ⟨a, pa⟩, some ⟨c, pc⟩ => some ⟨.and a c, fun {k X W P exv} g => sw_and (pa g) (pc g)⟩
    | _, _ => none
  | .Or, e :: e2 :: es => match r.t b e, mBoolW r b pos .Or (e2 :: es) with
    | some ⟨a, pa⟩, some ⟨c, pc⟩ => some ⟨.or a c, fun {k X W P exv} g => sw_or (pa g) (pc g)⟩
    | _, _ => none
theorem pe_gd {X : Cx} {x : Str} {a : Addr} {p : Pos} (hg : Gl X x) (hm : X.mg x = some (.ref a)) (hdb : (x == ("__debug__" : Str)) = false) : PE X (.Name x p) (tC (.ref a)) := pe_glob hg hm rfl hdb
/-- a text among a written dict's keys -/
def mDin (r : Cmp cx) (b : Bk) (pos : Pos) (l : Expr) (op : CmpOp) (e : Expr) : Option (RE cx b (.Compare l [op] [e] pos)) := match op, e with
  | .In, .Name x p => if ho : okN x = true then (if hg : glB b.sc x = true then (if hm : behindInMarks .In (.Name x p) = false then match look cx.gd x, mOp r b l with
    | some ⟨kvs, m⟩, some ⟨a, pa⟩ => some ⟨.op (.dIn kvs false) (.cons a .nil), fun {k X W P exv} g => by
        obtain ⟨q, h1, h2⟩ := g.gd _ m
        exact se_din h2 (pa g) (pe_gd (Gl.of g.sc hg) h1 (okN1 ho)) hm⟩
    | _, _ => none
    else none) else none) else none
  | .NotIn, .Name x p => if ho : okN x = true then (if hg : glB b.sc x = true then (if hm : behindInMarks .NotIn (.Name x p) = false then match look cx.gd x, mOp r b l with
    | some ⟨kvs, m⟩, some ⟨a, pa⟩ => some ⟨.op (.dIn kvs true) (.cons a .nil), fun {k X W P exv} g => by
        obtain ⟨q, h1, h2⟩ := g.gd _ m
        exact se_dnin h2 (pa g) (pe_gd (Gl.of g.sc hg) h1 (okN1 ho)) hm⟩
    | _, _ => none
    else none) else none) else none
  | _, _ => none
def mDinT (r : Cmp cx) (b : Bk) (pos : Pos) (l : Expr) (op : CmpOp) (e : Expr) : Option (RT cx b (.Compare l [op] [e] pos)) := match op, e with
  | .In, .Name x p => if ho : okN x = true then (if hg : glB b.sc x = true then (if hm : behindInMarks .In (.Name x p) = false then match look cx.gd x, mOp r b l with
    | some ⟨kvs, m⟩, some ⟨a, pa⟩ => some ⟨.op (.dIn kvs false) (.cons a .nil), fun {k X W P exv} g => by
        obtain ⟨q, h1, h2⟩ := g.gd _ m
        exact st_din h2 (pa g) (pe_gd (Gl.of g.sc hg) h1 (okN1 ho)) hm⟩
    | _, _ => none
    else none) else none) else none
  | .NotIn, .Name x p => if ho : okN x = true then (if hg : glB b.sc x = true then (if hm : behindInMarks .NotIn (.Name x p) = false then match look cx.gd x, mOp r b l with
    | some ⟨kvs, m⟩, some ⟨a, pa⟩ => some ⟨.op (.dIn kvs true) (.cons a .nil), fun {k X W P exv} g => by
        obtain ⟨q, h1, h2⟩ := g.gd _ m
        exact st_dnin h2 (pa g) (pe_gd (Gl.of g.sc hg) h1 (okN1 ho)) hm⟩
    | _, _ => none
    else none) else none) else none
  | _, _ => none
def mDat (r : Cmp cx) (b : Bk) (pos : Pos) (l i : Expr) : Option (RE cx b (.Subscript l i pos)) := match l with
  | .Name x p => if ho : okN x = true then (if hg : glB b.sc x = true then (if hi : plainIx i = true then match look cx.gd x, mOp r b i with
    | some ⟨kvs, m⟩, some ⟨a, pa⟩ => some ⟨.op (.dAt kvs) (.cons a .nil), fun {k X W P exv} g => by
        obtain ⟨q, h1, h2⟩ := g.gd _ m
        exact se_dat h2 (pe_gd (Gl.of g.sc hg) h1 (okN1 ho)) (pa g) (plainIx_of hi)⟩
    | _, _ => none
    else none) else none) else none
  | _ => none
def mCmp (r : Cmp cx) (b : Bk) (pos : Pos) (l : Expr) (ops : List CmpOp) (rs : List Expr) : Option (RE cx b (.Compare l ops rs pos)) := match ops, rs with
  | [op], [e] => orE (mDin r b pos l op e) (if hm : behindInMarks op e = false then match mOp r b l, mOp r b e with
    | some ⟨a, pa⟩, some ⟨c, pc⟩ => some ⟨.op (cmpO op).1 (.cons a (.cons c .nil)), fun {k X W P exv} g => se_cmp ((cmpO op).2.1 X g.hu) (pa g) (pc g) hm⟩
    | _, _ => none
    else none)
  | [op, op'], [e, e'] => if hm : lastMarks [op, op'] [e, e'] = false then match mOp r b l, mOp r b e, mOp r b e' with
    | some ⟨a, pa⟩, some ⟨c, pc⟩, some ⟨d, pd⟩ => some ⟨.chain (cmpO op).1 (cmpO op').1 a c d, fun {k X W P exv} g => se_chain ((cmpO op).2.1 X g.hu) ((cmpO op').2.1 X g.hu) (cmpO op).2.2 (pa g) (pc g) (pd g) hm⟩
    | _, _, _ => none
    else none
  | _, _ => none
def mCmpT (r : Cmp cx) (b : Bk) (pos : Pos) (l : Expr) (ops : List CmpOp) (rs : List Expr) : Option (RT cx b (.Compare l ops rs pos)) := match ops, rs with
  | [op], [e] => orE (mDinT r b pos l op e) (if hm : behindInMarks op e = false then match mOp r b l, mOp r b e with
    | some ⟨a, pa⟩, some ⟨c, pc⟩ => some ⟨.op (cmpO op).1 (.cons a (.cons c .nil)), fun {k X W P exv} g => st_cmp ((cmpO op).2.1 X g.hu) (cmpO op).2.2 (pa g) (pc g) hm⟩
    | _, _ => none
    else none)
  | [op, op'], [e, e'] => if hm : lastMarks [op, op'] [e, e'] = false then match mOp r b l, mOp r b e, mOp r b e' with
    | some ⟨a, pa⟩, some ⟨c, pc⟩, some ⟨d, pd⟩ => some ⟨.chain (cmpO op).1 (cmpO op').1 a c d, fun {k X W P exv} g => st_chain ((cmpO op).2.1 X g.hu) ((cmpO op').2.1 X g.hu) (cmpO op).2.2 (cmpO op').2.2 (pa g) (pc g) (pd g) hm⟩
    | _, _, _ => none
    else none
  | _, _ => none
def mPart (r : Cmp cx) (b : Bk) : (e : Option Expr) → Option { c : C // ∀ {k X W P exv}, Good cx k b X W P exv → PO X e (fun σ H Q => At X.K W RO (ev P c) σ H Q) }
  | none => some ⟨.kst .none, fun {k X W P exv} g => po_no⟩
  | some e => match mOp r b e with
    | some ⟨a, pa⟩ => some ⟨.op .toi (.cons a .nil), fun {k X W P exv} g => po_so (pa g)⟩
    | none => none
def mSub (r : Cmp cx) (b : Bk) (pos : Pos) (l : Expr) : (i : Expr) → Option (RE cx b (.Subscript l i pos))
  | .Slice lo hi none p => match mOp r b l, mPart r b lo, mPart r b hi with
    | some ⟨a, pa⟩, some ⟨c, pc⟩, some ⟨d, pd⟩ => some ⟨.op .slice (.cons a (.cons c (.cons d .nil))), fun {k X W P exv} g => se_slice (pa g) (pc g) (pd g)⟩
    | _, _, _ => none
  | .Slice none none (some (.UnaryOp .USub (.Constant (.int 1) j p1) p2)) p3 => match mOp r b l with
    | some ⟨a, pa⟩ => some ⟨.op .rev (.cons a .nil), fun {k X W P exv} g => se_rev (pa g)⟩
    | none => none
  | i => orE (mDat r b pos l i) (if hi : plainIx i = true then match mOp r b l, mOp r b i with
    | some ⟨a, pa⟩, some ⟨c, pc⟩ => some ⟨.op .idx (.cons a (.cons c .nil)), fun {k X W P exv} g => se_ix o_idx (pa g) (pc g) (plainIx_of hi)⟩
    | _, _ => none
    else none)
def atOf : (e : Expr) → Option { d : D // AtE e d }
  | .Constant .none _ _ => some ⟨.none, .non⟩
  | .Constant (.bool z) _ _ => some ⟨.bool z, .bl⟩
  | .Constant (.int z) _ _ => some ⟨.int z, .int⟩
  | .Constant (.str z) _ _ => some ⟨.str z, .str⟩
  | _ => none
def keyOf : (e : Expr) → Option { q : Key // AtE e (keyD q) }
  | .Constant (.int z) _ _ => some ⟨.inl z, .int⟩
  | .Constant (.str z) _ _ => some ⟨.inr z, .str⟩
  | _ => none
def kvOf : (ks : List (Option Expr)) → (vs : List Expr) → Option { r : List (Key × D) // AtKV ks vs r }
  | [], [] => some ⟨[], .nil⟩
  | some a :: ks, v :: vs => match keyOf a, atOf v, kvOf ks vs with
    | some ⟨q, h1⟩, some ⟨d, h2⟩, some ⟨r, h3⟩ => some ⟨(q, d) :: r, .cons h1 h2 h3⟩
    | _, _, _ => none
  | _, _ => none
def mDct (b : Bk) (pos : Pos) (ks : List (Option Expr)) (vs : List Expr) : Option (RF cx b (.Dict ks vs pos)) := match kvOf ks vs with
  | some ⟨r, h⟩ => if hn : (r.map (·.1)).Nodup then (if few : r.length ≤ 15 then some ⟨.dct r, fun {k X W P exv} g => sf_dct h hn few⟩ else none) else none
  | none => none
def mDctE (b : Bk) (pos : Pos) (ks : List (Option Expr)) (vs : List Expr) : Option (RE cx b (.Dict ks vs pos)) := match kvOf ks vs with
  | some ⟨r, h⟩ => if hn : (r.map (·.1)).Nodup then (if few : r.length ≤ 15 then some ⟨.dct r, fun {k X W P exv} g => se_dct h hn few⟩ else none) else none
  | none => none
/-! ### targets, walks, comprehensions -/
def mG (r : Cmp cx) (b : Bk) : (e : Expr) → Option (RG cx b e)
  | .Name x pos => match slotOf cx.N x with
    | some ⟨i, hi⟩ => if h : isLocal b.sc x = true then some ⟨.nm i, fun {k X W P exv} g => .nm (by rw [g.n]; exact hi) (.inl (by rw [g.sc]; exact isLocal_of h)) (.inr (by rw [g.sc]; exact isLocal_of h))⟩
      else if h : isCell b.sc x = true then (if hf : memB b.fnl x = true then some ⟨.nm i, fun {k X W P exv} g => .nm (by rw [g.n]; exact hi) (.inr (by rw [g.sc]; exact isCell_of h)) (.inl (g.fnl _ (memB_of hf)))⟩ else none) else none
    | none => none
  | .Tuple es n pos => match mGs es with
    | some ⟨ts, h⟩ => some ⟨.tp ts, fun {k X W P exv} g => .tp (h g)⟩
    | none => none
  | _ => none
where mGs : (es : List Expr) → Option (RGs cx b es)
  | [] => some ⟨[], fun {k X W P exv} g => .nil⟩
  | e :: es => match r.g b e, mGs es with
    | some ⟨t, h⟩, some ⟨ts, hs⟩ => some ⟨t :: ts, fun {k X W P exv} g => .cons (h g) (hs g)⟩
    | _, _ => none
def mEnum (r : Cmp cx) (b : Bk) (p : Pos) (es : List Expr) (pos : Pos) : (tg : Expr) → Option (RI' cx b tg (.Call (.Name "enumerate" p) es [] pos))
  | .Tuple elts kk tpos => if hg : glB b.sc "enumerate" = true then (if hm : memB cx.bl "enumerate" = true then match es with
    | [e] => if hs : noStar e = true then (match r.e b e with
      | some ⟨a, pa⟩ => some ⟨.enum a, fun {k X W P exv} g => si_enum (Gl.of g.sc hg) (g.bl _ (memB_of hm)) (pa g) (star1 hs _ _)⟩
      | none => none) else none
    | _ => none
    else none) else none
  | _ => none
def mZip (r : Cmp cx) (b : Bk) (p : Pos) (es : List Expr) (pos : Pos) : (tg : Expr) → Option (RI' cx b tg (.Call (.Name "zip" p) es [] pos))
  | .Tuple elts kk tpos => if hg : glB b.sc "zip" = true then (if hm : memB cx.bl "zip" = true then match es with
    | [e, f] => if hs : noStar e = true then (if hs2 : noStar f = true then (match r.e b e, r.e b f with
      | some ⟨a, pa⟩, some ⟨c, pc⟩ => some ⟨.zip (.cons a (.cons c .nil)), fun {k X W P exv} g => si_zip (Gl.of g.sc hg) (g.bl _ (memB_of hm)) (pa g) (pc g) (by rw [star1 hs, star1 hs2]; rfl) (star1 hs2 _ _)⟩
      | _, _ => none) else none) else none
    | _ => none
    else none) else none
  | _ => none
def mIt (r : Cmp cx) (b : Bk) (tg : Expr) : (e : Expr) → Option (RI' cx b tg e)
  | .Name x pos => if ho : okN x = true then match slotOf cx.N x with
    | some ⟨i, hi⟩ => if hv : visB b.sc x = true then some ⟨.slot i, fun {k X W P exv} g => si_slot (by rw [g.n]; exact hi) (by rw [g.sc]; exact visB_of hv) (okN1 ho) (okN2 ho)⟩ else none
    | none => match r.e b (.Name x pos) with
      | some ⟨a, pa⟩ => some ⟨.seq a, fun {k X W P exv} g => si_seq (pa g)⟩
      | none => none
    else none
  | .Call (.Name x p) es [] pos => if h : x = "range" then (if hg : glB b.sc "range" = true then (if hm : memB cx.bl "range" = true then match es with
      | [e] => if hs : noStar e = true then (match mOp r b e with
        | some ⟨a, pa⟩ => some ⟨.rng (.cons a .nil), fun {k X W P exv} g => by
            subst h
            exact si_rng1 (Gl.of g.sc hg) (g.bl _ (memB_of hm)) (pa g) (star1 hs _ _)⟩
        | none => none) else none
      | [e, f] => if hs : noStar e = true then (if hs2 : noStar f = true then (match mOp r b e, mOp r b f with
        | some ⟨a, pa⟩, some ⟨c, pc⟩ => some ⟨.rng (.cons a (.cons c .nil)), fun {k X W P exv} g => by
            subst h
            exact si_rng2 (Gl.of g.sc hg) (g.bl _ (memB_of hm)) (pa g) (pc g) (by rw [star1 hs, star1 hs2]; rfl) (star1 hs2 _ _)⟩
        | _, _ => none) else none) else none
      | _ => none
      else none) else none) else if h2 : x = "enumerate" then by subst h2; exact mEnum r b p es pos tg else if h3 : x = "zip" then by subst h3; exact mZip r b p es pos tg else match r.e b (.Call (.Name x p) es [] pos) with
      | some ⟨a, pa⟩ => some ⟨.seq a, fun {k X W P exv} g => si_seq (pa g)⟩
      | none => none
  | e => match r.e b e with
    | some ⟨a, pa⟩ => some ⟨.seq a, fun {k X W P exv} g => si_seq (pa g)⟩
    | none => none
def mTs (r : Cmp cx) (b : Bk) : (es : List Expr) → Option (RTs cx b es)
  | [] => some ⟨.nil, fun {k X W P exv} g => sts_nil⟩
  | [e] => match r.t b e with
    | some ⟨a, pa⟩ => some ⟨.cons a .nil, fun {k X W P exv} g => sts_one (pa g)⟩
    | none => none
  | _ => none
def ownOf (N : List Str) : List (Str × NameKind) → List (Str × Nat)
  | [] => []
  | (x, .local) :: r => (match slotOf N x with | some ⟨i, _⟩ => [(x, i)] | none => []) ++ ownOf N r
  | (x, .cell) :: r => (match slotOf N x with | some ⟨i, _⟩ => [(x, i)] | none => []) ++ ownOf N r
  | _ :: r => ownOf N r
def cellsOf : List (Str × NameKind) → List Str
  | [] => []
  | (x, .cell) :: r => x :: cellsOf r
  | _ :: r => cellsOf r
/-- a block's context -/
def Bk.sub (b : Bk) (sc : Scope) : Bk := { sc := relS sc b.sc, fnl := (cellsOf sc.names).filter fun x => isCell sc x }
theorem Good.blk {b : Bk} {X : Cx} {W : WX} {P : Env} {exv : Nat → Value} (g : Good cx k b X W P exv) (sc : Scope) (s : Shared) (H : Hp) (C : Addr) (cl : List (Str × Addr)) (fp : List Addr) : Good cx k (b.sub sc) (X.blk s H sc (compEnvC sc cl C X.env) fp) W0 P exv :=
  { n := g.n, nd := g.nd
    sc := by
      show relS sc X.env.scope = relS sc b.sc
      rw [g.sc]
    fnl := fun x hx => by
      have := (List.mem_filter.mp hx).2
      show (sc.names.lookup x == some .cell) = true
      rw [isCell_of this]
      rfl
    calm := g.calm, hgd := g.hgd, rm := g.rm, bl := g.bl, fs := g.fs, gs := g.gs, gd := g.gd
    tk := fun u s' ⟨a, B, sI, pins, σ, H, cls, d, e, I, nb, up, sky, na, os, ag, w⟩ => by
      obtain ⟨c, _, _, w⟩ := w
      exact w.elim
    npk := g.npk }
structure LcP where
  vs : List Nat
  tg : Tg
  it : It
  cs : Cs
  el : C
def LcP.c (q : LcP) : C := .lc q.vs q.tg q.it q.cs q.el
def mLcP (r : Cmp cx) (b : Bk) (elt tg iter : Expr) (ifs : List Expr) (sc : Scope) : Option { q : LcP // noSet iter = true ∧ (∀ j ∈ slotsT q.tg, j ∈ q.vs) ∧ (∃ own : List (Str × Nat), q.vs = own.map (·.2) ∧ BlkOk cx.N b.sc sc own) ∧
    (∀ {k X W P exv}, Good cx k b X W P exv → PI X tg iter (tI X.K W (evIt P q.it))) ∧ (∀ {k X W P exv}, Good cx k (b.sub sc) X W P exv → TgE X tg q.tg) ∧ (∀ {k X W P exv}, Good cx k (b.sub sc) X W P exv → PTs X ifs (tT X.K W (evTs P q.cs))) ∧
    (∀ {k X W P exv}, Good cx k (b.sub sc) X W P exv → PE X elt (tE X.K W (ev P q.el))) } :=
  if h1 : noSet iter = true then (if h2 : blkC cx.N b.sc sc (ownOf cx.N sc.names) = true then match mIt r b tg iter, r.g (b.sub sc) tg, mTs r (b.sub sc) ifs, r.e (b.sub sc) elt with
    | some ⟨it, hi⟩, some ⟨t, ht⟩, some ⟨cs, hc⟩, some ⟨el, he⟩ => if h3 : ∀ j ∈ slotsT t, j ∈ (ownOf cx.N sc.names).map (·.2) then
        some ⟨⟨(ownOf cx.N sc.names).map (·.2), t, it, cs, el⟩, h1, h3, ⟨_, rfl, blkOk_by h2⟩, fun {k X W P exv} g => hi g, fun {k X W P exv} g => ht g, fun {k X W P exv} g => hc g, fun {k X W P exv} g => he g⟩ else none
    | _, _, _, _ => none
    else none) else none
theorem lc_pe {b : Bk} {X : Cx} {W : WX} {P : Env} {exv : Nat → Value} (g : Good cx k b X W P exv) {elt tg iter : Expr} {ifs : List Expr} {sc : Scope} {pos : Pos} {q : LcP} (h1 : noSet iter = true) (h3 : ∃ own : List (Str × Nat), q.vs = own.map (·.2) ∧ BlkOk cx.N b.sc sc own)
    (h4 : ∀ {k X W P exv}, Good cx k b X W P exv → PI X tg iter (tI X.K W (evIt P q.it))) (h5 : ∀ {k X W P exv}, Good cx k (b.sub sc) X W P exv → TgE X tg q.tg) (h6 : ∀ {k X W P exv}, Good cx k (b.sub sc) X W P exv → PTs X ifs (tT X.K W (evTs P q.cs)))
    (h7 : ∀ {k X W P exv}, Good cx k (b.sub sc) X W P exv → PE X elt (tE X.K W (ev P q.el))) :
    PE X (.ListComp elt [⟨tg, iter, ifs, 0⟩] sc pos) (tLc (tI X.K W (evIt P q.it)) (tG X.K q.tg) (tT X.K W0 (evTs P q.cs)) (tE X.K W0 (ev P q.el)) q.vs) := by
  obtain ⟨own, e, ok⟩ := h3
  rw [e]
  exact pe_lc (wi := tI X.K W (evIt P q.it)) (g := tG X.K q.tg) (tt := tT X.K W0 (evTs P q.cs)) (te := tE X.K W0 (ev P q.el)) g.calm g.nd (h4 g) (by rw [g.n, g.sc]; exact ok)
    (fun s H C cl fp => sg_tg (X := X.blk s H sc (compEnvC sc cl C X.env) fp) g.calm g.nd (h5 (g.blk sc s H C cl fp))) (fun s H C cl fp => h6 (g.blk sc s H C cl fp)) (fun s H C cl fp => h7 (g.blk sc s H C cl fp)) fun x => noSet_of h1 _ x
theorem lc_ps {b : Bk} {X : Cx} {W : WX} {P : Env} {exv : Nat → Value} (g : Good cx k b X W P exv) {i : Nat} {y : Str} {py spos : Pos} {elt tg iter : Expr} {ifs : List Expr} {sc : Scope} {pos : Pos} {q : LcP} (h1 : noSet iter = true) (h3 : ∃ own : List (Str × Nat), q.vs = own.map (·.2) ∧ BlkOk cx.N b.sc sc own)
    (h4 : ∀ {k X W P exv}, Good cx k b X W P exv → PI X tg iter (tI X.K W (evIt P q.it))) (h5 : ∀ {k X W P exv}, Good cx k (b.sub sc) X W P exv → TgE X tg q.tg) (h6 : ∀ {k X W P exv}, Good cx k (b.sub sc) X W P exv → PTs X ifs (tT X.K W (evTs P q.cs)))
    (h7 : ∀ {k X W P exv}, Good cx k (b.sub sc) X W P exv → PE X elt (tE X.K W (ev P q.el))) (hy : cx.N[i]? = some y) (hl : isLocal b.sc y = true) (hk : b.sc.kind = .function) (hln : (py.line == pos.line) = true) (ha : (sc.names.any fun (n, k) => n == y && (k == .local || k == .cell)) = false) :
    PS X (.Assign [.Name y py] (.ListComp elt [⟨tg, iter, ifs, 0⟩] sc pos) spos) (tAsg (tLc (tI X.K W (evIt P q.it)) (tG X.K q.tg) (tT X.K W0 (evTs P q.cs)) (tE X.K W0 (ev P q.el)) q.vs) (gName i)) := by
  obtain ⟨own, e, ok⟩ := h3
  rw [e]
  have hyl : X.env.scope.names.lookup y = some .local := by rw [g.sc]; exact isLocal_of hl
  exact ps_setLc (wi := tI X.K W (evIt P q.it)) (g := tG X.K q.tg) (tt := tT X.K W0 (evTs P q.cs)) (te := tE X.K W0 (ev P q.el)) g.calm g.nd (by rw [g.n]; exact hy) hyl
    (sw_true (by rw [g.sc]; exact hk) hyl hln ha) (h4 g) (by rw [g.n, g.sc]; exact ok)
    (fun s H C cl fp => sg_tg (X := X.blk s H sc (compEnvC sc cl C X.env) fp) g.calm g.nd (h5 (g.blk sc s H C cl fp))) (fun s H C cl fp => h6 (g.blk sc s H C cl fp)) (fun s H C cl fp => h7 (g.blk sc s H C cl fp)) fun x => noSet_of h1 _ x
def mLc (r : Cmp cx) (b : Bk) (pos : Pos) (elt : Expr) (gs : List Comprehension) (sc : Scope) : Option (RF cx b (.ListComp elt gs sc pos)) := match gs with
  | [⟨tg, iter, ifs, 0⟩] => (match mLcP r b elt tg iter ifs sc with
    | some ⟨q, h1, h2, h3, h4, h5, h6, h7⟩ => some ⟨q.c, fun {k X W P exv} g => (lc_pe g h1 h3 h4 h5 h6 h7).imp fun σ H Q h => lc_read h2 h⟩
    | none => none)
  | _ => none
def mT (r : Cmp cx) (b : Bk) : (e : Expr) → Option (RT cx b e)
  | .Compare l ops rs pos => mCmpT r b pos l ops rs
  | .UnaryOp .Not e pos => match r.t b e with
    | some ⟨a, pa⟩ => some ⟨.not a, fun {k X W P exv} g => st_not (pa g)⟩
    | none => none
  | .BoolOp op es pos => match mBoolW r b pos op es with
    | some ⟨a, pa⟩ => some ⟨a, fun {k X W P exv} g => (pa g).pt⟩
    | none => none
  | e => if hn : noTest e = true then match mOp r b e with
    | some ⟨a, pa⟩ => some ⟨a, fun {k X W P exv} g => st_truth (pa g) (noTest_of hn _)⟩
    | none => none
    else none
def mBin (r : Cmp cx) (b : Bk) (l : Expr) (op : Operator) (rr : Expr) (pos : Pos) : Option (RE cx b (.BinOp l op rr pos)) := match binO op, mOp r b l, mOp r b rr with
  | some ⟨o, ho⟩, some ⟨a, pa⟩, some ⟨c, pc⟩ => some ⟨.op o (.cons a (.cons c .nil)), fun {k X W P exv} g => se_bin (ho X) (pa g) (pc g)⟩
  | _, _, _ => none
def mBinF (r : Cmp cx) (b : Bk) (l : Expr) (op : Operator) (rr : Expr) (pos : Pos) : Option (RF cx b (.BinOp l op rr pos)) := match binF op, mOp r b l, mOp r b rr with
  | some ⟨o, ho, hl⟩, some ⟨a, pa⟩, some ⟨c, pc⟩ => some ⟨.op o (.cons a (.cons c .nil)), fun {k X W P exv} g => sf_bin (ho X) hl (pa g) (pc g)⟩
  | _, _, _ => none
def mTyF (r : Cmp cx) (b : Bk) (x : Str) (p : Pos) (es : List Expr) (pos : Pos) : Option (RF cx b (.Call (.Name x p) es [] pos)) := match es with
  | [] => none
  | e :: es => if hg : glB b.sc x = true then (if hm : memB cx.bl x = true then (if ho : okN x = true then match mAo r b (e :: es), tyF x with
    | some ⟨as, hs, pa⟩, some ⟨q, hb, hc, hl⟩ => some ⟨.op q.1 as, fun {k X W P exv} g => sf_ty (hc X) hl (Gl.of g.sc hg) (g.bl _ (memB_of hm)) hb (pa g) (okN3 ho) (okN1 ho)
          (star1 (by rw [List.all_cons, Bool.and_eq_true] at hs; exact hs.1) _ _) (starN (by rw [List.all_cons, Bool.and_eq_true] at hs; exact hs.2) _ _).1⟩
    | _, _ => none
    else none) else none) else none
def mBiF (r : Cmp cx) (b : Bk) (x : Str) (p : Pos) (es : List Expr) (pos : Pos) : Option (RF cx b (.Call (.Name x p) es [] pos)) := match es with
  | [] => none
  | e :: es => if hg : glB b.sc x = true then (if hm : memB cx.bl x = true then (if ho : okN x = true then match mAo r b (e :: es), biF x with
    | some ⟨as, hs, pa⟩, some ⟨q, hb, hc, hl⟩ => some ⟨.op q.1 as, fun {k X W P exv} g => sf_bi (hc X g.calm g.hu) hl (Gl.of g.sc hg) (g.bl _ (memB_of hm)) hb (pa g) (okN3 ho) (okN1 ho)
          (star1 (by rw [List.all_cons, Bool.and_eq_true] at hs; exact hs.1) _ _) (starN (by rw [List.all_cons, Bool.and_eq_true] at hs; exact hs.2) _ _).1⟩
    | _, _ => none
    else none) else none) else none
/-- new things -/
def mF (r : Cmp cx) (b : Bk) : (e : Expr) → Option (RF cx b e)
  | .List es pos => match mA r b es with
    | some ⟨as, _, pa⟩ => some ⟨.lst as, fun {k X W P exv} g => sf_lst (pa g)⟩
    | none => none
  | .BinOp l op rr pos => mBinF r b l op rr pos
  | .Dict ks vs pos => mDct b pos ks vs
  | .ListComp elt gs sc pos => mLc r b pos elt gs sc
  | .IfExp t x y pos => match r.t b t, r.f b x, r.f b y with
    | some ⟨c, pc⟩, some ⟨a, pa⟩, some ⟨d, pd⟩ => some ⟨.ite c a d, fun {k X W P exv} g => sf_ite (pc g) (pa g) (pd g)⟩
    | _, _, _ => none
  | .Call (.Name x p) es [] pos => orE (mTyF r b x p es pos) (mBiF r b x p es pos)
  | _ => none
theorem dat_cc {q : LcP} {P : Env} : ∀ S x S', ev P q.c S = .ok x S' → ∃ d, x = .d d ∧ isC d = true := fun S x S' h => dat_lc S x S' h
def mLcE (r : Cmp cx) (b : Bk) (pos : Pos) (elt : Expr) (gs : List Comprehension) (sc : Scope) : Option (RE cx b (.ListComp elt gs sc pos)) := match gs with
  | [⟨tg, iter, ifs, 0⟩] => (match mLcP r b elt tg iter ifs sc with
    | some ⟨q, h1, h2, h3, h4, h5, h6, h7⟩ => some ⟨q.c, fun {k X W P exv} g => (lc_pe g h1 h3 h4 h5 h6 h7).imp fun σ H Q h => lc_read h2 (tF_of dat_cc h)⟩
    | none => none)
  | _ => none
def mE (r : Cmp cx) (b : Bk) : (e : Expr) → Option (RE cx b e)
  | .Name x pos => mName b x pos
  | .Constant c j pos => mConst b c j pos
  | .BoolOp op es pos => mBool r b pos op es
  | .BinOp l op rr pos => mBin r b l op rr pos
  | .UnaryOp .Not e pos => match mOp r b e with
    | some ⟨a, pa⟩ => some ⟨.not a, fun {k X W P exv} g => se_not (pa g)⟩
    | none => none
  | .UnaryOp .USub e pos => match mOp r b e with
    | some ⟨a, pa⟩ => some ⟨.op .neg (.cons a .nil), fun {k X W P exv} g => se_un o_neg rfl (pa g)⟩
    | none => none
  | .IfExp t x y pos => match r.t b t, r.e b x, r.e b y with
    | some ⟨c, pc⟩, some ⟨a, pa⟩, some ⟨d, pd⟩ => some ⟨.ite c a d, fun {k X W P exv} g => se_ite (pc g) (pa g) (pd g)⟩
    | _, _, _ => none
  | .Compare l ops rs pos => mCmp r b pos l ops rs
  | .Call f es kw pos => mCall r b f es kw pos
  | .Subscript l i pos => mSub r b pos l i
  | .List es pos => match mA r b es with
    | some ⟨as, _, pa⟩ => some ⟨.lst as, fun {k X W P exv} g => se_lst (pa g)⟩
    | none => none
  | .Tuple es n pos => match mA r b es with
    | some ⟨as, _, pa⟩ => some ⟨.tup as, fun {k X W P exv} g => se_tup (pa g)⟩
    | none => none
  | .Dict ks vs pos => mDctE b pos ks vs
  | .ListComp elt gs sc pos => mLcE r b pos elt gs sc
  | _ => none
end
def cmp0 (cx : CX) : Cmp cx := ⟨fun _ _ => none, fun _ _ => none, fun _ _ => none, fun _ _ => none, fun _ _ => none⟩
def cmp (cx : CX) : Nat → Cmp cx
  | 0 => cmp0 cx
  | n + 1 => ⟨mE (cmp cx n), mF (cmp cx n), mT (cmp cx n), fun _ _ => none, mG (cmp cx n)⟩
end EV
end
section
set_option Elab.async false
set_option linter.all false
set_option maxRecDepth 100000
set_option maxHeartbeats 4000000
set_option autoImplicit false
/-! EvN: from a def's text to core terms, statements; a def by its terms -/
namespace EV
open PySem L2
theorem noComp_sole {e : Expr} (h : noComp e = true) (t : Expr) (l : Nat) (env : PySem.Env) : swapsWithSole [t] e l env = pure false := noComp_of h (some t) l env
theorem assign_ix {i : Expr} (h : plainIx i = true) (o : Expr) (pos : Pos) (env : PySem.Env) (v : Value) : assign (.Subscript o i pos) env v = (do
      let ov ← holding [v] (eval o env)
      let iv ← holding [v, ov] (eval i env)
      standAt pos
      holding [v, ov, iv] (setItem ov iv v)
      release [v, ov, iv] []) := by
  cases i with
  | Slice _ _ _ _ => cases h
  | _ => rfl
structure GoodS (cx : CX) (k : Nat) (b : Bk) (X : Cx) (W : WX) (P : Env) (exv : Nat → Value) : Prop where
  g : Good cx k b X W P exv
  pass : PassesOwn (model X.prog X.w) X.A X.env X.xe
  ex : ∀ p ∈ cx.ex, Gl X p.1 → (p.1 == ("__debug__" : Str)) = false → ∀ (m : Str) (j : Nat) (p1 p2 pos : Pos), PMk X (.Call (.Name p.1 p1) [.Constant (.str m) j p2] [] pos) (fun _ H Q => Q (exv p.2) none H)
abbrev RS (cx : CX) (b : Bk) (s : Stmt) := { c : CS // ∀ {k X W P exv}, GoodS cx k b X W P exv → PS X s (tS X.K W (exS P c)) }
abbrev RSs (cx : CX) (b : Bk) (s : List Stmt) := { c : CSs // ∀ {k X W P exv}, GoodS cx k b X W P exv → PSs X s (tS X.K W (exs P c)) }
section
variable {cx : CX} {k : Nat}
def mSs {b : Bk} (st : ∀ s, Option (RS cx b s)) : (ss : List Stmt) → Option (RSs cx b ss)
  | [] => some ⟨.nil, fun {k X W P exv} g => pss_nil.imp fun D σ H h => r_nil h⟩
  | s :: ss => match st s, mSs st ss with
    | some ⟨c, pc⟩, some ⟨cs, ps⟩ => some ⟨.cons c cs, fun {k X W P exv} g => (pss_cons (pc g) (ps g)).imp fun D σ H h => r_cons h⟩
    | _, _ => none
/-- where a name may be stored -/
def stB (b : Bk) (x : Str) : Bool := isLocal b.sc x || (isCell b.sc x && memB b.fnl x)
theorem stB_of {b : Bk} {X : Cx} {W : WX} {P : Env} {exv : Nat → Value} (g : Good cx k b X W P exv) {x : Str} (h : stB b x = true) : Loc X.env.scope x ∧ (X.fn x = true ∨ X.env.scope.names.lookup x = some .local) := by
  unfold stB at h
  rw [Bool.or_eq_true, Bool.and_eq_true] at h
  rw [g.sc]
  rcases h with h | ⟨h, h2⟩
  · exact ⟨.inl (isLocal_of h), .inr (isLocal_of h)⟩
  · exact ⟨.inr (isCell_of h), .inl (g.fnl _ (memB_of h2))⟩
def mSet (r : Cmp cx) (b : Bk) (x : Str) (p : Pos) (e : Expr) (pos : Pos) : Option (RS cx b (.Assign [.Name x p] e pos)) := match slotOf cx.N x with
  | some ⟨i, hi⟩ => if hs : stB b x = true then (if hn : noComp e = true then (if memB cx.own x = true then (match r.f b e with
      | some ⟨a, pa⟩ => some ⟨.setO i a, fun {k X W P exv} g => (ps_set g.g.nd (by rw [g.g.n]; exact hi) (stB_of g.g hs).1 (pa g.g) (noComp_of hn _ _ _) (stB_of g.g hs).2).imp fun D σ H h => r_setO h⟩
      | none => none)
      else (match r.e b e with
      | some ⟨a, pa⟩ => some ⟨.set i a, fun {k X W P exv} g => (ps_set g.g.nd (by rw [g.g.n]; exact hi) (stB_of g.g hs).1 (pa g.g) (noComp_of hn _ _ _) (stB_of g.g hs).2).imp fun D σ H h => r_set h⟩
      | none => none)) else none) else none
  | none => none
theorem r_lcO {i : Nat} {q : LcP} (h2 : ∀ j ∈ slotsT q.tg, j ∈ q.vs) {X : Cx} {W : WX} {P : Env} {D : Ends} {σ : St} {H : Hp} (h : tS X.K W (exS P (.setO i q.c)) D σ H) :
    tAsg (tLc (tI X.K W (evIt P q.it)) (tG X.K q.tg) (tT X.K W0 (evTs P q.cs)) (tE X.K W0 (ev P q.el)) q.vs) (gName i) D σ H := lc_read h2 (r_setO h)
theorem r_lc {i : Nat} {q : LcP} (h2 : ∀ j ∈ slotsT q.tg, j ∈ q.vs) {X : Cx} {W : WX} {P : Env} {D : Ends} {σ : St} {H : Hp} (h : tS X.K W (exS P (.set i q.c)) D σ H) :
    tAsg (tLc (tI X.K W (evIt P q.it)) (tG X.K q.tg) (tT X.K W0 (evTs P q.cs)) (tE X.K W0 (ev P q.el)) q.vs) (gName i) D σ H := lc_read h2 (tF_of dat_cc (r_set h))
/-- a comprehension for a cell: nothing is swapped -/
theorem swap_cell {x : Str} {py : Pos} {elt : Expr} {gs : List Comprehension} {sc : Scope} {pos : Pos} {l : Nat} {env : PySem.Env} (h : env.scope.names.lookup x = some .cell) : swapsWith (.ListComp elt gs sc pos) (some (.Name x py)) l env = pure false := by
  have e : env.kindOf x = some .cell := h
  have e2 : (NameKind.cell == NameKind.local) = false := rfl
  unfold swapsWith
  simp [e, e2]
def mSetLc (r : Cmp cx) (b : Bk) (x : Str) (p : Pos) (elt : Expr) (gs : List Comprehension) (sc : Scope) (lp : Pos) (pos : Pos) : Option (RS cx b (.Assign [.Name x p] (.ListComp elt gs sc lp) pos)) := match gs with
  | [⟨tg, iter, ifs, 0⟩] => (match slotOf cx.N x, mLcP r b elt tg iter ifs sc with
    | some ⟨i, hi⟩, some ⟨q, h1, h2, h3, h4, h5, h6, h7⟩ =>
      if hl : isLocal b.sc x = true then (if hk : b.sc.kind = .function then (if hln : (p.line == lp.line) = true then (if ha : (sc.names.any fun (n, k) => n == x && (k == .local || k == .cell)) = false then
        (if memB cx.own x = true then some ⟨.setO i q.c, fun {k X W P exv} g => (lc_ps g.g h1 h3 h4 h5 h6 h7 hi hl hk hln ha).imp fun D σ H h => r_lcO h2 h⟩
        else some ⟨.set i q.c, fun {k X W P exv} g => (lc_ps g.g h1 h3 h4 h5 h6 h7 hi hl hk hln ha).imp fun D σ H h => r_lc h2 h⟩) else none) else none) else none)
      else (if hc : isCell b.sc x = true then (if hs : stB b x = true then
        (if memB cx.own x = true then some ⟨.setO i q.c, fun {k X W P exv} g => (ps_set g.g.nd (by rw [g.g.n]; exact hi) (stB_of g.g hs).1 (lc_pe g.g h1 h3 h4 h5 h6 h7) (swap_cell (by rw [g.g.sc]; exact isCell_of hc)) (stB_of g.g hs).2).imp fun D σ H h => r_lcO h2 h⟩
        else some ⟨.set i q.c, fun {k X W P exv} g => (ps_set g.g.nd (by rw [g.g.n]; exact hi) (stB_of g.g hs).1 (lc_pe g.g h1 h3 h4 h5 h6 h7) (swap_cell (by rw [g.g.sc]; exact isCell_of hc)) (stB_of g.g hs).2).imp fun D σ H h => r_lc h2 h⟩) else none) else none)
    | _, _ => none)
  | _ => none
def mSetT (r : Cmp cx) (b : Bk) (es : List Expr) (n : Nat) (tp : Pos) (e : Expr) (pos : Pos) : Option (RS cx b (.Assign [.Tuple es n tp] e pos)) :=
  if h1 : noComp e = true then (if h2 : noTup e = true then match r.g b (.Tuple es n tp), r.e b e with
    | some ⟨.tp ts, ht⟩, some ⟨a, pa⟩ => some ⟨.setT ts a, fun {k X W P exv} g => (ps_asg (pa g.g) (sg_tg g.g.calm g.g.nd (ht g.g)) (noComp_sole h1 _ _ _) (noTup_of h2 _ _ _ _) rfl).imp fun D σ H h => r_setT h⟩
    | _, _ => none
    else none) else none
def mPut (r : Cmp cx) (b : Bk) (x : Str) (np : Pos) (i : Expr) (ip : Pos) (v : Expr) (pos : Pos) : Option (RS cx b (.Assign [.Subscript (.Name x np) i ip] v pos)) :=
  if ho : okN x = true then (if hv : visB b.sc x = true then (if hn : noComp v = true then (if hx : plainIx i = true then match slotOf cx.N x, r.e b i, r.e b v with
    | some ⟨j, hj⟩, some ⟨a, pa⟩, some ⟨c, pc⟩ => some ⟨.put j a c, fun {k X W P exv} g =>
        (ps_asg (pc g.g) (pg_sub (pe_var (by rw [g.g.n]; exact hj) (by rw [g.g.sc]; exact visB_of hv) (okN1 ho) (okN2 ho)) (pa g.g) set_list (assign_ix hx _ _ _)) (noComp_sole hn _ _ _) rfl rfl).imp fun D σ H h => r_put h⟩
    | _, _, _ => none
    else none) else none) else none) else none
def mRaise (b : Bk) (x : Str) (p1 : Pos) (m : Str) (j : Nat) (p2 pos pos' : Pos) : Option (RS cx b (.Raise (some (.Call (.Name x p1) [.Constant (.str m) j p2] [] pos)) none pos')) :=
  if ho : okN x = true then (if hg : glB b.sc x = true then match look cx.ex x with
    | some ⟨c, hm⟩ => some ⟨.raise c, fun {k X W P exv} g => (ps_raise g.g.calm g.g.tk (g.ex _ hm (Gl.of g.g.sc hg) (okN1 ho) m j p1 p2 pos)).imp fun D σ H h => ⟨c, rfl, rfl, r_raise h⟩⟩
    | none => none
    else none) else none
def mRet (r : Cmp cx) (b : Bk) (pos : Pos) : (e : Expr) → Option (RS cx b (.Return (some e) pos))
  | .List es lp => if cx.share = true then (match mA r b es with
      | some ⟨as, _, pa⟩ => some ⟨.ret (.nref as), fun {k X W P exv} g => (ps_ret (se_nref (pa g.g))).imp fun D σ H h => r_ret h⟩
      | none => none)
    else (match mA r b es with
      | some ⟨as, _, pa⟩ => some ⟨.ret (.lst as), fun {k X W P exv} g => (ps_ret (se_lst (pa g.g))).imp fun D σ H h => r_ret h⟩
      | none => none)
  | e => if cx.share = true then (match r.f b e with
      | some ⟨a, pa⟩ => some ⟨.ret (.share a), fun {k X W P exv} g => (ps_ret (se_share (pa g.g))).imp fun D σ H h => r_ret h⟩
      | none => none)
    else (match r.e b e with
      | some ⟨a, pa⟩ => some ⟨.ret a, fun {k X W P exv} g => (ps_ret (pa g.g)).imp fun D σ H h => r_ret h⟩
      | none => none)
def mAsg (r : Cmp cx) (b : Bk) (pos : Pos) : (t e : Expr) → Option (RS cx b (.Assign [t] e pos))
  | .Name x p, .ListComp elt gs sc lp => mSetLc r b x p elt gs sc lp pos
  | .Name x p, e => mSet r b x p e pos
  | .Tuple es n tp, e => mSetT r b es n tp e pos
  | .Subscript (.Name x np) i ip, v => mPut r b x np i ip v pos
  | _, _ => none
def mS (r : Cmp cx) (b : Bk) (st : ∀ s, Option (RS cx b s)) : (s : Stmt) → Option (RS cx b s)
  | .Pass pos => some ⟨.pass, fun {k X W P exv} g => ps_pass.imp fun D σ H h => r_pass h⟩
  | .Break pos => some ⟨.brk, fun {k X W P exv} g => ps_break.imp fun D σ H h => r_brk h⟩
  | .Continue pos => some ⟨.cnt, fun {k X W P exv} g => ps_continue.imp fun D σ H h => r_cnt h⟩
  | .Expr (.Constant (.str x) j p) pos => some ⟨.pass, fun {k X W P exv} g => ps_doc.imp fun D σ H h => r_pass h⟩
  | .Expr e pos => if hn : noComp e = true then (match r.e b e with
    | some ⟨a, pa⟩ => some ⟨.expr a, fun {k X W P exv} g => (ps_expr (pa g.g) (noComp_of hn _ _ _)).imp fun D σ H h => r_expr h⟩
    | none => none) else none
  | .Return none pos => some ⟨.retN, fun {k X W P exv} g => ps_retN.imp fun D σ H h => r_retN h⟩
  | .Return (some e) pos => mRet r b pos e
  | .Assign [t] e pos => mAsg r b pos t e
  | .If t x y pos => match r.t b t, mSs st x, mSs st y with
    | some ⟨c, pc⟩, some ⟨a, pa⟩, some ⟨d, pd⟩ => some ⟨.ite c a d, fun {k X W P exv} g => (ps_if (pc g.g) (pa g) (pd g)).imp fun D σ H h => r_if h⟩
    | _, _, _ => none
  | .For tg iter body [] pos => if hs : noSet iter = true then (match r.g b tg, mIt r b tg iter, mSs st body with
    | some ⟨t, ht⟩, some ⟨it, hi⟩, some ⟨c, pc⟩ => some ⟨.for t it c, fun {k X W P exv} g => (ps_for g.pass g.g.calm (hi g.g) (sg_tg g.g.calm g.g.nd (ht g.g)) (pc g) fun x => noSet_of hs _ x).imp fun D σ H h => r_for h⟩
    | _, _, _ => none) else none
  | .While t body [] pos => match r.t b t, mSs st body with
    | some ⟨c, pc⟩, some ⟨a, pa⟩ => some ⟨.while c a, fun {k X W P exv} g => (ps_while g.pass (pc g.g) (pa g)).imp fun D σ H h => r_while h⟩
    | _, _ => none
  | .Raise (some (.Call (.Name x p1) [.Constant (.str m) j p2] [] pos)) none pos' => mRaise b x p1 m j p2 pos pos'
  | _ => none
end
def cmpS (cx : CX) (b : Bk) : Nat → (s : Stmt) → Option (RS cx b s)
  | 0, _ => none
  | n + 1, s => mS (cmp cx 64) b (cmpS cx b n) s
/-- a def's body -/
def body (cx : CX) (sc : Scope) (ss : List Stmt) : Option (RSs cx ⟨sc, cellsOf sc.names⟩ ss) := mSs (cmpS cx _ 64) ss
def bodyC (cx : CX) (sc : Scope) (ss : List Stmt) : Option CSs := (body cx sc ss).map (·.1)
end EV
end
section
set_option Elab.async false
set_option linter.all false
set_option maxRecDepth 100000
set_option maxHeartbeats 4000000
set_option autoImplicit false
/-! EvP: a def by its terms -/
namespace EV
open PySem L2
section
variable {K : PySem.W.Frag} {G G' : Gh} {S S' : Ste} {σ σ' : St} {H H' : Hp}
theorem Ok.leave (o : Ok K G S σ H) : Ok K G ⟨[], S.hp⟩ [] H ∧ ∀ b, MM G [] [] b → MM G S.rho σ b := by
  have less : ∀ b, MM G [] [] b → MM G S.rho σ b := fun b h => by
    rcases h with h | h | h
    · exact .inl h
    · exact (noOwn h).elim
    · exact .inr (.inr h)
  exact ⟨o.less (rho := []) (σ' := []) rfl rfl (fun i a w => (noOwn ⟨i, w⟩).elim) (fun i j a h1 h2 => (noOwn ⟨i, h1⟩).elim) less (fun _ h => h) (fun i x e => by simp at e) (fun i x e => by simp at e), less⟩
theorem enter_at {xs : List Vl} {n i : Nat} {y : Slot} (h : (xs.map Slot.v ++ List.replicate n .non)[i]? = some y) : (∃ x, xs[i]? = some x ∧ y = .v x) ∨ y = .non := by
  by_cases hi : i < xs.length
  · rw [List.getElem?_append_left (by simpa using hi), List.getElem?_map] at h
    cases e : xs[i]? with
    | none => rw [e] at h; cases h
    | some x => rw [e] at h; cases h; exact .inl ⟨x, rfl, rfl⟩
  · rw [List.getElem?_append_right (by simpa using Nat.le_of_not_lt hi), List.getElem?_replicate] at h
    split at h
    · cases h; exact .inr rfl
    · cases h
theorem VDs.len {io : List Addr} {M : Addr → Prop} {xs : List Vl} {vs : List V} (h : VDs K io M σ H xs vs) : xs.length = vs.length := by
  induction h with
  | nil => rfl
  | cons a r ih => simp [ih]
theorem VDs.get {io : List Addr} {M : Addr → Prop} {xs : List Vl} {vs : List V} (h : VDs K io M σ H xs vs) : ∀ {i : Nat} {x : Vl}, xs[i]? = some x → ∃ v, vs[i]? = some v ∧ VD K io M σ H x v := by
  induction h with
  | nil => intro i x e; simp at e
  | cons a r ih =>
    intro i x e
    cases i with
    | zero => simp at e; subst e; exact ⟨_, rfl, a⟩
    | succ i => exact ih (by simpa using e)
theorem noPk_at : ∀ {xs : List Vl} {i j : Nat}, noPk xs = true → xs[i]? ≠ some (.pk j)
  | [], _, _, _, e => by simp at e
  | x :: xs, 0, j, h, e => by
    simp at e
    subst e
    cases h
  | x :: xs, i + 1, j, h, e => by
    have h' : noPk xs = true := by
      cases x with
      | d _ => exact h
      | r _ => exact h
      | pk _ => cases h
    exact noPk_at h' (by simpa using e)
theorem Ok.enter {hp : List D} (o : Ok K G ⟨[], hp⟩ [] H) {xs : List Vl} {vs : List V} (h : VDs K G.io (MM G [] []) [] H xs vs) (np : noPk xs = true) (n : Nat) :
    Ok K G ⟨xs.map .v ++ List.replicate n .non, hp⟩ (vs.map some ++ List.replicate n none) H ∧ MM G (xs.map .v ++ List.replicate n .non) (vs.map some ++ List.replicate n none) = MM G [] [] := by
  have no : ∀ (i : Nat) (y : D), ¬ ((xs.map Slot.v ++ List.replicate n Slot.non)[i]? = some (Slot.own y) ∨ (xs.map Slot.v ++ List.replicate n Slot.non)[i]? = some (Slot.lck y)) := fun i y e => by
    rcases e with e | e <;> (rcases enter_at e with ⟨x, _, z⟩ | z <;> cases z)
  have nown : ∀ (i : Nat) (a : Addr), ¬ OwnAt (xs.map Slot.v ++ List.replicate n .non) (vs.map some ++ List.replicate n none) i a := fun i a ⟨⟨y, e⟩, _⟩ => no i y e
  have mm : MM G (xs.map .v ++ List.replicate n .non) (vs.map some ++ List.replicate n none) = MM G [] [] := by
    funext b
    apply propext
    constructor
    · rintro (z | ⟨i, z⟩ | z)
      · exact .inl z
      · exact (nown i b z).elim
      · exact .inr (.inr z)
    · rintro (z | z | z)
      · exact .inl z
      · exact (noOwn z).elim
      · exact .inr (.inr z)
  refine ⟨⟨by simp [h.len], fun i x e => ?_, fun i x e => (no i x e).elim, fun i j a h1 _ => (nown i a h1).elim, o.hlen, fun i x e => ?_, o.nd, fun a m => ⟨fun ⟨i, z⟩ => nown i a z, (o.s1 a m).2⟩, fun a ⟨i, z⟩ => (nown i a z).elim, o.tr⟩, mm⟩
  · rcases enter_at e with ⟨y, e1, e2⟩ | e2
    · cases e2
      obtain ⟨v, h1, h2⟩ := h.get e1
      refine ⟨v, ?_, ?_⟩
      · have hi : i < vs.length := (List.getElem?_eq_some_iff.mp h1).1
        rw [List.getElem?_append_left (by simpa using hi), List.getElem?_map, h1]
        rfl
      · show SD K G.io (MM G (xs.map .v ++ List.replicate n .non) (vs.map some ++ List.replicate n none)) H x v
        rw [mm]
        cases x with
        | d x => exact h2
        | r m => exact h2
        | pk j => exact (noPk_at np e1).elim
    · cases e2
  · show ∃ a, _ ∧ Cont K (MM G (xs.map .v ++ List.replicate n .non) (vs.map some ++ List.replicate n none)) H a x
    rw [mm]
    exact o.heap i x e
end
/-- an exception's class, as the written part has it -/
def ExF (K : PySem.W.Frag) (mg : Str → Option Value) (v : Value) (x : Str) : Prop := ∃ (B : String) (newId initId : String) (bmB : List Value) (C : Addr), v = .ref C ∧ ExcBaseFacts B newId initId bmB ∧ PySem.W.excIn K C bmB newId = true ∧ mg x = some (.ref C) ∧ PySem.W.keepIn K (.ref C) = true ∧
  PySem.W.subIn K (.ref C) (.type "BaseException") = some true ∧ PySem.W.typeIn K (.ref C) = some (.type "type")
structure Tab (P : Program) (w : World) (K : PySem.W.Frag) (mg : Str → Option Value) (base : Heap) (exv : Nat → Value) (consts : List D) (cx : CX) (k : Nat) (call : Nat → List Vl → List D → CRes) : Prop where
  bl : ∀ x ∈ cx.bl, mg x = none
  fs : ∀ p ∈ cx.fs, ∃ a fd ps, FnG P w K mg base (L2.CX P w) k a fd ps (spF K exv (call p.2)) ∧ mg p.1 = some (.ref a) ∧ PySem.W.keepIn K (.ref a) = true ∧ Binds K fd ps []
  gs : ∀ p ∈ cx.gs, ∃ u v d, mg p.1 = some u ∧ RelV v u ∧ consts[p.2]? = some d ∧ ∀ M H, Dn K M H true d v
  ex : ∀ p ∈ cx.ex, ExF K mg (exv p.2) p.1
  gd : ∀ p ∈ cx.gd, ∃ a, mg p.1 = some (.ref a) ∧ KDs K w a p.2
theorem callF_npk {fs : List FunI} {consts : List D} {k : Nat} (f : Nat) (xs : List Vl) (hp : List D) (h : noPk xs = false) : callF fs consts k f xs hp = .stuck := by
  cases k with
  | zero => rfl
  | succ k =>
    unfold callF
    cases fs[f]? with
    | none => rfl
    | some fi => simp [h]
theorem fn_ev {P : Program} {w : World} {K : PySem.W.Frag} {mg : Str → Option Value} {base : Heap} {exv : Nat → Value} {fs : List FunI} {consts : List D} {cx : CX} {k j : Nat} {f : Addr} {fd : FuncData} {x q : Str} {st : Stmt} {ps : List Str} {fi : FunI}
    (F : Fun K x q st f fd) (S : FnScope cx.N ps (defScope st)) (T : Tab P w K mg base exv consts cx k (callF fs consts k)) (hj : fs[j]? = some fi) (hn : fi.nslots = cx.N.length) (hp : fi.nparams = ps.length)
    (hb : bodyC cx (defScope st) (defBody st) = some fi.body) :
    FnG P w K mg base (L2.CX P w) (k + 1) f fd ps (spF K exv (callF fs consts (k + 1) j)) := by
  have hb0 : bodyC cx (defScope st) (defBody st) = some fi.body := hb
  unfold bodyC at hb
  cases eb : body cx (defScope st) (defBody st) with
  | none => rw [eb] at hb; cases hb
  | some z =>
    obtain ⟨lit, pz⟩ := z
    rw [eb] at hb
    have hlit : lit = fi.body := Option.some.inj hb
    have ev : ∀ xs hp, callF fs consts (k + 1) j xs hp = if xs.length = fi.nparams ∧ noPk xs = true then
        (match exs ⟨consts, callF fs consts k⟩ fi.body ⟨xs.map .v ++ List.replicate (fi.nslots - xs.length) .non, hp⟩ with
        | .nx s => .ok (.d .none) s.hp
        | .rt x s => .ok x s.hp
        | .er c s => .er c s.hp
        | _ => .stuck) else .stuck := fun xs hp => by
      rw [callF]
      rw [hj] <;> rfl
    refine FnG.mk' F S (fun vs H Q E h => ?_) fun cd A out s H vs Q E room gd pr => ?_
    · obtain ⟨G, xs, hp', o, r, m⟩ := h
      rw [ev] at m
      by_cases hc : xs.length = fi.nparams ∧ noPk xs = true
      · rw [← r.len, hc.1, hp]
      · rw [if_neg hc] at m
        exact m.elim
    · obtain ⟨G, xs, hp', o, r, m⟩ := pr
      rw [ev] at m
      by_cases hc : xs.length = fi.nparams ∧ noPk xs = true
      case neg => rw [if_neg hc] at m; exact m.elim
      rw [if_pos hc] at m
      have ln : xs.length = vs.length := r.len
      obtain ⟨o2, mm⟩ := o.enter r hc.2 (fi.nslots - xs.length)
      have good : Good cx k ⟨defScope st, cellsOf (defScope st).names⟩ (cxOf (L2.CX P w) P w K mg base cx.N q (defScope st) f cd A out s H E) (fun c _ H' => E (exv c) none H') ⟨consts, callF fs consts k⟩ exv :=
        { n := rfl, nd := S.nd, sc := rfl, fnl := fun _ _ => rfl, calm := rfl, hgd := gd, rm := room, bl := T.bl, fs := T.fs, gs := T.gs, gd := T.gd
          tk := Takes.imp (takes_of rfl rfl rfl rfl) fun c d σ H' h => by
            obtain ⟨i, rfl, rfl, h⟩ := h
            exact h
          npk := fun f xs hp h => callF_npk f xs hp h }
      have goodS : GoodS cx k ⟨defScope st, cellsOf (defScope st).names⟩ (cxOf (L2.CX P w) P w K mg base cx.N q (defScope st) f cd A out s H E) (fun c _ H' => E (exv c) none H') ⟨consts, callF fs consts k⟩ exv :=
        { g := good, pass := passes_of rfl
          ex := fun p hp hg hdb m j p1 p2 pos => by
            obtain ⟨B, newId, initId, bmB, C, e0, e1, e2, e3, e4, e5, e6⟩ := T.ex p hp
            rw [e0]
            exact pmk_own e1 e2 e3 e4 (raises_own e5 e6) hg hdb }
      refine ⟨_, pz goodS, G, ⟨xs.map .v ++ List.replicate (fi.nslots - xs.length) .non, hp'⟩, ?_, ?_⟩
      · show Ok K G _ (start cx.N vs) H
        unfold L2.start
        rw [← hn, ← ln]
        exact o2
      · have stp : ∀ {G' : Gh} {S' : Ste} {σ' : St} {H' : Hp}, Ok K G' S' σ' H' → Stp G ⟨xs.map .v ++ List.replicate (fi.nslots - xs.length) .non, hp'⟩ (start cx.N vs) H G' S' σ' H' → Stp G ⟨[], hp'⟩ [] H G' ⟨[], S'.hp⟩ [] H' := fun o' s => by
          refine ⟨s.io, s.A, fun a u ha hna => ?_, s.anon, fun i x e => by simp at e, s.tr⟩
          have hn' : ¬ MM G (xs.map Slot.v ++ List.replicate (fi.nslots - xs.length) .non) (start cx.N vs) a := by
            have e : L2.start cx.N vs = vs.map some ++ List.replicate (fi.nslots - xs.length) none := by
              unfold L2.start
              rw [← hn, ← ln]
            rw [e, mm]
            exact hna
          obtain ⟨h1, h2⟩ := s.mono a u ha hn'
          exact ⟨h1, fun z => h2 (o'.leave.2 a z)⟩
        rw [hlit]
        cases ex : exs ⟨consts, callF fs consts k⟩ fi.body ⟨xs.map .v ++ List.replicate (fi.nslots - xs.length) .non, hp'⟩ with
        | nx S' =>
          rw [ex] at m
          exact fun G' σ' H' o' s => m G' .non H' o'.leave.1 (stp o' s) .non
        | rt x S' =>
          rw [ex] at m
          refine fun G' σ' H' v o' s sd => m G' v H' o'.leave.1 (stp o' s) ?_
          cases x with
          | d x => exact Dn.anti o'.leave.2 _ _ _ sd
          | r n => exact sd
          | pk i => exact sd
        | bk S' => rw [ex] at m; exact m.elim
        | ct S' => rw [ex] at m; exact m.elim
        | er c S' =>
          rw [ex] at m
          exact fun G' σ' H' o' s => m G' H' o'.leave.1 (stp o' s)
        | stuck => rw [ex] at m; exact m.elim
end EV
end
section
set_option Elab.async false
set_option linter.all false
set_option maxRecDepth 100000
set_option maxHeartbeats 4000000
set_option autoImplicit false
/-! EvQ: all defs of a text together; a law's end -/
namespace EV
open PySem L2
def cs : List C → Cs
  | [] => .nil
  | a :: r => .cons a (cs r)
def ss : List CS → CSs
  | [] => .nil
  | a :: r => .cons a (ss r)
structure DRow where
  nm : Str
  a : Addr
  fd : FuncData
  ps : List Str
  cx : CX
  st : Stmt
  fi : FunI
structure DOk (K : PySem.W.Frag) (mg : Str → Option Value) (fs : List FunI) (names gs ex : List (Str × Nat)) (bl : List Str) (gd : List (Str × List (Str × Str))) (j : Nat) (r : DRow) : Prop where
  F : Fun K r.nm r.nm r.st r.a r.fd
  S : FnScope r.cx.N r.ps (defScope r.st)
  hm : mg r.nm = some (.ref r.a)
  bd : Binds K r.fd r.ps []
  fi : fs[j]? = some r.fi
  ns : r.fi.nslots = r.cx.N.length
  np : r.fi.nparams = r.ps.length
  bdy : bodyC r.cx (defScope r.st) (defBody r.st) = some r.fi.body
  c1 : r.cx.fs = names
  c2 : r.cx.gs = gs
  c3 : r.cx.ex = ex
  c4 : r.cx.bl = bl
  c5 : r.cx.gd = gd
theorem lev {P : Program} {w : World} {K : PySem.W.Frag} {mg : Str → Option Value} {base : Heap} {exv : Nat → Value} {fs : List FunI} {consts : List D} {names gs ex : List (Str × Nat)} {bl : List Str} {gd : List (Str × List (Str × Str))} {D : List DRow}
    (h : ∀ j r, D[j]? = some r → DOk K mg fs names gs ex bl gd j r) (hn : ∀ p ∈ names, ∃ r, D[p.2]? = some r ∧ r.nm = p.1) (hb : ∀ x ∈ bl, mg x = none)
    (hg : ∀ p ∈ gs, ∃ u v d, mg p.1 = some u ∧ RelV v u ∧ consts[p.2]? = some d ∧ ∀ M H, Dn K M H true d v) (he : ∀ p ∈ ex, ExF K mg (exv p.2) p.1) (hd : ∀ p ∈ gd, ∃ a, mg p.1 = some (.ref a) ∧ KDs K w a p.2) :
    ∀ (k j : Nat) (r : DRow), D[j]? = some r → FnG P w K mg base (L2.CX P w) k r.a r.fd r.ps (spF K exv (callF fs consts k j)) := by
  intro k
  induction k with
  | zero =>
    intro j r hr
    refine ⟨fun vs H Q E z => ?_, fun A out s H args us vs Q E _ _ _ _ _ z => ?_⟩
    · obtain ⟨G, xs, hp, _, _, m⟩ := z
      exact m.elim
    · obtain ⟨G, xs, hp, _, _, m⟩ := z
      exact m.elim
  | succ k ih =>
    intro j r hr
    have o := h j r hr
    refine fn_ev o.F o.S ⟨by rw [o.c4]; exact hb, fun p hp => ?_, by rw [o.c2]; exact hg, by rw [o.c3]; exact he, by rw [o.c5]; exact hd⟩ o.fi o.ns o.np o.bdy
    rw [o.c1] at hp
    obtain ⟨r', e1, e2⟩ := hn p hp
    have o' := h _ _ e1
    exact ⟨r'.a, r'.fd, r'.ps, ih _ _ e1, by rw [← e2]; exact o'.hm, o'.F.kp, o'.bd⟩
def SVals : List Str → List Value → Prop
  | [], [] => True
  | x :: xs, v :: vs => (∃ t, v = .str x t) ∧ SVals xs vs
  | _, _ => False
theorem SVals.vals : ∀ {xs : List Str} {vs : List Value}, SVals xs vs → Vals (xs.map V.str) vs
  | [], [], _ => .nil
  | _ :: _, _ :: _, ⟨⟨t, e⟩, r⟩ => .cons ⟨t, e⟩ (SVals.vals r)
  | [], _ :: _, h => h.elim
  | _ :: _, [], h => h.elim
/-- a written tuple of texts -/
theorem ktup_strs {K : PySem.W.Frag} {a : Addr} {d : Option Addr} {its : Array Value} {n : Nat} {sl : Array (Option Value)} {xs : List Str} (h : K.lookup a = some ⟨.type "tuple", d, .seq its n, sl⟩) (e : SVals xs its.toList) (z : its.size ≤ sizeLine) (M : Addr → Prop) (H : Hp) :
    Dn K M H true (.tuple (xs.map .str)) (.ref a) := by
  have all : ∀ xs : List Str, DnL K M H (xs.map PyData.str) (xs.map V.str) := fun xs => by
    induction xs with
    | nil => exact .nil
    | cons x r ih => exact .cons (.str x) ih
  exact .tupK ⟨_, its, n, h, rfl, rfl, z, e.vals⟩ (all xs)
/-- what a law has to show: the core terms tell True -/
theorem law_pr {K : PySem.W.Frag} {exv : Nat → Value} {f : List Vl → List D → CRes} {n : Nat} (h : ∀ ns : List Int, ns.length ≤ n → ∃ hp', f [.d (.list (ns.map .int))] [] = .ok (.d (.bool true)) hp')
    (H : Hp) (a : Addr) (ns : List Int) (hl : ns.length ≤ n) (hS : SqL K H a (ns.map V.int)) : spF K exv f [.ref a] H (fun v _ => v = .bl true) fun _ _ _ => False := by
  obtain ⟨hp', e⟩ := h ns hl
  refine ⟨⟨[], fun _ => False⟩, [.d (.list (ns.map .int))], [], ⟨rfl, fun i x e => by simp at e, fun i x e => by simp at e, fun i j a ⟨⟨x, h⟩, _⟩ => by simp at h, rfl, fun i x e => by simp at e, List.nodup_nil, fun a m => by simp at m, fun a w => (noOwn w).elim, fun a m => m.elim⟩, .cons ?_ .nil, ?_⟩
  · have allI : ∀ ns : List Int, DnL K (MM ⟨[], fun _ => False⟩ [] []) H (ns.map PyData.int) (ns.map V.int) := fun ns => by
      induction ns with
      | nil => exact .nil
      | cons i r ih => exact .cons (.int i) ih
    have nm : ¬ MM ⟨[], fun _ => False⟩ [] [] a := by
      rintro (z | z | z)
      · simp at z
      · exact noOwn z
      · exact z
    show Dn K _ H true _ _
    rcases hS with r | r
    · exact .lst r (fun _ => nm) (allI ns)
    · exact .lstK r (allI ns)
  · rw [e]
    intro G' v H' o st sd
    have sd : Dn K (MM G' [] []) H' true (.bool true) v := sd
    cases sd
    rfl
theorem no_exc {P : Program} {w : World} {H : Hp} {s : Shared} {e : Value} {s' : Shared} : L2.CX P w [] H s (fun _ _ _ => False) e s' → False := fun ⟨_, _, _, _, _, _, _, _, _, _, _, _, z⟩ => z
/-- the error classes, as the written part names them -/
def exK (K : PySem.W.Frag) (names : List Str) : Nat → Value := fun c => match names[c]? with
  | some x => (match PySem.W.nsIn K mainGlobals x with
    | some (some v) => v
    | _ => .none)
  | none => .none
theorem exK_at {K : PySem.W.Frag} {names : List Str} {c : Nat} {x : Str} {v : Value} (h : names[c]? = some x) (e : PySem.W.nsIn K mainGlobals x = some (some v)) : exK K names c = v := by
  unfold exK
  simp only [h, e]
theorem exF_mk {K : PySem.W.Frag} {mg : Str → Option Value} {x : Str} {v : Value} {C : Addr} (hv : v = .ref C) (hm : mg x = some (.ref C)) (hx : PySem.W.excIn K C [.type "ValueError", .type "Exception", .type "BaseException", .type "object"] "ValueError.__new__" = true)
    (hk : PySem.W.keepIn K (.ref C) = true) (hs : PySem.W.subIn K (.ref C) (.type "BaseException") = some true) (ht : PySem.W.typeIn K (.ref C) = some (.type "type")) : ExF K mg v x :=
  ⟨_, _, _, _, C, hv, PySem.F.excBase_ValueError, hx, hm, hk, hs, ht⟩
/-- a law's promise, with its text's own error classes -/
abbrev spX (K : PySem.W.Frag) (names : List Str) (f : List Vl → List D → CRes) : Sp := spF K (exK K names) f
end EV
end
section
set_option Elab.async false
set_option linter.all false
set_option maxRecDepth 100000
set_option maxHeartbeats 4000000
set_option autoImplicit false
/-! EvR: what the core terms of a law's draws come to -/
namespace EV
open PySem
/-! ### running -/
section
variable {P : Env} {S : Ste}
@[simp] theorem cs_nil : cs [] = .nil := rfl
@[simp] theorem cs_cons {a : C} {r : List C} : cs (a :: r) = .cons a (cs r) := rfl
@[simp] theorem ss_nil : ss [] = .nil := rfl
@[simp] theorem ss_cons {a : CS} {r : List CS} : ss (a :: r) = .cons a (ss r) := rfl
@[simp] theorem bind_ok {α β : Type} {a : α} {s : Ste} {f : α → Ste → Res β} : (Res.ok a s).bind f = f a s := rfl
@[simp] theorem bind_er {α β : Type} {c : Nat} {s : Ste} {f : α → Ste → Res β} : (Res.er c s : Res α).bind f = .er c s := rfl
@[simp] theorem out_ok {α : Type} {a : α} {s : Ste} {f : α → Ste → Out} : (Res.ok a s).out f = f a s := rfl
@[simp] theorem out_er {α : Type} {c : Nat} {s : Ste} {f : α → Ste → Out} : (Res.er c s : Res α).out f = .er c s := rfl
@[simp] theorem of_some {α : Type} {a : α} {s : Ste} : Res.of (some a) s = .ok a s := rfl
@[simp] theorem x_var {i : Nat} : ev P (.var i) S = match S.rho[i]? with
    | some (.v x) => .ok x S
    | some (.own x) => .ok (.d x) { S with rho := S.rho.set i (.v (.d x)) }
    | _ => .stuck := by rw [ev] <;> rfl
@[simp] theorem x_peek {i : Nat} : ev P (.peek i) S = match S.rho[i]? with
    | some .non => .stuck
    | none => .stuck
    | some _ => .ok (.pk i) S := by rw [ev] <;> rfl
@[simp] theorem x_kst {x : D} : ev P (.kst x) S = .ok (.d x) S := by rw [ev]
@[simp] theorem x_glob {j : Nat} : ev P (.glob j) S = match P.consts[j]? with
    | some x => .ok (.d x) S
    | none => .stuck := by rw [ev] <;> rfl
@[simp] theorem x_op {o : Op} {as : Cs} : ev P (.op o as) S = (evs P as S).bind fun xs s => Res.of (((s.ress xs).bind o.fn).map .d) s := by rw [ev]
@[simp] theorem x_chain {o1 o2 : Op} {a b c : C} : ev P (.chain o1 o2 a b c) S = (ev P a S).bind fun x s => (ev P b s).bind fun y s => match (s.ress [x, y]).bind o1.fn with
    | some (.bool true) => (ev P c s).bind fun z s => Res.of (((s.ress [y, z]).bind o2.fn).map .d) s
    | some (.bool false) => .ok (.d (.bool false)) s
    | _ => .stuck := chain_ev
@[simp] theorem x_tup {as : Cs} : ev P (.tup as) S = (evs P as S).bind fun xs s => Res.of ((dats xs).bind fun ds => if ds.length ≤ lim then some (.d (.tuple ds)) else none) s := by rw [ev]
@[simp] theorem x_lst {as : Cs} : ev P (.lst as) S = (evs P as S).bind fun xs s => Res.of ((dats xs).bind fun ds => if ds.length ≤ lim then some (.d (.list ds)) else none) s := by rw [ev]
@[simp] theorem x_dct {kvs : List (L2.Key × D)} : ev P (.dct kvs) S = .ok (.d (.dict (kvs.map fun p => (keyD p.1, p.2)))) S := by rw [ev]
@[simp] theorem x_nref {as : Cs} : ev P (.nref as) S = (evs P as S).bind fun xs s => match dats xs with
    | some ds => if ds.length ≤ lim then .ok (.r s.hp.length) { s with hp := s.hp ++ [.list ds] } else .stuck
    | none => .stuck := nref_ev
@[simp] theorem x_not {a : C} : ev P (.not a) S = (ev P a S).bind fun x s => match s.res x with
    | some (.bool b) => .ok (.d (.bool (!b))) s
    | _ => .stuck := by rw [ev] <;> rfl
@[simp] theorem x_and {a b : C} : ev P (.and a b) S = (ev P a S).bind fun x s => match s.res x with
    | some (.bool true) => ev P b s
    | some (.bool false) => .ok (.d (.bool false)) s
    | _ => .stuck := by rw [ev] <;> rfl
@[simp] theorem x_or {a b : C} : ev P (.or a b) S = (ev P a S).bind fun x s => match s.res x with
    | some (.bool true) => .ok (.d (.bool true)) s
    | some (.bool false) => ev P b s
    | _ => .stuck := by rw [ev] <;> rfl
@[simp] theorem x_iteC {t a b : C} : ev P (.ite t a b) S = (ev P t S).bind fun x s => match (s.res x).bind truth with
    | some true => ev P a s
    | some false => ev P b s
    | none => .stuck := by rw [ev] <;> rfl
@[simp] theorem x_call {f : Nat} {as : Cs} : ev P (.call f as) S = (evs P as S).bind fun xs s => match P.call f xs s.hp with
    | .ok x h => .ok x { s with hp := h }
    | .er c h => .er c { s with hp := h }
    | .stuck => .stuck := call_ev
@[simp] theorem x_mut {i : Nat} {m : Mu} {as : Cs} : ev P (.mut i m as) S = if cellOk m (S.cell i) then (evs P as S).bind fun xs s => match s.cell i, dats xs with
      | some (x, f), some ds => (match m.fn x ds with
        | some (y, x') => .ok (.d y) (f x')
        | none => .stuck)
      | _, _ => .stuck
    else .stuck := mut_ev
@[simp] theorem x_meth {o : Op} {a : C} {as : Cs} : ev P (.meth o a as) S = (ev P a S).bind fun x s => match s.res x with
    | some d => if mty o d then (evs P as s).bind fun xs s => Res.of (((s.ress (x :: xs)).bind o.fn).map .d) s else .stuck
    | none => .stuck := meth_ev
@[simp] theorem x_lc {vs : List Nat} {tg : Tg} {it : It} {cs : Cs} {e : C} : ev P (.lc vs tg it cs e) S = (evIt P it S).bind fun xs s1 => if frees vs s1.rho then
      match lcLoop (lcTurn P vs tg cs e) xs.1 [] { s1 with rho := wipeR s1.rho vs } with
      | .ok ys s2 => if ys.length ≤ lim then .ok (.d (.list ys)) { s2 with rho := unlock xs.2 (backR s1.rho s2.rho vs) } else .stuck
      | _ => .stuck
    else .stuck := lc_ev
@[simp] theorem x_share {a : C} : ev P (.share a) S = (ev P a S).bind fun x s => match x with
    | .d x => if isC x then .ok (.r s.hp.length) { s with hp := s.hp ++ [x] } else .stuck
    | _ => .stuck := share_ev
@[simp] theorem x_extF {i : Nat} {a : C} : ev P (.extF i a) S = if cellOk .ext (S.cell i) then (ev P a S).bind fun x s => match x, s.cell i with
      | .d (.list ys), some (.list xs, f) => if xs.length + ys.length < lim then .ok (.d .none) (f (.list (xs ++ ys))) else .stuck
      | _, _ => .stuck
    else .stuck := extF_ev
@[simp] theorem x_nil : evs P .nil S = .ok [] S := by rw [evs]
@[simp] theorem x_cons {a : C} {as : Cs} : evs P (.cons a as) S = (ev P a S).bind fun x s => (evs P as s).bind fun xs s => .ok (x :: xs) s := by rw [evs]
@[simp] theorem x_tnil : evTs P .nil S = .ok true S := evTs_nil
@[simp] theorem x_tone {c : C} : evTs P (.cons c .nil) S = evB P c S := by rw [evTs_one]
@[simp] theorem x_evB {c : C} : evB P c S = (ev P c S).bind fun x s => Res.of ((s.res x).bind truth) s := rfl
@[simp] theorem x_seq {a : C} : evIt P (.seq a) S = (ev P a S).bind fun x s => match x with
    | .d x => Res.of ((seqItems x).map fun xs => (xs, none)) s
    | _ => .stuck := it_seq
@[simp] theorem x_slot {i : Nat} : evIt P (.slot i) S = match S.rho[i]? with
    | some (.own (.list xs)) => .ok (xs, some i) { S with rho := S.rho.set i (.lck (.list xs)) }
    | some (.lck (.list xs)) => .ok (xs, none) S
    | some (.v (.d x)) => Res.of ((seqItems x).map fun xs => (xs, none)) S
    | _ => .stuck := by rw [evIt] <;> rfl
@[simp] theorem x_rng {as : Cs} : evIt P (.rng as) S = (evs P as S).bind fun xs s => Res.of (((s.ress xs).bind rngItems).map fun xs => (xs, none)) s := it_rng
@[simp] theorem x_enum {a : C} : evIt P (.enum a) S = (ev P a S).bind fun x s => match x with
    | .d (.list xs) => .ok (enumD 0 xs, none) s
    | _ => .stuck := it_enum
@[simp] theorem x_zip {as : Cs} : evIt P (.zip as) S = (evs P as S).bind fun xs s => Res.of (((dats xs).bind zipD).map fun xs => (xs, none)) s := it_zip
@[simp] theorem x_set {i : Nat} {e : C} : exS P (.set i e) S = (ev P e S).out fun x s => match x with
    | .d x => if Slot.open s.rho[i]? then .nx { s with rho := s.rho.set i (.v (.d x)) } else .stuck
    | .r n => if Slot.open s.rho[i]? then .nx { s with rho := s.rho.set i (.v (.r n)) } else .stuck
    | .pk _ => .stuck := set_ev
@[simp] theorem x_setO {i : Nat} {e : C} : exS P (.setO i e) S = (ev P e S).out fun x s => match x with
    | .d x => if isC x && Slot.open s.rho[i]? then .nx { s with rho := s.rho.set i (.own x) } else .stuck
    | _ => .stuck := setO_ev
@[simp] theorem x_setT {ts : List Tg} {e : C} : exS P (.setT ts e) S = (ev P e S).out fun x s => match x with
    | .d x => (match bindT (.tp ts) x s.rho with
      | some rho => .nx { s with rho := rho }
      | none => .stuck)
    | _ => .stuck := setT_ev
@[simp] theorem x_put {i : Nat} {k v : C} : exS P (.put i k v) S = (ev P v S).out fun y s => match y with
    | .d y => if (s.cell i).isSome then (ev P k s).out fun x s => (match x with
      | .d x => (match s.cell i with
        | some (o, f) => (match putD o x y with
          | some o' => .nx (f o')
          | none => .stuck)
        | none => .stuck)
      | _ => .stuck) else .stuck
    | _ => .stuck := put_ev
@[simp] theorem x_expr {e : C} : exS P (.expr e) S = (ev P e S).out fun _ s => .nx s := expr_ev
@[simp] theorem x_ret {e : C} : exS P (.ret e) S = (ev P e S).out fun x s => match x with
    | .d x => .rt (.d x) s
    | .r n => .rt (.r n) s
    | .pk _ => .stuck := ret_ev
@[simp] theorem x_retN : exS P .retN S = .rt (.d .none) S := by rw [exS]
@[simp] theorem x_pass : exS P .pass S = .nx S := by rw [exS]
@[simp] theorem x_brk : exS P .brk S = .bk S := by rw [exS]
@[simp] theorem x_cnt : exS P .cnt S = .ct S := by rw [exS]
@[simp] theorem x_raise {c : Nat} : exS P (.raise c) S = .er c S := by rw [exS]
@[simp] theorem x_ite {t : C} {a b : CSs} : exS P (.ite t a b) S = (evB P t S).out fun c s => if c then exs P a s else exs P b s := ite_ev
@[simp] theorem x_for {tg : Tg} {it : It} {b : CSs} : exS P (.for tg it b) S = (evIt P it S).out fun xs s => (forLoop (forTurn P tg b) xs.1 s).after xs.2 := for_ev
@[simp] theorem x_while {t : C} {b : CSs} : exS P (.while t b) S = whileLoop (evB P t) (exs P b) wfuel S := while_ev
@[simp] theorem x_snil : exs P .nil S = .nx S := by rw [exs]
@[simp] theorem x_scons {c : CS} {r : CSs} : exs P (.cons c r) S = match exS P c S with
    | .nx s => exs P r s
    | o => o := by rw [exs] <;> rfl
@[simp] theorem after_nx {s : Ste} : Out.after none (.nx s) = .nx s := rfl
@[simp] theorem after_nx1 {i : Nat} {s : Ste} : Out.after (some i) (.nx s) = .nx { s with rho := unlock (some i) s.rho } := rfl
@[simp] theorem after_rt {lk : Option Nat} {x : Vl} {s : Ste} : Out.after lk (.rt x s) = .rt x s := rfl
@[simp] theorem after_er {lk : Option Nat} {c : Nat} {s : Ste} : Out.after lk (.er c s) = .er c s := rfl
@[simp] theorem unlock_none {rho : List Slot} : unlock none rho = rho := rfl
@[simp] theorem ress_nil : S.ress [] = some [] := rfl
@[simp] theorem ress_cons {x : Vl} {r : List Vl} : S.ress (x :: r) = match S.res x, S.ress r with
    | some d, some ds => some (d :: ds)
    | _, _ => none := rfl
@[simp] theorem res_d {x : D} : S.res (.d x) = some x := rfl
@[simp] theorem res_r {n : Nat} : S.res (.r n) = S.hp[n]? := rfl
@[simp] theorem res_pk {i : Nat} : S.res (.pk i) = match S.rho[i]? with
    | some (.v (.d x)) => some x
    | some (.v (.r n)) => S.hp[n]?
    | some (.own x) => some x
    | some (.lck x) => some x
    | _ => none := rfl
@[simp] theorem dats_nil : dats [] = some [] := rfl
@[simp] theorem dats_cons {x : D} {r : List Vl} : dats (.d x :: r) = (dats r).map (x :: ·) := rfl
@[simp] theorem op1 {v : Vl} : Slot.open (some (.v v)) = true := rfl
@[simp] theorem op2 : Slot.open (some .non) = true := rfl
@[simp] theorem op3 {x : D} : Slot.open (some (.own x)) = true := rfl
@[simp] theorem tr_b {b : Bool} : truth (.bool b) = some b := rfl
@[simp] theorem tr_i {i : Int} : truth (.int i) = some (i != 0) := rfl
@[simp] theorem tr_n : truth .none = some false := rfl
@[simp] theorem tr_l {xs : List D} : truth (.list xs) = some (!xs.isEmpty) := rfl
@[simp] theorem tr_t {xs : List D} : truth (.tuple xs) = some (!xs.isEmpty) := rfl
@[simp] theorem isC_l {xs : List D} : isC (.list xs) = true := rfl
@[simp] theorem isC_d {xs : List (D × D)} : isC (.dict xs) = true := rfl
@[simp] theorem seq_l {xs : List D} : seqItems (.list xs) = some xs := rfl
@[simp] theorem seq_t {xs : List D} : seqItems (.tuple xs) = some xs := rfl
@[simp] theorem seq_s {z : Str} : seqItems (.str z) = some (z.cps.toList.map fun c => .str ⟨#[c]⟩) := rfl
@[simp] theorem fn_add : Op.fn .add = fAdd := rfl
@[simp] theorem fn_sub : Op.fn .sub = fSub := rfl
@[simp] theorem fn_mul : Op.fn .mul = fMul := rfl
@[simp] theorem fn_fdiv : Op.fn .fdiv = fDiv := rfl
@[simp] theorem fn_mod : Op.fn .mod = fMod := rfl
@[simp] theorem fn_pow : Op.fn .pow = fPow := rfl
@[simp] theorem fn_neg : Op.fn .neg = fNeg := rfl
@[simp] theorem fn_eq : Op.fn .eq = fEq := rfl
@[simp] theorem fn_ne : Op.fn .ne = fNe := rfl
@[simp] theorem fn_lt : Op.fn .lt = fLt := rfl
@[simp] theorem fn_le : Op.fn .le = fLe := rfl
@[simp] theorem fn_gt : Op.fn .gt = fGt := rfl
@[simp] theorem fn_ge : Op.fn .ge = fGe := rfl
@[simp] theorem fn_is : Op.fn .is_ = fIs := rfl
@[simp] theorem fn_isnt : Op.fn .isnt = fIsnt := rfl
@[simp] theorem fn_in : Op.fn .in_ = fIn := rfl
@[simp] theorem fn_notin : Op.fn .notin = fNotin := rfl
@[simp] theorem fn_idx : Op.fn .idx = fIdx := rfl
@[simp] theorem fn_slice : Op.fn .slice = fSlice := rfl
@[simp] theorem fn_len : Op.fn .len = fLen := rfl
@[simp] theorem fn_isinst {t : Ty} : Op.fn (.isinst t) = fIsinst t := rfl
@[simp] theorem fn_isLT : Op.fn .isLT = fIsLT := rfl
@[simp] theorem fn_all : Op.fn .all = fAll := rfl
@[simp] theorem fn_any : Op.fn .any = fAny := rfl
@[simp] theorem fn_abs : Op.fn .abs = fAbs := rfl
@[simp] theorem fn_max2 : Op.fn .max2 = fMax2 := rfl
@[simp] theorem fn_min2 : Op.fn .min2 = fMin2 := rfl
@[simp] theorem fn_repr : Op.fn .repr = fRepr := rfl
@[simp] theorem fn_strip : Op.fn .strip = fStrip := rfl
@[simp] theorem fn_ofList : Op.fn .ofList = fOfList := rfl
@[simp] theorem fn_int1 : Op.fn .int1 = fInt := rfl
@[simp] theorem fn_ofTuple : Op.fn .ofTuple = fOfTuple := rfl
@[simp] theorem fn_setlen : Op.fn .setlen = fSetlen := rfl
@[simp] theorem fn_sorted : Op.fn .sorted = fSorted := rfl
@[simp] theorem fn_rev : Op.fn .rev = fRev := rfl
@[simp] theorem fn_dIn {kvs : List (Str × Str)} {no : Bool} : Op.fn (.dIn kvs no) = fDin kvs no := rfl
@[simp] theorem fn_dAt {kvs : List (Str × Str)} : Op.fn (.dAt kvs) = fDat kvs := rfl
@[simp] theorem fn_join : Op.fn .join = fJoin := rfl
@[simp] theorem fn_split : Op.fn .split = fSplit := rfl
@[simp] theorem fn_str1 : Op.fn .str1 = fStr1 := rfl
@[simp] theorem fn_toi : Op.fn .toi = fToi := rfl
@[simp] theorem d_zip {x y : D} : zipD [x, y] = match seqItems x, seqItems y with
  | some xs, some ys => some (List.zipWith (fun a b => .tuple [a, b]) xs ys)
  | _, _ => none := rfl
@[simp] theorem d_add {i j : Int} : fAdd [.int i, .int j] = some (.int (i + j)) := rfl
@[simp] theorem d_sub {i j : Int} : fSub [.int i, .int j] = some (.int (i - j)) := rfl
@[simp] theorem d_mod {i j : Int} : fMod [.int i, .int j] = if 0 < j then some (.int (i % j)) else none := rfl
@[simp] theorem d_div {i j : Int} : fDiv [.int i, .int j] = if 0 < j ∧ j < 1073741824 then some (.int (i / j)) else none := rfl
@[simp] theorem d_neg {i : Int} : fNeg [.int i] = some (.int (-i)) := rfl
@[simp] theorem d_lt {i j : Int} : fLt [.int i, .int j] = some (.bool (decide (i < j))) := rfl
@[simp] theorem d_le {i j : Int} : fLe [.int i, .int j] = some (.bool (decide (i ≤ j))) := rfl
@[simp] theorem d_gt {i j : Int} : fGt [.int i, .int j] = some (.bool (decide (j < i))) := rfl
@[simp] theorem d_ge {i j : Int} : fGe [.int i, .int j] = some (.bool (decide (j ≤ i))) := rfl
@[simp] theorem d_abs {i : Int} : fAbs [.int i] = some (.int (if i < 0 then -i else i)) := rfl
@[simp] theorem d_max2 {i j : Int} : fMax2 [.int i, .int j] = some (.int (if j > i then j else i)) := rfl
@[simp] theorem d_min2 {i j : Int} : fMin2 [.int i, .int j] = some (.int (if j < i then j else i)) := rfl
@[simp] theorem d_isinst {t : Ty} {x : D} : fIsinst t [x] = some (.bool (isTy t x)) := rfl
@[simp] theorem d_isLT {x : D} : fIsLT [x] = some (.bool (isTy .list x || isTy .tuple x)) := rfl
@[simp] theorem d_lenl {xs : List D} : fLen [.list xs] = some (.int xs.length) := rfl
@[simp] theorem d_lent {xs : List D} : fLen [.tuple xs] = some (.int xs.length) := rfl
@[simp] theorem d_idxl {xs : List D} {i : Int} : fIdx [.list xs, .int i] = nth xs i := rfl
@[simp] theorem d_idxt {xs : List D} {i : Int} : fIdx [.tuple xs, .int i] = nth xs i := rfl
@[simp] theorem d_toi {i : Int} : fToi [.int i] = some (.int i) := rfl
@[simp] theorem d_ofl {xs : List D} : fOfList [.list xs] = some (.list xs) := rfl
@[simp] theorem d_oft {xs : List D} : fOfList [.tuple xs] = some (.list xs) := rfl
@[simp] theorem fr_nil {rho : List Slot} : frees [] rho = true := rfl
@[simp] theorem fr_cons {i : Nat} {r : List Nat} {rho : List Slot} : frees (i :: r) rho = ((match rho[i]? with | some (.own _) => false | some (.lck _) => false | _ => true) && frees r rho) := rfl
@[simp] theorem wi_nil {rho : List Slot} : wipeR rho [] = rho := rfl
@[simp] theorem wi_cons {v : Nat} {vs : List Nat} {rho : List Slot} : wipeR rho (v :: vs) = (wipeR rho vs).set v .non := rfl
@[simp] theorem ba_nil {rho0 rho : List Slot} : backR rho0 rho [] = rho := rfl
@[simp] theorem ba_cons {v : Nat} {vs : List Nat} {rho0 rho : List Slot} : backR rho0 rho (v :: vs) = match rho0[v]? with
  | some x => (backR rho0 rho vs).set v x
  | none => backR rho0 rho vs := rfl
@[simp] theorem bi_nm {i : Nat} {x : D} {rho : List Slot} : bindT (.nm i) x rho = if i < rho.length then (match rho[i]? with | some (.lck _) => none | _ => some (rho.set i (.v (.d x)))) else none := by rw [bindT] <;> rfl
@[simp] theorem bi_tp {ts : List Tg} {xs : List D} {rho : List Slot} : bindT (.tp ts) (.tuple xs) rho = bindTs ts xs rho := by rw [bindT]
@[simp] theorem bi_tl {ts : List Tg} {xs : List D} {rho : List Slot} : bindT (.tp ts) (.list xs) rho = bindTs ts xs rho := by rw [bindT]
@[simp] theorem bis_nil {rho : List Slot} : bindTs [] [] rho = some rho := by rw [bindTs]
@[simp] theorem bis_cons {t : Tg} {ts : List Tg} {x : D} {xs : List D} {rho : List Slot} : bindTs (t :: ts) (x :: xs) rho = (bindT t x rho).bind (bindTs ts xs) := by rw [bindTs]
end
def bScoop : CSs := (ss [
  (.ite (.op .gt (cs [(.op .idx (cs [(.peek 0), (.kst (.int 0))])), (.kst (.int 0))])) (ss [
    (.set 2 (.op .mod (cs [(.op .idx (cs [(.peek 0), (.kst (.int 0))])), (.peek 1)]))),
    (.put 0 (.kst (.int 0)) (.op .fdiv (cs [(.op .idx (cs [(.peek 0), (.kst (.int 0))])), (.peek 1)]))),
    (.ret (.var 2))]) (ss [])),
  (.put 0 (.kst (.int 2)) (.op .add (cs [(.op .idx (cs [(.peek 0), (.kst (.int 2))])), (.kst (.int 1))]))),
  (.set 3 (.op .mod (cs [(.op .pow (cs [(.op .add (cs [(.op .idx (cs [(.peek 0), (.kst (.int 1))])), (.op .mul (cs [(.kst (.int 15485863)), (.op .idx (cs [(.peek 0), (.kst (.int 2))]))]))])), (.kst (.int 3))])), (.kst (.int 618970019642690137449562111))]))),
  (.set 3 (.op .mod (cs [(.op .pow (cs [(.op .add (cs [(.peek 3), (.op .mul (cs [(.kst (.int 257)), (.op .pow (cs [(.op .idx (cs [(.peek 0), (.kst (.int 2))])), (.kst (.int 2))]))]))])), (.kst (.int 3))])), (.kst (.int 162259276829213363391578010288127))]))),
  (.ret (.op .mod (cs [(.op .fdiv (cs [(.peek 3), (.kst (.int 65537))])), (.peek 1)])))])
theorem bits_le {x : Int} {n : Nat} (h : x.natAbs < 2 ^ n) : Builtin.Int.intBits x ≤ n := PySem.intBits_le_iff.mpr h
theorem big_ok {n : Nat} (h : n < 2 ^ 300) : n < bigB := Nat.lt_of_lt_of_le h (Nat.pow_le_pow_right (by decide) (by decide))
def pot (f b c : Int) : D := .list [.int f, .int b, .int c]
theorem pow_ok {x : Int} {n : Nat} (j : Nat) (h : x.natAbs < 2 ^ n) (hj : n * j ≤ 2 ^ 27) : fPow [.int x, .int (j : Nat)] = some (.int (x ^ j)) := by
  have h1 := bits_le h
  have h2 : (Builtin.Int.intBits x : Int) * (j : Nat) ≤ 2 ^ 27 := by
    have h3 : Builtin.Int.intBits x * j ≤ 2 ^ 27 := Nat.le_trans (Nat.mul_le_mul_right j h1) hj
    exact_mod_cast h3
  unfold fPow
  simp only [Int.natCast_nonneg, true_and, h2, if_true, Int.toNat_natCast]
theorem scoop_hi {P : Env} {p : Nat} {hp : List D} {f b c m : Int} (h : hp[p]? = some (pot f b c)) (hf : 0 < f) (hm : 0 < m) (hm2 : m < 2 ^ 30) :
    exs P bScoop ⟨[.v (.r p), .v (.d (.int m)), .non, .non], hp⟩ = .rt (.d (.int (f % m))) ⟨[.v (.r p), .v (.d (.int m)), .v (.d (.int (f % m))), .non], hp.set p (pot (f / m) b c)⟩ := by
  have hl : p < hp.length := (List.getElem?_eq_some_iff.mp h).1
  have h30 : m < 1073741824 := hm2
  simp [bScoop, nth, L2.atI, h, pot, truth, hf, hm, h30, Slot.open, Ste.cell, putD, L2.ixN, HT.sIx]
theorem pow3_ok {x : Int} (h : x.natAbs < 2 ^ 250) : fPow [.int x, .int 3] = some (.int (x ^ 3)) := pow_ok 3 h (by decide)
theorem pow2_ok {x : Int} (h : x.natAbs < 2 ^ 250) : fPow [.int x, .int 2] = some (.int (x ^ 2)) := pow_ok 2 h (by decide)
theorem mul_ok {x y : Int} (h : x.natAbs < 2 ^ 250) (h2 : y.natAbs < 2 ^ 250) : fMul [.int x, .int y] = some (.int (x * y)) := by
  have e : (2 : Nat) ^ 250 ≤ 2 ^ 300 := Nat.pow_le_pow_right (by decide) (by decide)
  unfold fMul
  exact if_pos ⟨big_ok (Nat.lt_of_lt_of_le h e), big_ok (Nat.lt_of_lt_of_le h2 e)⟩
def lo1 (b c : Int) : Int := (b + 15485863 * c) ^ 3 % 618970019642690137449562111
def lo2 (b c : Int) : Int := (lo1 b c + 257 * c ^ 2) ^ 3 % 162259276829213363391578010288127
theorem scoop_lo {P : Env} {p : Nat} {hp : List D} {f b c m : Int} (h : hp[p]? = some (pot f b c)) (hf : ¬ 0 < f) (hm : 0 < m) (hb : 0 ≤ b ∧ b < 2 ^ 200) (hc : 0 ≤ c ∧ c < 2 ^ 60) :
    exs P bScoop ⟨[.v (.r p), .v (.d (.int m)), .non, .non], hp⟩ = .rt (.d (.int (lo2 b (c + 1) / 65537 % m))) ⟨[.v (.r p), .v (.d (.int m)), .non, .v (.d (.int (lo2 b (c + 1))))], hp.set p (pot f b (c + 1))⟩ := by
  have hl : p < hp.length := (List.getElem?_eq_some_iff.mp h).1
  have self : ∀ x : D, (hp.set p x)[p]? = some x := fun x => List.getElem?_set_self hl
  have e1 : fMul [.int 15485863, .int (c + 1)] = some (.int (15485863 * (c + 1))) := mul_ok (by omega) (by omega)
  have e2 : fPow [.int (b + 15485863 * (c + 1)), .int 3] = some (.int ((b + 15485863 * (c + 1)) ^ 3)) := pow3_ok (by omega)
  have e3 : fPow [.int (c + 1), .int 2] = some (.int ((c + 1) ^ 2)) := pow2_ok (by omega)
  have q : (c + 1) ^ 2 ≤ 2 ^ 60 * 2 ^ 60 ∧ 0 ≤ (c + 1) ^ 2 := by
    rw [Int.pow_succ, Int.pow_succ, Int.pow_zero, Int.one_mul]
    exact ⟨Int.mul_le_mul (by omega) (by omega) (by omega) (by decide), Int.mul_nonneg (by omega) (by omega)⟩
  have e4 : fMul [.int 257, .int ((c + 1) ^ 2)] = some (.int (257 * (c + 1) ^ 2)) := mul_ok (by decide) (by omega)
  have r1 : 0 ≤ lo1 b (c + 1) ∧ lo1 b (c + 1) < 618970019642690137449562111 := ⟨Int.emod_nonneg _ (by decide), Int.emod_lt_of_pos _ (by decide)⟩
  have e5 : fPow [.int (lo1 b (c + 1) + 257 * (c + 1) ^ 2), .int 3] = some (.int ((lo1 b (c + 1) + 257 * (c + 1) ^ 2) ^ 3)) := pow3_ok (by omega)
  unfold lo1 at e5
  simp [bScoop, nth, L2.atI, h, pot, truth, hf, hm, Slot.open, Ste.cell, putD, L2.ixN, self, e1, e2, e3, e4, e5, lo1, lo2]
def PotOk (n : Nat) (d : D) : Prop := ∃ f b c : Int, d = pot f b c ∧ 0 ≤ f ∧ (0 ≤ b ∧ b < 2 ^ 200) ∧ 0 ≤ c ∧ c ≤ n
theorem PotOk.mono {m n : Nat} {d : D} (h : m ≤ n) (o : PotOk m d) : PotOk n d := by
  obtain ⟨f, b, c, e, h1, h2, h3, h4⟩ := o
  exact ⟨f, b, c, e, h1, h2, h3, by omega⟩
theorem scoop_call {fs : List FunI} {consts : List D} {k j p n : Nat} {hp : List D} {d : D} {m : Int} (hj : fs[j]? = some ⟨4, 2, bScoop⟩) (h : hp[p]? = some d) (ho : PotOk n d) (hn : n < 2 ^ 59) (hm : 0 < m) (hm2 : m < 2 ^ 30) :
    ∃ (r : Int) (d' : D), 0 ≤ r ∧ r < m ∧ PotOk (n + 1) d' ∧ callF fs consts (k + 1) j [.r p, .d (.int m)] hp = .ok (.d (.int r)) (hp.set p d') := by
  obtain ⟨f, b, c, rfl, h1, h2, h3, h4⟩ := ho
  by_cases hf : 0 < f
  · refine ⟨f % m, pot (f / m) b c, Int.emod_nonneg _ (by omega), Int.emod_lt_of_pos _ hm, ⟨_, _, _, rfl, Int.ediv_nonneg h1 (by omega), h2, h3, by omega⟩, ?_⟩
    unfold callF
    rw [hj]
    simp [noPk, scoop_hi h hf hm hm2]
  · refine ⟨lo2 b (c + 1) / 65537 % m, pot f b (c + 1), Int.emod_nonneg _ (by omega), Int.emod_lt_of_pos _ hm, ⟨_, _, _, rfl, h1, h2, by omega, by omega⟩, ?_⟩
    unfold callF
    rw [hj]
    simp [noPk, scoop_lo h hf hm h2 ⟨h3, by omega⟩]
end EV
end
section
set_option Elab.async false
set_option linter.all false
set_option maxRecDepth 100000
set_option maxHeartbeats 4000000
set_option autoImplicit false
/-! EvS: the pot of figures; loops -/
namespace EV
open PySem
def potBody : CSs := (ss [
    (.set 1 (.op .add (cs [(.op .mul (cs [(.peek 1), (.op .pow (cs [(.op .pow (cs [(.kst (.int 10)), (.kst (.int 40))])), (.kst (.int 10))]))])), (.op .mod (cs [(.op .max2 (cs [(.kst (.int 0)), (.op .sub (cs [(.op .abs (cs [(.peek 3)])), (.op .pow (cs [(.kst (.int 10)), (.kst (.int 18))]))]))])), (.op .pow (cs [(.op .pow (cs [(.kst (.int 10)), (.kst (.int 40))])), (.kst (.int 10))]))]))]))),
    (.set 2 (.op .mod (cs [(.op .add (cs [(.op .add (cs [(.op .mul (cs [(.peek 2), (.kst (.int 48271))])), (.peek 3)])), (.kst (.int 131))])), (.kst (.int 170141183460469231731687303715884105727))])))])
def bPotA : CSs := (ss [
  (.set 1 (.kst (.int 0))),
  (.set 2 (.kst (.int 161803))),
  (.for (.nm 3) (.seq (.op .slice (cs [(.peek 0), (.kst .none), (.op .toi (cs [(.kst (.int 50))]))]))) potBody),
  (.ret (.nref (cs [(.var 1), (.var 2), (.kst (.int 0))])))])
def en : Nat := (10 ^ 40) ^ 10
def e400 : Int := (en : Nat)
theorem en_le : en ≤ 2 ^ 1400 := by
  have h : (10 ^ 40 : Nat) ≤ 2 ^ 140 := by decide
  have h2 := Nat.pow_le_pow_left h 10
  rw [← Nat.pow_mul] at h2
  exact h2
theorem en_pos : 0 < en := Nat.pow_pos (Nat.pow_pos (by decide))
theorem e400_pos : 0 < e400 := by
  unfold e400
  exact_mod_cast en_pos
def F4 (n : Nat) : Int := ((en ^ n : Nat) : Int)
theorem F4_succ (n : Nat) : F4 (n + 1) = F4 n * e400 := by
  unfold F4 e400
  rw [Nat.pow_succ]
  push_cast
  rfl
theorem F4_big {n : Nat} (hn : n ≤ 50) {f : Int} (h0 : 0 ≤ f) (h : f < F4 n) : f.natAbs < bigB := by
  have h1 : en ^ n ≤ 2 ^ (1400 * n) := by
    rw [Nat.pow_mul]
    exact Nat.pow_le_pow_left en_le n
  have h2 : (2 : Nat) ^ (1400 * n) ≤ 2 ^ 400000 := Nat.pow_le_pow_right (by decide) (by omega)
  have h3 : f.natAbs < en ^ n := by
    unfold F4 at h
    omega
  exact Nat.lt_of_lt_of_le h3 (Nat.le_trans h1 h2)
theorem e400_big : e400.natAbs < bigB := by
  have h1 : en < 2 ^ 1401 := Nat.lt_of_le_of_lt en_le (Nat.pow_lt_pow_right (by decide) (by decide))
  have h2 : (2 : Nat) ^ 1401 ≤ 2 ^ 400000 := Nat.pow_le_pow_right (by decide) (by decide)
  exact Nat.lt_of_lt_of_le h1 h2
theorem p10_40 : fPow [.int 10, .int 40] = some (.int 10000000000000000000000000000000000000000) := by
  rw [show fPow [.int 10, .int 40] = some (.int ((10 : Int) ^ 40)) from pow_ok (n := 4) 40 (by decide) (by decide)]
  rfl
theorem p10_400 : fPow [.int 10000000000000000000000000000000000000000, .int 10] = some (.int e400) := by
  rw [show fPow [.int 10000000000000000000000000000000000000000, .int 10] = some (.int ((10000000000000000000000000000000000000000 : Int) ^ 10)) from pow_ok (n := 140) 10 (by decide) (by decide)]
  have e : (10000000000000000000000000000000000000000 : Int) ^ 10 = e400 := by
    unfold e400 en
    decide +kernel
  rw [e]
theorem p10_18 : fPow [.int 10, .int 18] = some (.int 1000000000000000000) := by
  rw [show fPow [.int 10, .int 18] = some (.int ((10 : Int) ^ 18)) from pow_ok (n := 4) 18 (by decide) (by decide)]
  rfl
theorem d_mul {i j : Int} (h : i.natAbs < bigB) (h2 : j.natAbs < bigB) : fMul [.int i, .int j] = some (.int (i * j)) := by
  unfold fMul
  exact if_pos ⟨h, h2⟩
theorem d_slice0 {xs : List D} {l h : Option Int} {lo hi : D} (e1 : part? lo = some l) (e2 : part? hi = some h) : fSlice [.list xs, lo, hi] = some (.list (cut xs l h)) := by
  unfold fSlice
  simp only [e1, e2]
theorem pot_turn {P : Env} {hp : List D} {a : Vl} {f b c : Int} {s3 : Slot} (h3 : s3 = .non ∨ ∃ x, s3 = .v x) {n : Nat} (hn : n < 50) (h0 : 0 ≤ f) (h1 : f < F4 n) (hb : 0 ≤ b ∧ b < 2 ^ 130) :
    ∃ f' b' : Int, 0 ≤ f' ∧ f' < F4 (n + 1) ∧ (0 ≤ b' ∧ b' < 2 ^ 130) ∧ forTurn P (.nm 3) potBody (.int c) ⟨[.v a, .v (.d (.int f)), .v (.d (.int b)), s3], hp⟩ = .nx ⟨[.v a, .v (.d (.int f')), .v (.d (.int b')), .v (.d (.int c))], hp⟩ := by
  have e1 : fMul [.int f, .int e400] = some (.int (f * e400)) := d_mul (F4_big (Nat.le_of_lt hn) h0 h1) e400_big
  have e2 : fMul [.int b, .int 48271] = some (.int (b * 48271)) := mul_ok (by omega) (by decide)
  have hE := e400_pos
  have q : ∀ x : Int, 0 ≤ x % e400 ∧ x % e400 < e400 := fun x => ⟨Int.emod_nonneg _ (by omega), Int.emod_lt_of_pos _ hE⟩
  have h5 : f * e400 ≤ (F4 n - 1) * e400 := Int.mul_le_mul_of_nonneg_right (by omega) (by omega)
  have h6 : (F4 n - 1) * e400 = F4 n * e400 - e400 := by rw [Int.sub_mul, Int.one_mul]
  have h7 : 0 ≤ f * e400 := Int.mul_nonneg h0 (by omega)
  refine ⟨f * e400 + (if (if c < 0 then -c else c) - 1000000000000000000 > 0 then (if c < 0 then -c else c) - 1000000000000000000 else 0) % e400, (b * 48271 + c + 131) % 170141183460469231731687303715884105727, ?_, ?_, ⟨Int.emod_nonneg _ (by decide), ?_⟩, ?_⟩
  · have := (q (if (if c < 0 then -c else c) - 1000000000000000000 > 0 then (if c < 0 then -c else c) - 1000000000000000000 else 0)).1
    omega
  · have := (q (if (if c < 0 then -c else c) - 1000000000000000000 > 0 then (if c < 0 then -c else c) - 1000000000000000000 else 0)).2
    rw [F4_succ]
    omega
  · have := Int.emod_lt_of_pos (b * 48271 + c + 131) (show (0 : Int) < 170141183460469231731687303715884105727 by decide)
    omega
  · rcases h3 with rfl | ⟨x, rfl⟩
    · simp [forTurn, potBody, p10_40, p10_400, p10_18, e1, e2, hE]
    · simp [forTurn, potBody, p10_40, p10_400, p10_18, e1, e2, hE]
theorem pot_loop {P : Env} {hp : List D} {a : Vl} : ∀ (cells : List Int) (n : Nat) (f b : Int) (s3 : Slot), (s3 = .non ∨ ∃ x, s3 = .v x) → n + cells.length ≤ 50 → 0 ≤ f → f < F4 n → (0 ≤ b ∧ b < 2 ^ 130) →
    ∃ (f' b' : Int) (s3' : Slot), 0 ≤ f' ∧ (0 ≤ b' ∧ b' < 2 ^ 130) ∧ forLoop (forTurn P (.nm 3) potBody) (cells.map PyData.int) ⟨[.v a, .v (.d (.int f)), .v (.d (.int b)), s3], hp⟩ = .nx ⟨[.v a, .v (.d (.int f')), .v (.d (.int b')), s3'], hp⟩
  | [], n, f, b, s3, _, _, h0, _, hb => ⟨f, b, s3, h0, hb, rfl⟩
  | c :: r, n, f, b, s3, h3, hl, h0, h1, hb => by
    rw [List.length_cons] at hl
    obtain ⟨f1, b1, g0, g1, gb, e⟩ := pot_turn (P := P) (hp := hp) (a := a) (c := c) h3 (n := n) (by omega) h0 h1 hb
    obtain ⟨f2, b2, s2, k0, kb, e2⟩ := pot_loop (P := P) (hp := hp) (a := a) r (n + 1) f1 b1 (.v (.d (.int c))) (.inr ⟨_, rfl⟩) (by omega) g0 g1 gb
    refine ⟨f2, b2, s2, k0, kb, ?_⟩
    rw [List.map_cons, forLoop, e]
    exact e2
theorem cut_take (xs : List D) : cut xs none (some 50) = xs.take 50 := by
  unfold cut
  simp only [HT.sIx_none]
  rw [show HT.sIx xs.length xs.length (some 50) = min 50 xs.length from HT.sIx_nat xs.length _ 50, List.drop_zero]
  simp [List.take_eq_take_iff]
theorem potA_call {fs : List FunI} {consts : List D} {k j : Nat} (hj : fs[j]? = some ⟨4, 1, bPotA⟩) (ns : List Int) :
    ∃ d : D, PotOk 0 d ∧ callF fs consts (k + 1) j [.d (.list (ns.map .int))] [] = .ok (.r 0) [d] := by
  obtain ⟨f, b, s3, h0, hb, e⟩ := pot_loop (P := ⟨consts, callF fs consts k⟩) (hp := []) (a := .d (.list (ns.map .int))) (ns.take 50) 0 0 161803 .non (.inl rfl) (by rw [List.length_take]; omega) (by decide) (by unfold F4; decide) (by decide)
  have e2 : fSlice [.list (ns.map .int), .none, .int 50] = some (.list ((ns.take 50).map .int)) := by
    rw [d_slice0 (l := none) (h := some 50) rfl rfl, cut_take, List.map_take]
  refine ⟨pot f b 0, ⟨f, b, 0, rfl, h0, ⟨hb.1, by omega⟩, by decide, by decide⟩, ?_⟩
  rw [List.map_take] at e e2
  unfold callF
  rw [hj]
  simp [noPk, bPotA, e2, e, lim, pot]
end EV
end
section
set_option Elab.async false
set_option linter.all false
set_option maxRecDepth 100000
set_option maxHeartbeats 4000000
set_option autoImplicit false
/-! EvW: plain facts for the laws -/
namespace EV
open PySem
/-! ### loops of like turns -/
theorem lcLoop_map {turn : D → Ste → Res (Option D)} {f : D → D} {s : Ste} : ∀ (xs acc : List D), (∀ x ∈ xs, turn x s = .ok (some (f x)) s) → lcLoop turn xs acc s = .ok (acc ++ xs.map f) s
  | [], acc, _ => by simp [lcLoop]
  | x :: xs, acc, h => by
    rw [lcLoop, h x List.mem_cons_self]
    show lcLoop turn xs (acc ++ [f x]) s = _
    rw [lcLoop_map xs _ fun y hy => h y (List.mem_cons_of_mem _ hy)]
    simp
theorem bools_map {α : Type} {f : α → Bool} : ∀ xs : List α, bools? (xs.map fun x => .bool (f x)) = some (xs.map f)
  | [] => rfl
  | x :: xs => by simp [bools?, bools_map xs]
theorem d_allb {α : Type} {f : α → Bool} (xs : List α) : fAll [.list (xs.map fun x => .bool (f x))] = some (.bool (xs.all f)) := by
  show (match bools? (xs.map fun x => .bool (f x)) with
      | some bs => some (PyData.bool (bs.all id))
      | none => none) = _
  rw [bools_map]
  simp [List.all_map]
theorem d_in1 {c : Nat} {z : Str} : fIn [.str ⟨#[c]⟩, .str z] = some (.bool (decide (c ∈ z.cps.toList))) := by
  show some (PyData.bool (occIn ⟨#[c]⟩ z)) = _
  unfold occIn
  rw [PySem.StrLaws.found_one]
theorem d_lens {z : Str} (h : z.length ≤ lim) : fLen [.str z] = some (.int z.length) := by
  show (if z.length ≤ lim then _ else none) = _
  rw [if_pos h]
theorem takeWhile_len {α : Type} {p : α → Bool} : ∀ {l : List α} {a : α} {r : List α}, l.dropWhile p = a :: r → (l.takeWhile p).length + (r.length + 1) = l.length
  | [], _, _, h => by simp at h
  | x :: l, a, r, h => by
    rw [List.dropWhile_cons] at h
    rw [List.takeWhile_cons]
    by_cases hx : p x = true
    · rw [if_pos hx] at h ⊢
      have := takeWhile_len h
      simp only [List.length_cons]
      omega
    · rw [if_neg hx] at h ⊢
      cases h
      simp
theorem drop_takeWhile {α : Type} {p : α → Bool} : ∀ (l : List α), l.drop (l.takeWhile p).length = l.dropWhile p
  | [] => rfl
  | x :: l => by
    rw [List.takeWhile_cons, List.dropWhile_cons]
    by_cases hx : p x = true
    · rw [if_pos hx, if_pos hx]
      exact drop_takeWhile l
    · rw [if_neg hx, if_neg hx]
      rfl
theorem takeWhile_stop {α : Type} {p : α → Bool} : ∀ (l : List α) (a : α), p a = false → (l ++ [a]).takeWhile p = l.takeWhile p
  | [], a, h => by simp [h]
  | x :: l, a, h => by
    rw [List.cons_append, List.takeWhile_cons, List.takeWhile_cons, takeWhile_stop l a h]
theorem dropWhile_head {α : Type} {p : α → Bool} : ∀ {l : List α} {a : α} {r : List α}, l.dropWhile p = a :: r → p a = false
  | [], _, _, h => by simp at h
  | x :: l, a, r, h => by
    rw [List.dropWhile_cons] at h
    by_cases hx : p x = true
    · rw [if_pos hx] at h; exact dropWhile_head h
    · rw [if_neg hx] at h
      cases h
      simpa using hx
theorem dropWhile_nil {α : Type} {p : α → Bool} : ∀ {l : List α}, l.dropWhile p = [] → l.all p = true
  | [], _ => rfl
  | x :: l, h => by
    rw [List.dropWhile_cons] at h
    by_cases hx : p x = true
    · rw [if_pos hx] at h
      rw [List.all_cons, hx, dropWhile_nil h]
      rfl
    · rw [if_neg hx] at h; cases h
theorem dropWhile_all {α : Type} {p : α → Bool} : ∀ {l : List α}, l.all p = true → l.dropWhile p = []
  | [], _ => rfl
  | x :: l, h => by
    rw [List.all_cons, Bool.and_eq_true] at h
    rw [List.dropWhile_cons, if_pos h.1]
    exact dropWhile_all h.2
theorem str_nil {z : Str} : (z == "") = z.cps.toList.isEmpty := by
  obtain ⟨⟨l⟩⟩ := z
  cases l with
  | nil => rfl
  | cons a r =>
    show ((⟨⟨a :: r⟩⟩ : Str) == (⟨⟨[]⟩⟩ : Str)) = false
    rw [beq_eq_false_iff_ne]
    intro h
    have h2 : (⟨a :: r⟩ : Array Nat) = ⟨[]⟩ := by injection h
    have h3 : a :: r = [] := by injection h2
    cases h3
/-- stripped of these signs nothing is left -/
theorem strip_none (z y : Str) : (Txt.stripChars z y == "") = z.cps.toList.all fun c => decide (c ∈ y.cps.toList) := by
  have hp : (fun c => decide (c ∈ y.cps.toList)) = y.cps.contains := by
    funext c
    rw [← Array.contains_toList]
    simp
  rw [hp, str_nil]
  unfold Txt.stripChars
  rw [PyProof.Rows.stripBy_eq]
  unfold Builtin.Str.strSub PySem.stripLo PySem.stripHi
  simp only [if_true]
  rw [Array.toList_extract, drop_takeWhile]
  have hz : z.length = z.cps.toList.length := by simp [Str.length]
  cases h : z.cps.toList.dropWhile y.cps.contains with
  | nil =>
    rw [dropWhile_nil h]
    have hl : (z.cps.toList.takeWhile y.cps.contains).length = z.length := by
      have := drop_takeWhile (p := y.cps.contains) z.cps.toList
      rw [h] at this
      have h2 := List.drop_eq_nil_iff.mp this
      have h3 := (List.takeWhile_sublist (l := z.cps.toList) y.cps.contains).length_le
      omega
    simp [List.extract_eq_take_drop, h, hl, drop_takeWhile]
  | cons a r =>
    have hall : z.cps.toList.all y.cps.contains = false := by
      cases hc : z.cps.toList.all y.cps.contains with
      | false => rfl
      | true => rw [dropWhile_all hc] at h; cases h
    rw [hall]
    have ha := dropWhile_head h
    have hl := takeWhile_len h
    have h5 : ((a :: r).reverse.takeWhile y.cps.contains).length ≤ r.length := by
      rw [List.reverse_cons, takeWhile_stop _ _ ha]
      have := (List.takeWhile_sublist (l := r.reverse) y.cps.contains).length_le
      rw [List.length_reverse] at this
      exact this
    rw [List.extract_eq_take_drop, drop_takeWhile, h]
    have : z.length - ((a :: r).reverse.takeWhile y.cps.contains).length - (z.cps.toList.takeWhile y.cps.contains).length = (z.length - ((a :: r).reverse.takeWhile y.cps.contains).length - (z.cps.toList.takeWhile y.cps.contains).length - 1) + 1 := by omega
    rw [this]
    rfl
theorem lim_ge {n : Nat} (h : n ≤ 1000) : n ≤ lim := Nat.le_trans h (by decide)
theorem d_strip {z y : Str} (h : z.length ≤ lim) : fStrip [.str z, .str y] = some (.str (Txt.stripChars z y)) := by
  show (if z.length ≤ lim then _ else none) = _
  rw [if_pos h]
theorem pl_str (z : Str) : plainD (.str z) = true := by simp [plainD, PyData.plain, PyData.depth]
theorem pl_int (z : Int) : plainD (.int z) = true := by simp [plainD, PyData.plain, PyData.depth]
theorem d_eqs (z y : Str) : fEq [.str z, .str y] = some (.bool (z == y)) := by simp [fEq, pl_str, PyData.eqv]
theorem d_nes (z y : Str) : fNe [.str z, .str y] = some (.bool (!(z == y))) := by simp [fNe, pl_str, PyData.eqv]
theorem d_eqi (z y : Int) : fEq [.int z, .int y] = some (.bool (z == y)) := by simp [fEq, pl_int, PyData.eqv]
theorem d_nei (z y : Int) : fNe [.int z, .int y] = some (.bool (!(z == y))) := by simp [fNe, pl_int, PyData.eqv]
theorem rng_one {n : Int} (h : -(2 ^ 60) < n ∧ n < 2 ^ 60) : rngItems [.int n] = some (iran 0 n.toNat) := by
  show (if -(2 ^ 60) < n ∧ n < 2 ^ 60 then some (iran 0 n.toNat) else none) = _
  rw [if_pos h]
theorem len_app (a b : Str) : (a ++ b).length = a.length + b.length := by
  show (a.cps ++ b.cps).size = _
  rw [Array.size_append]
  rfl
theorem len_cut (z : Str) (l h : Option Int) : (L2.cutS z l h).length ≤ z.length := by
  show ((z.cps.toList.drop (HT.sIx z.length 0 l)).take (HT.sIx z.length z.length h - HT.sIx z.length 0 l)).toArray.size ≤ z.length
  rw [List.size_toArray, List.length_take, List.length_drop]
  have : z.cps.toList.length = z.length := by simp [Str.length]
  omega
theorem len_rep (z : Str) (n : Nat) : (repS z n).length = n * z.length := by
  show ((List.replicate n z.cps.toList).flatten.toArray).size = _
  rw [List.size_toArray, List.length_flatten, List.map_replicate, List.sum_replicate_nat]
  simp [Str.length]
theorem d_adds {a b : Str} (h : a.length + b.length ≤ 1000) : fAdd [.str a, .str b] = some (.str (a ++ b)) := if_pos (lim_ge h)
theorem d_cut {z : Str} {lo hi : D} {l h : Option Int} (hz : z.length ≤ 1000) (e1 : part? lo = some l) (e2 : part? hi = some h) : fSlice [.str z, lo, hi] = some (.str (L2.cutS z l h)) := by
  unfold fSlice
  simp only [e1, e2]
  rw [if_pos (lim_ge hz)]
theorem nth_ok {xs : List D} {i : Int} (h0 : 0 ≤ i) (h1 : i < xs.length) : ∃ x ∈ xs, nth xs i = some x := by
  have hi : i.toNat < xs.length := by omega
  refine ⟨xs[i.toNat], List.getElem_mem hi, ?_⟩
  simp [nth, L2.atI, L2.ixN, h0, h1, hi]
theorem d_idxs {z : Str} {i : Int} (hz : z.length ≤ 1000) (h0 : 0 ≤ i) (h1 : i < z.length) : ∃ c, fIdx [.str z, .int i] = some (.str ⟨#[c]⟩) := by
  have hl : z.cps.toList.length = z.length := by simp [Str.length]
  have hi : i.toNat < z.cps.toList.length := by omega
  refine ⟨z.cps.toList[i.toNat], ?_⟩
  show (if z.length ≤ lim then (L2.atI z.cps.toList i).map fun c => PyData.str ⟨#[c]⟩ else none) = _
  rw [if_pos (lim_ge hz)]
  have e : L2.atI z.cps.toList i = some z.cps.toList[i.toNat] := by
    unfold L2.atI L2.ixN
    rw [if_pos h0, if_pos (by omega)]
    simp [List.getElem?_eq_getElem hi]
  rw [e]
  rfl
theorem bi_open {i : Nat} {x : D} {rho : List Slot} : bindT (.nm i) x rho = if Slot.open rho[i]? = true then some (rho.set i (.v (.d x))) else none := by
  rw [bi_nm]
  by_cases hi : i < rho.length
  · rw [if_pos hi, List.getElem?_eq_getElem hi]
    cases rho[i] <;> simp [Slot.open]
  · rw [if_neg hi, List.getElem?_eq_none (by omega)]
    simp [Slot.open]
theorem forLoop_inv {turn : D → Ste → Out} (I : Nat → Ste → Prop) : ∀ (xs : List D) (i : Nat) (s : Ste), (∀ (j : Nat) (x : D) (s : Ste), x ∈ xs → I j s → ∃ s', turn x s = .nx s' ∧ I (j + 1) s') → I i s → ∃ s', forLoop turn xs s = .nx s' ∧ I (i + xs.length) s'
  | [], i, s, _, h => ⟨s, rfl, h⟩
  | x :: xs, i, s, t, h => by
    obtain ⟨s1, e1, h1⟩ := t i x s List.mem_cons_self h
    obtain ⟨s2, e2, h2⟩ := forLoop_inv I xs (i + 1) s1 (fun j y s hy => t j y s (List.mem_cons_of_mem _ hy)) h1
    refine ⟨s2, by rw [forLoop, e1]; exact e2, ?_⟩
    rw [List.length_cons, Nat.add_comm xs.length 1, ← Nat.add_assoc]
    exact h2
theorem rep_b (b : Bool) : fRepr [.bool b] = some (.str (if b then "True" else "False")) := by cases b <;> kernel_rfl
/-! ### is_name, wherever it stands -/
def letters : Str := "abcdefghijklmnopqrstuvwxyz"
def isNm : D → Bool
  | .str z => decide (1 ≤ z.length) && (decide (z.length ≤ 8) && z.cps.toList.all fun c => decide (c ∈ letters.cps.toList))
  | _ => false
def Sm : D → Prop
  | .str z => z.length ≤ 1000
  | _ => True
def bName (gl gm : Nat) : CSs := (ss [
  (.ret (.and (.op (.isinst .str) (cs [(.peek 0)])) (.and (.chain .le .le (.kst (.int 1)) (.op .len (cs [(.peek 0)])) (.glob gm)) (.op .all (cs [(.lc [1] (.nm 1) (.slot 0) (cs []) (.op .in_ (cs [(.peek 1), (.glob gl)])))])))))])
theorem name_call {fs : List FunI} {consts : List D} {k j gl gm : Nat} {hp : List D} (hj : fs[j]? = some ⟨2, 1, bName gl gm⟩) (hl : consts[gl]? = some (.str letters)) (hm : consts[gm]? = some (.int 8)) : ∀ {x : D}, Sm x → callF fs consts (k + 1) j [.d x] hp = .ok (.d (.bool (isNm x))) hp := by
  intro x h
  rw [callF, hj]
  cases x with
  | str z =>
    have hz1 : z.length ≤ lim := lim_ge h
    have lp : lcLoop (lcTurn ⟨consts, callF fs consts k⟩ [1] (.nm 1) .nil (.op .in_ (.cons (.peek 1) (.cons (.glob gl) .nil)))) (z.cps.toList.map fun c => .str ⟨#[c]⟩) [] ⟨[.v (.d (.str z)), .non], hp⟩ = .ok ((z.cps.toList.map fun c => PyData.bool (decide (c ∈ letters.cps.toList)))) ⟨[.v (.d (.str z)), .non], hp⟩ := by
      rw [lcLoop_map (f := fun d => match d with | .str y => .bool (decide (∀ c ∈ y.cps.toList, c ∈ letters.cps.toList)) | d => d)]
      · simp
      · intro x hx
        obtain ⟨c, _, rfl⟩ := List.mem_map.mp hx
        simp [lcTurn, hl, d_in1]
    have hs : z.cps.size ≤ lim := hz1
    by_cases h1 : (1 : Int) ≤ z.length
    · have h1' : 1 ≤ z.length := by omega
      by_cases h2 : (z.length : Int) ≤ 8
      · have h2' : z.length ≤ 8 := by omega
        simp [noPk, bName, isTy, d_lens hz1, hm, h1, h2, h1', h2', lp, hs, isNm, d_allb]
      · have h2' : ¬ z.length ≤ 8 := by omega
        simp [noPk, bName, isTy, d_lens hz1, hm, h1, h2, h1', h2', isNm]
    · have h1' : ¬ 1 ≤ z.length := by omega
      simp [noPk, bName, isTy, d_lens hz1, hm, h1, h1', isNm]
  | _ => simp [noPk, bName, isTy, isNm]
end EV
end
section
set_option Elab.async false
set_option linter.all false
set_option maxRecDepth 100000
set_option maxHeartbeats 4000000
set_option autoImplicit false
/-! EvX: worlds judged, wherever the defs stand -/
namespace EV
open PySem
section
variable {fs : List FunI} {consts : List D} {k j : Nat} {hp : List D}
def isCt : D → Bool
  | .int i => decide (0 ≤ i)
  | _ => false
def bCount : CSs := (ss [
  (.ret (.and (.op (.isinst .int) (cs [(.peek 0)])) (.and (.not (.op (.isinst .bool) (cs [(.peek 0)]))) (.op .ge (cs [(.peek 0), (.kst (.int 0))])))))])
theorem count_call (hj : fs[j]? = some ⟨1, 1, bCount⟩) (x : D) : callF fs consts (k + 1) j [.d x] hp = .ok (.d (.bool (isCt x))) hp := by
  rw [callF, hj]
  cases x with
  | int i => simp [noPk, bCount, isTy, isCt]
  | _ => simp [noPk, bCount, isTy, isCt]
def isB : D → Bool
  | .bool _ => true
  | _ => false
def isGr : D → Bool
  | .tuple [a, b] => isNm a && isB b
  | _ => false
def bGrow (n : Nat) : CSs := (ss [
  (.ret (.and (.op (.isinst .tuple) (cs [(.peek 0)])) (.and (.op .eq (cs [(.op .len (cs [(.peek 0)])), (.kst (.int 2))])) (.and (.call n (cs [(.op .idx (cs [(.peek 0), (.kst (.int 0))]))])) (.op (.isinst .bool) (cs [(.op .idx (cs [(.peek 0), (.kst (.int 1))]))]))))))])
theorem grow_call {n gl gm : Nat} (hj : fs[j]? = some ⟨1, 1, bGrow n⟩) (hn : fs[n]? = some ⟨2, 1, bName gl gm⟩) (hl : consts[gl]? = some (.str letters)) (hm : consts[gm]? = some (.int 8)) {x : D} (hx : ∀ xs, x = .tuple xs → ∀ y ∈ xs, Sm y) :
    callF fs consts (k + 2) j [.d x] hp = .ok (.d (.bool (isGr x))) hp := by
  rw [callF, hj]
  cases x with
  | tuple xs =>
    by_cases h2 : xs.length = 2
    · match xs, h2 with
      | [a, b], _ =>
        have ha := name_call (k := k) (hp := hp) hn hl hm (x := a) (hx _ rfl a (by simp))
        cases e1 : isNm a with
        | true =>
          rw [e1] at ha
          cases b <;> simp [noPk, bGrow, isTy, d_eqi, nth, L2.atI, L2.ixN, ha, e1, isGr, isB]
        | false =>
          rw [e1] at ha
          simp [noPk, bGrow, isTy, d_eqi, nth, L2.atI, L2.ixN, ha, e1, isGr]
    · have h2' : ((xs.length : Int) == 2) = false := by
        rw [beq_eq_false_iff_ne]
        omega
      have e : isGr (.tuple xs) = false := by
        match xs, h2 with
        | [], _ => rfl
        | [_], _ => rfl
        | [_, _], h2 => exact (h2 rfl).elim
        | _ :: _ :: _ :: _, _ => rfl
      simp [noPk, bGrow, isTy, d_eqi, h2', e]
  | _ => simp [noPk, bGrow, isTy, isGr]
def diffS (xs : List D) : Bool := match strs? xs with
  | some ts => cntS ts ts.length == ts.length
  | none => false
def isOr (gs : List D) : D → Bool
  | .list xs => xs.all isNm && (diffS xs && xs.all fun x => inD x gs)
  | _ => false
theorem strs_nm : ∀ {xs : List D}, xs.all isNm = true → ∃ ts, strs? xs = some ts ∧ ts.length = xs.length
  | [], _ => ⟨[], rfl, rfl⟩
  | x :: xs, h => by
    rw [List.all_cons, Bool.and_eq_true] at h
    obtain ⟨ts, e, l⟩ := strs_nm h.2
    cases x with
    | str z => exact ⟨z :: ts, by simp [strs?, e], by simp [l]⟩
    | _ => cases h.1
theorem nm_plain {x : D} (h : isNm x = true) : plainD x = true := by
  cases x with
  | str z => exact pl_str z
  | _ => cases h
def bOrder (n : Nat) : CSs := (ss [
  (.ite (.or (.not (.op (.isinst .list) (cs [(.peek 0)]))) (.not (.op .all (cs [(.lc [2] (.nm 2) (.slot 0) (cs []) (.call n (cs [(.var 2)])))])))) (ss [
    (.ret (.kst (.bool false)))]) (ss [])),
  (.ret (.and (.op .eq (cs [(.op .setlen (cs [(.peek 0)])), (.op .len (cs [(.peek 0)]))])) (.op .all (cs [(.lc [2] (.nm 2) (.slot 0) (cs []) (.op .in_ (cs [(.peek 2), (.peek 1)])))]))))])
theorem order_call {n gl gm : Nat} {gs : List D} (hj : fs[j]? = some ⟨3, 2, bOrder n⟩) (hn : fs[n]? = some ⟨2, 1, bName gl gm⟩) (hl : consts[gl]? = some (.str letters)) (hm : consts[gm]? = some (.int 8)) {x : D} (hx : ∀ xs, x = .list xs → xs.length ≤ 1000 ∧ ∀ y ∈ xs, Sm y) (hg : gs.all plainD = true) :
    callF fs consts (k + 2) j [.d x, .d (.list gs)] hp = .ok (.d (.bool (isOr gs x))) hp := by
  rw [callF, hj]
  cases x with
  | list xs =>
    obtain ⟨few, small⟩ := hx xs rfl
    have c1 : xs.length ≤ lim := lim_ge few
    have l1 : lcLoop (lcTurn ⟨consts, callF fs consts (k + 1)⟩ [2] (.nm 2) .nil (.call n (.cons (.var 2) .nil))) xs [] ⟨[.v (.d (.list xs)), .v (.d (.list gs)), .non], hp⟩ = .ok (xs.map fun d => PyData.bool (isNm d)) ⟨[.v (.d (.list xs)), .v (.d (.list gs)), .non], hp⟩ := by
      rw [lcLoop_map (f := fun d => .bool (isNm d))]
      · simp
      · intro y hy
        simp [lcTurn, name_call hn hl hm (small y hy)]
    cases e1 : xs.all isNm with
    | false => simp [noPk, bOrder, isTy, l1, c1, d_allb, e1, isOr]
    | true =>
      obtain ⟨ts, et, lt⟩ := strs_nm e1
      have l2 : lcLoop (lcTurn ⟨consts, callF fs consts (k + 1)⟩ [2] (.nm 2) .nil (.op .in_ (.cons (.peek 2) (.cons (.peek 1) .nil)))) xs [] ⟨[.v (.d (.list xs)), .v (.d (.list gs)), .non], hp⟩ = .ok (xs.map fun d => PyData.bool (inD d gs)) ⟨[.v (.d (.list xs)), .v (.d (.list gs)), .non], hp⟩ := by
        rw [lcLoop_map (f := fun d => .bool (inD d gs))]
        · simp
        · intro y hy
          have py := nm_plain (List.all_eq_true.mp e1 y hy)
          have fi : fIn [y, .list gs] = some (.bool (inD y gs)) := by
            cases y with
            | str z => show (if plainD (.str z) && gs.all plainD then some (PyData.bool (inD (.str z) gs)) else none) = _; rw [hg, py]; rfl
            | _ => cases List.all_eq_true.mp e1 _ hy
          simp [lcTurn, fi]
      have sl : fSetlen [.list xs] = some (.int (cntS ts ts.length)) := by
        show (match strs? xs with
          | some ts => if ts.length < 4000 then some (PyData.int (cntS ts ts.length)) else none
          | none => none) = _
        rw [et]
        exact if_pos (by omega)
      have dd : diffS xs = (cntS ts ts.length == ts.length) := by unfold diffS; rw [et]
      have ei : ((cntS ts ts.length : Int) == (xs.length : Int)) = (cntS ts ts.length == ts.length) := by
        rw [lt, Bool.eq_iff_iff, beq_iff_eq, beq_iff_eq]
        omega
      cases e2 : (cntS ts ts.length == ts.length) with
      | false => rw [e2] at ei dd; simp [noPk, bOrder, isTy, l1, c1, d_allb, e1, isOr, sl, d_eqi, ei, dd]
      | true => rw [e2] at ei dd; simp [noPk, bOrder, isTy, l1, l2, c1, d_allb, e1, isOr, sl, d_eqi, ei, dd]
  | _ => simp [noPk, bOrder, isTy, isOr]
def isHr (gs : List D) : D → Bool
  | .tuple [a, b, c] => isNm a && (isCt b && isOr gs c)
  | _ => false
def bHrow (n ct o : Nat) : CSs := (ss [
  (.ite (.or (.not (.op (.isinst .tuple) (cs [(.peek 0)]))) (.or (.op .ne (cs [(.op .len (cs [(.peek 0)])), (.kst (.int 3))])) (.not (.call n (cs [(.op .idx (cs [(.peek 0), (.kst (.int 0))]))]))))) (ss [
    (.ret (.kst (.bool false)))]) (ss [])),
  (.ret (.and (.call ct (cs [(.op .idx (cs [(.peek 0), (.kst (.int 1))]))])) (.call o (cs [(.op .idx (cs [(.peek 0), (.kst (.int 2))])), (.var 1)]))))])
theorem hrow_call {n ct o gl gm : Nat} {gs : List D} (hj : fs[j]? = some ⟨2, 2, bHrow n ct o⟩) (hn : fs[n]? = some ⟨2, 1, bName gl gm⟩) (hc : fs[ct]? = some ⟨1, 1, bCount⟩) (ho : fs[o]? = some ⟨3, 2, bOrder n⟩) (hl : consts[gl]? = some (.str letters)) (hm : consts[gm]? = some (.int 8)) {x : D}
    (hx : ∀ a b c, x = .tuple [a, b, c] → Sm a ∧ ∀ xs, c = .list xs → xs.length ≤ 1000 ∧ ∀ y ∈ xs, Sm y) (hg : gs.all plainD = true) :
    callF fs consts (k + 3) j [.d x, .d (.list gs)] hp = .ok (.d (.bool (isHr gs x))) hp := by
  rw [callF, hj]
  cases x with
  | tuple xs =>
    by_cases h2 : xs.length = 3
    · match xs, h2 with
      | [a, b, c], _ =>
        obtain ⟨sa, sc⟩ := hx a b c rfl
        have ha := name_call (k := k + 1) (hp := hp) hn hl hm (x := a) sa
        have hb := count_call (k := k + 1) (hp := hp) (consts := consts) hc b
        have hcc := order_call (k := k) (hp := hp) ho hn hl hm (x := c) sc hg
        cases e1 : isNm a with
        | false =>
          rw [e1] at ha
          simp [noPk, bHrow, isTy, d_nei, nth, L2.atI, L2.ixN, ha, e1, isHr]
        | true =>
          rw [e1] at ha
          cases e2 : isCt b with
          | false =>
            rw [e2] at hb
            simp [noPk, bHrow, isTy, d_nei, nth, L2.atI, L2.ixN, ha, hb, e1, e2, isHr]
          | true =>
            rw [e2] at hb
            simp [noPk, bHrow, isTy, d_nei, nth, L2.atI, L2.ixN, ha, hb, hcc, e1, e2, isHr]
    · have h2' : ((xs.length : Int) == 3) = false := by
        rw [beq_eq_false_iff_ne]
        omega
      have e : isHr gs (.tuple xs) = false := by
        match xs, h2 with
        | [], _ => rfl
        | [_], _ => rfl
        | [_, _], _ => rfl
        | [_, _, _], h2 => exact (h2 rfl).elim
        | _ :: _ :: _ :: _ :: _, _ => rfl
      simp [noPk, bHrow, isTy, d_nei, h2', e]
  | _ => simp [noPk, bHrow, isTy, isHr]
/-- the first part of a row -/
def fst1 : D → D
  | .tuple (a :: _) => a
  | d => d
def isWd : D → Bool
  | .tuple [.list hs, .list gs] => gs.all isGr && (hs.all (isHr (gs.map fst1)) && diffS (gs.map fst1 ++ hs.map fst1))
  | _ => false
theorem gr_at {x : D} (h : isGr x = true) : ∃ a b, x = .tuple [a, b] ∧ isNm a = true := by
  match x, h with
  | .tuple [a, b], h =>
    rw [isGr, Bool.and_eq_true] at h
    exact ⟨a, b, rfl, h.1⟩
theorem hr_at {gs : List D} {x : D} (h : isHr gs x = true) : ∃ a b c, x = .tuple [a, b, c] ∧ isNm a = true := by
  match x, h with
  | .tuple [a, b, c], h =>
    rw [isHr, Bool.and_eq_true] at h
    exact ⟨a, b, c, rfl, h.1⟩
def bWorld (gr hr : Nat) : CSs := (ss [
  (.ite (.or (.not (.op (.isinst .tuple) (cs [(.peek 0)]))) (.or (.op .ne (cs [(.op .len (cs [(.peek 0)])), (.kst (.int 2))])) (.not (.op .all (cs [(.lc [1] (.nm 1) (.slot 0) (cs []) (.op (.isinst .list) (cs [(.peek 1)])))]))))) (ss [
    (.ret (.kst (.bool false)))]) (ss [])),
  (.setT [(.nm 2), (.nm 3)] (.var 0)),
  (.ite (.not (.op .all (cs [(.lc [4] (.nm 4) (.slot 3) (cs []) (.call gr (cs [(.var 4)])))]))) (ss [
    (.ret (.kst (.bool false)))]) (ss [])),
  (.set 5 (.lc [6, 7] (.tp [(.nm 6), (.nm 7)]) (.slot 3) (cs []) (.var 6))),
  (.ite (.not (.op .all (cs [(.lc [4] (.nm 4) (.slot 2) (cs []) (.call hr (cs [(.var 4), (.var 5)])))]))) (ss [
    (.ret (.kst (.bool false)))]) (ss [])),
  (.set 5 (.op .add (cs [(.peek 5), (.lc [4] (.nm 4) (.slot 2) (cs []) (.op .idx (cs [(.peek 4), (.kst (.int 0))])))]))),
  (.ret (.op .eq (cs [(.op .setlen (cs [(.peek 5)])), (.op .len (cs [(.peek 5)]))])))])
theorem nms_plain : ∀ {gs : List D}, gs.all isGr = true → (gs.map fst1).all plainD = true ∧ (gs.map fst1).all isNm = true
  | [], _ => ⟨rfl, rfl⟩
  | g :: gs, h => by
    rw [List.all_cons, Bool.and_eq_true] at h
    obtain ⟨h1, h2⟩ := nms_plain h.2
    obtain ⟨a, b, rfl, ha⟩ := gr_at h.1
    simp only [List.map_cons, List.all_cons, h1, h2, Bool.and_true]
    exact ⟨nm_plain ha, ha⟩
theorem setlen_of {xs : List D} (h : xs.all isNm = true) (hl : xs.length < 4000) : ∃ c : Nat, fSetlen [.list xs] = some (.int c) ∧ ((c : Int) == (xs.length : Int)) = diffS xs := by
  obtain ⟨ts, et, lt⟩ := strs_nm h
  refine ⟨cntS ts ts.length, ?_, ?_⟩
  · show (match strs? xs with
      | some ts => if ts.length < 4000 then some (PyData.int (cntS ts ts.length)) else none
      | none => none) = _
    rw [et]
    exact if_pos (by omega)
  · unfold diffS
    rw [et, ← lt, Bool.eq_iff_iff]
    show _ ↔ (cntS ts ts.length == ts.length) = true
    rw [beq_iff_eq, beq_iff_eq]
    omega
theorem lim_ge2 {n : Nat} (h : n ≤ 100000) : n ≤ lim := Nat.le_trans h (by decide)
theorem world_call {gr hr n ct o gl gm : Nat} (hj : fs[j]? = some ⟨8, 1, bWorld gr hr⟩) (hgr : fs[gr]? = some ⟨1, 1, bGrow n⟩) (hhr : fs[hr]? = some ⟨2, 2, bHrow n ct o⟩) (hn : fs[n]? = some ⟨2, 1, bName gl gm⟩) (hc : fs[ct]? = some ⟨1, 1, bCount⟩) (ho : fs[o]? = some ⟨3, 2, bOrder n⟩) (hl : consts[gl]? = some (.str letters)) (hm : consts[gm]? = some (.int 8))
    {hs gs : List D} (fh : hs.length ≤ 1000) (fg : gs.length ≤ 1000) (sg : ∀ x ∈ gs, ∀ xs, x = .tuple xs → ∀ y ∈ xs, Sm y) (sh : ∀ x ∈ hs, ∀ a b c, x = .tuple [a, b, c] → Sm a ∧ ∀ xs, c = .list xs → xs.length ≤ 1000 ∧ ∀ y ∈ xs, Sm y) :
    callF fs consts (k + 4) j [.d (.tuple [.list hs, .list gs])] hp = .ok (.d (.bool (isWd (.tuple [.list hs, .list gs])))) hp := by
  rw [callF, hj]
  have ch : hs.length ≤ 1000000 := lim_ge fh
  have cg : gs.length ≤ 1000000 := lim_ge fg
  have l0 : ∀ w, lcLoop (lcTurn ⟨consts, callF fs consts (k + 3)⟩ [1] (.nm 1) .nil (.op (.isinst .list) (.cons (.peek 1) .nil))) [.list hs, .list gs] [] ⟨[.v (.d w), .non, .non, .non, .non, .non, .non, .non], hp⟩ = .ok [.bool true, .bool true] ⟨[.v (.d w), .non, .non, .non, .non, .non, .non, .non], hp⟩ := fun w => by
    rw [lcLoop_map (f := fun _ => .bool true)]
    · simp
    · intro y hy
      simp only [List.mem_cons, List.not_mem_nil, or_false] at hy
      rcases hy with rfl | rfl <;> simp [lcTurn, isTy]
  have a0 : fAll [.list [.bool true, .bool true]] = some (.bool true) := rfl
  have l1 : ∀ w, lcLoop (lcTurn ⟨consts, callF fs consts (k + 3)⟩ [4] (.nm 4) .nil (.call gr (.cons (.var 4) .nil))) gs [] ⟨[.v (.d w), .non, .v (.d (.list hs)), .v (.d (.list gs)), .non, .non, .non, .non], hp⟩ = .ok (gs.map fun d => PyData.bool (isGr d)) ⟨[.v (.d w), .non, .v (.d (.list hs)), .v (.d (.list gs)), .non, .non, .non, .non], hp⟩ := fun w => by
    rw [lcLoop_map (f := fun d => .bool (isGr d))]
    · simp
    · intro y hy
      simp [lcTurn, grow_call (k := k + 1) (hp := hp) hgr hn hl hm (sg y hy)]
  cases e1 : gs.all isGr with
  | false => simp [noPk, bWorld, isTy, d_nei, l0, a0, l1, ch, cg, d_allb, e1, isWd, lim]
  | true =>
    obtain ⟨pn, nn⟩ := nms_plain e1
    have cn : (gs.map fst1).length ≤ 1000000 := by rw [List.length_map]; exact cg
    have l2 : ∀ w, lcLoop (lcTurn ⟨consts, callF fs consts (k + 3)⟩ [6, 7] (.tp [.nm 6, .nm 7]) .nil (.var 6)) gs [] ⟨[.v (.d w), .non, .v (.d (.list hs)), .v (.d (.list gs)), .non, .non, .non, .non], hp⟩ = .ok (gs.map fst1) ⟨[.v (.d w), .non, .v (.d (.list hs)), .v (.d (.list gs)), .non, .non, .non, .non], hp⟩ := fun w => by
      rw [lcLoop_map (f := fst1)]
      · simp
      · intro y hy
        obtain ⟨a, b, rfl, _⟩ := gr_at (List.all_eq_true.mp e1 y hy)
        simp [lcTurn, fst1]
    have l3 : ∀ w, lcLoop (lcTurn ⟨consts, callF fs consts (k + 3)⟩ [4] (.nm 4) .nil (.call hr (.cons (.var 4) (.cons (.var 5) .nil)))) hs [] ⟨[.v (.d w), .non, .v (.d (.list hs)), .v (.d (.list gs)), .non, .v (.d (.list (gs.map fst1))), .non, .non], hp⟩ = .ok (hs.map fun d => PyData.bool (isHr (gs.map fst1) d)) ⟨[.v (.d w), .non, .v (.d (.list hs)), .v (.d (.list gs)), .non, .v (.d (.list (gs.map fst1))), .non, .non], hp⟩ := fun w => by
      rw [lcLoop_map (f := fun d => .bool (isHr (gs.map fst1) d))]
      · simp
      · intro y hy
        simp [lcTurn, hrow_call (k := k) (hp := hp) hhr hn hc ho hl hm (sh y hy) pn]
    cases e2 : hs.all (isHr (gs.map fst1)) with
    | false => simp [noPk, bWorld, isTy, d_nei, l0, a0, l1, l2, l3, ch, cg, cn, d_allb, e1, e2, isWd, lim]
    | true =>
      have l4 : ∀ w, lcLoop (lcTurn ⟨consts, callF fs consts (k + 3)⟩ [4] (.nm 4) .nil (.op .idx (.cons (.peek 4) (.cons (.kst (.int 0)) .nil)))) hs [] ⟨[.v (.d w), .non, .v (.d (.list hs)), .v (.d (.list gs)), .non, .v (.d (.list (gs.map fst1))), .non, .non], hp⟩ = .ok (hs.map fst1) ⟨[.v (.d w), .non, .v (.d (.list hs)), .v (.d (.list gs)), .non, .v (.d (.list (gs.map fst1))), .non, .non], hp⟩ := fun w => by
        rw [lcLoop_map (f := fst1)]
        · simp
        · intro y hy
          obtain ⟨a, b, c, rfl, _⟩ := hr_at (List.all_eq_true.mp e2 y hy)
          simp [lcTurn, fst1, nth, L2.atI, L2.ixN]
      have nh : (hs.map fst1).all isNm = true := by
        rw [List.all_eq_true]
        intro y hy
        obtain ⟨x, hx, rfl⟩ := List.mem_map.mp hy
        obtain ⟨a, b, c, rfl, ha⟩ := hr_at (List.all_eq_true.mp e2 x hx)
        exact ha
      have na : (gs.map fst1 ++ hs.map fst1).all isNm = true := by rw [List.all_append, nn, nh]; rfl
      have fa : fAdd [.list (gs.map fst1), .list (hs.map fst1)] = some (.list (gs.map fst1 ++ hs.map fst1)) := if_pos (by rw [List.length_map, List.length_map]; exact lim_ge2 (by omega))
      obtain ⟨c, es, ec⟩ := setlen_of na (by rw [List.length_append, List.length_map, List.length_map]; omega)
      have ec' : ((c : Int) == (gs.length : Int) + (hs.length : Int)) = diffS (gs.map fst1 ++ hs.map fst1) := by rw [← ec, List.length_append, List.length_map, List.length_map]; rfl
      simp [noPk, bWorld, isTy, d_nei, l0, a0, l1, l2, l3, l4, ch, cg, cn, d_allb, e1, e2, isWd, lim, fa, es, d_eqi, ec']
end
end EV
end
section
set_option Elab.async false
set_option linter.all false
set_option maxRecDepth 100000
set_option maxHeartbeats 4000000
set_option autoImplicit false
/-! EvY: plain facts on pairs of texts in order, unlike names, drawn orders -/
namespace EV
open PySem
/-! ### pairs of texts -/
def prS (p : Str × Str) : D := .tuple [.str p.1, .str p.2]
def isPr : D → Bool
  | .tuple [.str _, .str _] => true
  | _ => false
def unPr : D → Str × Str
  | .tuple [.str a, .str b] => (a, b)
  | _ => (Str.empty, Str.empty)
theorem pr_un {x : D} (h : isPr x = true) : prS (unPr x) = x := by
  match x, h with
  | .tuple [.str _, .str _], _ => rfl
theorem prs_un : ∀ {l : List D}, l.all isPr = true → (l.map unPr).map prS = l
  | [], _ => rfl
  | x :: l, h => by
    rw [List.all_cons, Bool.and_eq_true] at h
    rw [List.map_cons, List.map_cons, prs_un h.2, pr_un h.1]
def leP (p q : Str × Str) : Bool := PySem.W.dataLe false id (prS p) (prS q)
theorem leP_lt (p q : Str × Str) : leP p q = !PySem.W.dataLt (prS q) (prS p) := rfl
theorem str_ext {a b : Str} (h : a.cps.toList = b.cps.toList) : a = b := by
  obtain ⟨⟨x⟩⟩ := a
  obtain ⟨⟨y⟩⟩ := b
  cases h
  rfl
theorem str_lt2 {a b : Str} (h1 : ¬ a.cps.toList < b.cps.toList) (h2 : ¬ b.cps.toList < a.cps.toList) : a = b :=
  str_ext (List.le_antisymm (List.not_lt.mp h2) (List.not_lt.mp h1))
theorem leP_anti (p q : Str × Str) (h1 : leP p q = true) (h2 : leP q p = true) : p = q := by
  rw [leP_lt, Bool.not_eq_true'] at h1 h2
  unfold prS at h1 h2
  rw [PySem.W.dataLt_pair (by simp [PySem.W.alike]) (by simp [PySem.W.alike]), PySem.W.dataLt_str, PySem.W.dataLt_str] at h1 h2
  have e1 : p.1 = q.1 := by
    cases e : PyData.eqv (.str q.1) (.str p.1) with
    | true => simpa [PyData.eqv] using (by simpa [PyData.eqv] using e : q.1 = p.1).symm
    | false =>
      have e' : PyData.eqv (.str p.1) (.str q.1) = false := by
        simp only [PyData.eqv, beq_eq_false_iff_ne] at e ⊢
        exact fun h => e h.symm
      rw [e] at h1
      rw [e'] at h2
      simp only [Bool.false_eq_true, if_false, decide_eq_false_iff_not] at h1 h2
      exact str_lt2 h2 h1
  have e2 : p.2 = q.2 := by
    have t1 : PyData.eqv (.str q.1) (.str p.1) = true := by simp [PyData.eqv, e1]
    have t2 : PyData.eqv (.str p.1) (.str q.1) = true := by simp [PyData.eqv, e1]
    rw [if_pos t1] at h1
    rw [if_pos t2] at h2
    cases e : PyData.eqv (.str q.2) (.str p.2) with
    | true => exact (by simpa [PyData.eqv] using e : q.2 = p.2).symm
    | false =>
      have e' : PyData.eqv (.str p.2) (.str q.2) = false := by
        simp only [PyData.eqv, beq_eq_false_iff_ne] at e ⊢
        exact fun h => e h.symm
      rw [e] at h1
      rw [e'] at h2
      simp only [Bool.false_eq_true, if_false, decide_eq_false_iff_not] at h1 h2
      exact str_lt2 h2 h1
  exact Prod.ext e1 e2
theorem leP_total : PySem.W.TotalLe leP := PySem.W.sortLe_total (PyProof.Rows.listOrd PyProof.Rows.itemOrd) false fun p : Str × Str => PySem.W.keyToks (prS p)
theorem sortP_perm {l m : List (Str × Str)} (h : l.Perm m) : l.mergeSort leP = m.mergeSort leP :=
  PySem.W.Srt.the_of_perm leP leP_total.trans (fun x y => Bool.or_eq_true_iff.mpr (leP_total.total x y)) leP_anti ((List.mergeSort_perm l _).trans h) (PySem.W.sort_pairwise leP_total l)
theorem sort_prs (l : List (Str × Str)) : (l.map prS).mergeSort (PySem.W.dataLe false id) = (l.mergeSort leP).map prS :=
  (PySem.W.sort_maps prS fun _ _ _ _ => rfl).symm
def srt (l : List D) : List D := l.mergeSort (PySem.W.dataLe false id)
theorem srt_perm {l m : List D} (hl : l.all isPr = true) (h : l.Perm m) : srt l = srt m := by
  have hm : m.all isPr = true := by
    rw [List.all_eq_true] at hl ⊢
    exact fun x hx => hl x (h.mem_iff.mpr hx)
  unfold srt
  rw [← prs_un hl, ← prs_un hm, sort_prs, sort_prs, sortP_perm (h.map unPr)]
theorem srt_mem {l : List D} : (srt l).Perm l := List.mergeSort_perm _ _
theorem srt_pr {l : List D} (hl : l.all isPr = true) : (srt l).all isPr = true := by
  rw [List.all_eq_true] at hl ⊢
  exact fun x hx => hl x (srt_mem.mem_iff.mp hx)
theorem srt_app {l m : List D} (hl : l.all isPr = true) (hm : m.all isPr = true) : srt (srt l ++ m) = srt (l ++ m) := by
  refine srt_perm ?_ (List.Perm.append_right _ srt_mem)
  rw [List.all_append, srt_pr hl, hm]
  rfl
theorem pr_alike {a b : D} (h : isPr a = true) (h' : isPr b = true) : PySem.W.alike a b = true := by
  match a, h, b, h' with
  | .tuple [.str _, .str _], _, .tuple [.str _, .str _], _ => simp [PySem.W.alike, PySem.W.alikeAll]
theorem pr_plain {a : D} (h : isPr a = true) : a.plain = true ∧ a.depth = 1 := by
  match a, h with
  | .tuple [.str _, .str _], _ => exact ⟨by simp [PyData.plain, PyData.plainAll], by simp [PyData.depth, PyData.depthAll]⟩
theorem prs_plain : ∀ {l : List D}, l.all isPr = true → PyData.plainAll l = true ∧ PyData.depthAll l ≤ 1
  | [], _ => ⟨by simp [PyData.plainAll], by simp [PyData.depthAll]⟩
  | x :: l, h => by
    rw [List.all_cons, Bool.and_eq_true] at h
    obtain ⟨h1, h2⟩ := prs_plain h.2
    obtain ⟨h3, h4⟩ := pr_plain h.1
    exact ⟨by simp [PyData.plainAll, h1, h3], by simp only [PyData.depthAll, h4]; omega⟩
theorem pl_prs {l : List D} (h : l.all isPr = true) : plainD (.list l) = true := by
  obtain ⟨h1, h2⟩ := prs_plain h
  unfold plainD
  rw [show (PyData.list l).plain = true by rw [PyData.plain]; exact h1, show (PyData.list l).depth = PyData.depthAll l + 1 by rw [PyData.depth], Bool.true_and, decide_eq_true_eq]
  omega
theorem pr_pl {a : D} (h : isPr a = true) : plainD a = true := by
  obtain ⟨h1, h2⟩ := pr_plain h
  unfold plainD
  simp only [h1, h2, Bool.true_and, decide_eq_true_eq]
  omega
theorem sort_ok {l : List D} (h : l.all isPr = true) (hl : l.length ≤ lim) : sortOk l = true := by
  have h' := List.all_eq_true.mp h
  unfold sortOk
  rw [Bool.and_eq_true, Bool.and_eq_true, Bool.and_eq_true]
  refine ⟨⟨⟨?_, ?_⟩, ?_⟩, decide_eq_true hl⟩
  · exact List.all_eq_true.mpr fun a ha => List.all_eq_true.mpr fun b hb => pr_alike (h' a ha) (h' b hb)
  · rw [Bool.or_eq_true]
    refine .inl (List.all_eq_true.mpr fun a ha => ?_)
    have := h' a ha
    match a, this with
    | .tuple [.str _, .str _], _ => rfl
  · exact List.all_eq_true.mpr fun a ha => pr_pl (h' a ha)
theorem d_srt {l : List D} (h : l.all isPr = true) (hl : l.length ≤ lim) : fSorted [.list l] = some (.list (srt l)) := if_pos (sort_ok h hl)
theorem ne_self {a : D} (h : plainD a = true) : fNe [a, a] = some (.bool false) := by
  have h1 : a.plain = true := (Bool.and_eq_true _ _ ▸ h : _ ∧ _).1
  unfold fNe
  simp only [h, Bool.and_self, if_true, PySem.SeqAt.eqv_refl_plain a h1, Bool.not_true]
/-! ### unlike names -/
theorem any_take {xs : List Str} {i : Nat} : (xs.take i).any (· == xs.getD i Str.empty) = decide (xs.getD i Str.empty ∈ xs.take i) := by
  rw [Bool.eq_iff_iff, List.any_eq_true, decide_eq_true_iff]
  constructor
  · rintro ⟨x, hx, e⟩
    rw [← eq_of_beq e]
    exact hx
  · exact fun h => ⟨_, h, beq_self_eq_true _⟩
theorem cnt_le (xs : List Str) : ∀ i, cntS xs i ≤ i
  | 0 => Nat.le_refl _
  | i + 1 => by
    rw [cntS]
    have := cnt_le xs i
    split <;> omega
theorem cnt_iff (xs : List Str) : ∀ i, i ≤ xs.length → (cntS xs i = i ↔ (xs.take i).Nodup)
  | 0, _ => by simp [cntS]
  | i + 1, h => by
    have ih := cnt_iff xs i (by omega)
    have le := cnt_le xs i
    have hi : i < xs.length := by omega
    have e : xs.take (i + 1) = xs.take i ++ [xs.getD i Str.empty] := by
      rw [List.take_succ, List.getElem?_eq_getElem hi]
      simp [List.getD, List.getElem?_eq_getElem hi]
    rw [cntS, any_take, e, List.nodup_append]
    by_cases hm : xs.getD i Str.empty ∈ xs.take i
    · rw [if_pos (decide_eq_true hm)]
      constructor
      · intro h; omega
      · rintro ⟨_, _, h3⟩
        exact (h3 _ hm _ (List.mem_singleton.mpr rfl) rfl).elim
    · rw [if_neg (by simpa using hm)]
      constructor
      · intro h
        refine ⟨ih.mp (by omega), by simp, fun a ha b hb => ?_⟩
        rw [List.mem_singleton.mp hb]
        exact fun e => hm (e ▸ ha)
      · rintro ⟨h1, _, _⟩
        rw [ih.mpr h1]
theorem strs_map : ∀ {xs : List D} {ts : List Str}, strs? xs = some ts → xs = ts.map .str
  | [], ts, h => by cases h; rfl
  | x :: xs, ts, h => by
    cases x with
    | str z =>
      rw [strs?] at h
      cases e : strs? xs with
      | none => rw [e] at h; cases h
      | some r =>
        rw [e] at h
        cases h
        rw [strs_map e]
        rfl
    | _ => cases h
theorem diff_nodup {xs : List D} (h : diffS xs = true) : xs.Nodup := by
  unfold diffS at h
  cases e : strs? xs with
  | none => rw [e] at h; cases h
  | some ts =>
    rw [e] at h
    have h2 := (cnt_iff ts ts.length (Nat.le_refl _)).mp (eq_of_beq h)
    rw [List.take_length] at h2
    rw [strs_map e]
    rw [List.nodup_iff_pairwise_ne] at h2 ⊢
    exact List.Pairwise.map _ (fun a b hab he => hab (by injection he)) h2
theorem nodup_diff {xs : List D} (hn : xs.all isNm = true) (h : xs.Nodup) : diffS xs = true := by
  obtain ⟨ts, e, _⟩ := strs_nm hn
  unfold diffS
  rw [e]
  have e2 := strs_map e
  subst e2
  have h2 : ts.Nodup := by
    rw [List.nodup_iff_pairwise_ne] at h ⊢
    rw [List.pairwise_map] at h
    exact h.imp fun hab he => hab (congrArg _ he)
  have := (cnt_iff ts ts.length (Nat.le_refl _)).mpr (by rw [List.take_length]; exact h2)
  exact beq_iff_eq.mpr this
theorem ind_nm {x : D} {gs : List D} (hx : isNm x = true) : inD x gs = true ↔ x ∈ gs := by
  cases x with
  | str z =>
    unfold inD
    rw [List.any_eq_true]
    constructor
    · rintro ⟨y, hy, e⟩
      cases y with
      | str w =>
        have : w = z := by simpa [PyData.eqv] using e
        rw [← this]; exact hy
      | _ => simp [PyData.eqv] at e
    · exact fun h => ⟨_, h, by simp [PyData.eqv]⟩
  | _ => cases hx
theorem or_iff {gs xs : List D} : isOr gs (.list xs) = true ↔ (xs.all isNm = true ∧ xs.Nodup ∧ ∀ x ∈ xs, x ∈ gs) := by
  unfold isOr
  rw [Bool.and_eq_true, Bool.and_eq_true]
  constructor
  · rintro ⟨h1, h2, h3⟩
    exact ⟨h1, diff_nodup h2, fun x hx => (ind_nm (List.all_eq_true.mp h1 x hx)).mp (List.all_eq_true.mp h3 x hx)⟩
  · rintro ⟨h1, h2, h3⟩
    exact ⟨h1, nodup_diff h1 h2, List.all_eq_true.mpr fun x hx => (ind_nm (List.all_eq_true.mp h1 x hx)).mpr (h3 x hx)⟩
/-! ### letters -/
theorem iran_map (f : D → D) (g : Nat → D) (h : ∀ i : Nat, f (.int i) = g i) : ∀ (n lo : Nat), (iran lo n).map f = (List.range' lo n).map g
  | 0, _ => rfl
  | n + 1, lo => by
    rw [iran, List.range'_succ, List.map_cons, List.map_cons, h, show ((lo : Int) + 1) = ((lo + 1 : Nat) : Int) from rfl, iran_map f g h n]
theorem letters_list : letters.cps.toList = (List.range 26).map (97 + ·) := by decide +kernel
theorem let_at {i : Nat} (h : i < 26) : fIdx [.str letters, .int i] = some (.str ⟨#[97 + i]⟩) := by
  show (if letters.length ≤ lim then (L2.atI letters.cps.toList i).map fun c => PyData.str ⟨#[c]⟩ else none) = _
  rw [if_pos (by decide +kernel), letters_list]
  have : L2.atI ((List.range 26).map (97 + ·)) (i : Int) = some (97 + i) := by
    unfold L2.atI L2.ixN
    rw [if_pos (by omega), if_pos (by simp; omega)]
    simp [h]
  rw [this]
  rfl
theorem let_mem {c : Nat} : c ∈ letters.cps.toList ↔ 97 ≤ c ∧ c < 123 := by
  rw [letters_list, List.mem_map]
  constructor
  · rintro ⟨a, ha, rfl⟩
    have := List.mem_range.mp ha
    omega
  · exact fun h => ⟨c - 97, List.mem_range.mpr (by omega), by omega⟩
/-- a letter, and two by a number -/
def nm3 (p i : Nat) : D := .str ⟨#[p, 97 + i / 26, 97 + i % 26]⟩
theorem nm3_nm {p i : Nat} (hp : 97 ≤ p ∧ p < 123) (hi : i < 676) : isNm (nm3 p i) = true := by
  show (decide (1 ≤ 3) && (decide (3 ≤ 8) && [p, 97 + i / 26, 97 + i % 26].all fun c => decide (c ∈ letters.cps.toList))) = true
  simp only [List.all_cons, List.all_nil, let_mem]
  have : 97 ≤ 97 + i / 26 ∧ 97 + i / 26 < 123 := by omega
  have : 97 ≤ 97 + i % 26 ∧ 97 + i % 26 < 123 := by omega
  simp [*]
theorem nm3_inj {p q i j : Nat} (h : nm3 p i = nm3 q j) : p = q ∧ i = j := by
  unfold nm3 at h
  have h1 : (⟨#[p, 97 + i / 26, 97 + i % 26]⟩ : Str) = ⟨#[q, 97 + j / 26, 97 + j % 26]⟩ := by injection h
  have h2 : #[p, 97 + i / 26, 97 + i % 26] = #[q, 97 + j / 26, 97 + j % 26] := by injection h1
  have h3 : [p, 97 + i / 26, 97 + i % 26] = [q, 97 + j / 26, 97 + j % 26] := by injection h2
  simp only [List.cons.injEq, and_true] at h3
  omega
def crowd (p n : Nat) : List D := (List.range' 0 n).map (nm3 p)
theorem crowd_len {p n : Nat} : (crowd p n).length = n := by simp [crowd]
theorem crowd_nm {p n : Nat} (hp : 97 ≤ p ∧ p < 123) (hn : n ≤ 676) : (crowd p n).all isNm = true := by
  rw [List.all_eq_true]
  intro x hx
  obtain ⟨i, hi, rfl⟩ := List.mem_map.mp hx
  have := List.mem_range'_1.mp hi
  exact nm3_nm hp (by omega)
theorem crowd_nodup {p n : Nat} : (crowd p n).Nodup := by
  rw [List.nodup_iff_pairwise_ne]
  refine List.Pairwise.map _ (fun a b hab he => hab (nm3_inj he).2) (List.nodup_iff_pairwise_ne.mp (List.nodup_range'))
theorem crowd_apart {p q n m : Nat} (h : p ≠ q) {x : D} (h1 : x ∈ crowd p n) (h2 : x ∈ crowd q m) : False := by
  obtain ⟨i, _, rfl⟩ := List.mem_map.mp h1
  obtain ⟨j, _, e⟩ := List.mem_map.mp h2
  exact h (nm3_inj e).1.symm
end EV
end
section
set_option Elab.async false
set_option linter.all false
set_option maxRecDepth 100000
set_option maxHeartbeats 4000000
set_option autoImplicit false
/-! EvZ: places told, names and orders drawn, wherever the defs stand -/
namespace EV
open PySem
theorem forLoop_ix {turn : D → Ste → Out} (I : Nat → Ste → Prop) : ∀ (xs : List D) (i : Nat) (s : Ste), (∀ (j : Nat) (x : D) (s : Ste), xs[j]? = some x → I (i + j) s → ∃ s', turn x s = .nx s' ∧ I (i + j + 1) s') → I i s → ∃ s', forLoop turn xs s = .nx s' ∧ I (i + xs.length) s'
  | [], i, s, _, h => ⟨s, rfl, h⟩
  | x :: xs, i, s, t, h => by
    obtain ⟨s1, e1, h1⟩ := t 0 x s rfl h
    obtain ⟨s2, e2, h2⟩ := forLoop_ix I xs (i + 1) s1 (fun j y s hy hs => by
      have := t (j + 1) y s hy (by rw [show i + (j + 1) = i + 1 + j by omega]; exact hs)
      rw [show i + (j + 1) + 1 = i + 1 + j + 1 by omega] at this
      exact this) h1
    refine ⟨s2, by rw [forLoop, e1]; exact e2, ?_⟩
    rw [List.length_cons, show i + (xs.length + 1) = i + 1 + xs.length by omega]
    exact h2
theorem perm_erase : ∀ (L : List D) (r : Nat) (h : r < L.length), (L[r] :: L.eraseIdx r).Perm L
  | [], _, h => absurd h (Nat.not_lt_zero _)
  | x :: L, 0, _ => List.Perm.refl _
  | x :: L, r + 1, h => by
    rw [List.getElem_cons_succ, List.eraseIdx_cons_succ]
    exact (List.Perm.swap _ _ _).trans (List.Perm.cons _ (perm_erase L r (by simpa using h)))
theorem pop_loop {turn : D → Ste → Res (Option D)} {st : List D → D → Ste} (ht : ∀ (x : D) (L : List D) (n : Nat) (d : D), 0 < L.length → L.length ≤ 1000 → n < 2 ^ 58 → PotOk n d → ∃ (r : Nat) (h : r < L.length) (d' : D), PotOk (n + 1) d' ∧ turn x (st L d) = .ok (some L[r]) (st (L.eraseIdx r) d')) :
    ∀ (xs acc L : List D) (n : Nat) (d : D), xs.length ≤ L.length → L.length ≤ 1000 → n + xs.length < 2 ^ 58 → PotOk n d →
    ∃ ys L' d', ys.length = xs.length ∧ (ys ++ L').Perm L ∧ PotOk (n + xs.length) d' ∧ lcLoop turn xs acc (st L d) = .ok (acc ++ ys) (st L' d')
  | [], acc, L, n, d, _, _, _, ho => ⟨[], L, d, rfl, List.Perm.refl _, ho, by simp [lcLoop]⟩
  | x :: xs, acc, L, n, d, h1, h2, h3, ho => by
    rw [List.length_cons] at h1 h3
    obtain ⟨r, hr, d1, o1, e1⟩ := ht x L n d (by omega) h2 (by omega) ho
    have hl := List.length_eraseIdx_of_lt hr
    obtain ⟨ys, L', d2, y1, y2, y3, y4⟩ := pop_loop ht xs (acc ++ [L[r]]) (L.eraseIdx r) (n + 1) d1 (by omega) (by omega) (by omega) o1
    refine ⟨L[r] :: ys, L', d2, by simp [y1], ?_, by rw [List.length_cons, show n + (xs.length + 1) = n + 1 + xs.length by omega]; exact y3, ?_⟩
    · rw [List.cons_append]
      exact (List.Perm.cons _ y2).trans (perm_erase L r hr)
    · rw [lcLoop, e1]
      show lcLoop turn xs (acc ++ [L[r]]) _ = _
      rw [y4]
      simp
section
variable {fs : List FunI} {consts : List D} {k j : Nat}
theorem pop_turn {sc : Nat} (hsc : fs[sc]? = some ⟨4, 2, bScoop⟩) {L : List D} {n : Nat} {d : D} (h0 : 0 < L.length) (h1 : L.length ≤ 1000) (hn : n < 2 ^ 58) (ho : PotOk n d) :
    ∃ (r : Int) (d' : D), 0 ≤ r ∧ r < 4611686018427387904 ∧ r.toNat < L.length ∧ PotOk (n + 1) d' ∧ callF fs consts (k + 1) sc [.r 0, .d (.int (L.length : Int))] [d] = .ok (.d (.int r)) [d'] := by
  obtain ⟨r, d', r0, r1, ho', e⟩ := scoop_call (k := k) (consts := consts) (p := 0) (hp := [d]) (m := (L.length : Int)) hsc rfl ho (by omega) (by omega) (by omega)
  exact ⟨r, d', r0, by omega, by omega, ho', e⟩
def bDrawn (sc : Nat) : CSs := (ss [
  (.setO 3 (.op .ofList (cs [(.peek 1)]))),
  (.ret (.lc [4] (.nm 4) (.rng (cs [(.op .min2 (cs [(.op .len (cs [(.peek 3)])), (.call sc (cs [(.var 0), (.op .add (cs [(.peek 2), (.kst (.int 1))]))]))]))])) (cs []) (.mut 3 .popAt (cs [(.call sc (cs [(.var 0), (.op .len (cs [(.peek 3)]))]))]))))])
theorem drawn_turn {sc : Nat} (hsc : fs[sc]? = some ⟨4, 2, bScoop⟩) {a b : Vl} (x : D) (L : List D) (n : Nat) (d : D) (a1 : 0 < L.length) (a2 : L.length ≤ 1000) (a3 : n < 2 ^ 58) (a4 : PotOk n d) :
    ∃ (r : Nat) (h : r < L.length) (d' : D), PotOk (n + 1) d' ∧ lcTurn ⟨consts, callF fs consts (k + 1)⟩ [4] (.nm 4) .nil (.mut 3 .popAt (.cons (.call sc (.cons (.var 0) (.cons (.op .len (.cons (.peek 3) .nil)) .nil))) .nil)) x ⟨[.v (.r 0), .v a, .v b, .own (.list L), .non], [d]⟩ = .ok (some L[r]) ⟨[.v (.r 0), .v a, .v b, .own (.list (L.eraseIdx r)), .non], [d']⟩ := by
  obtain ⟨r, d', r0, r2, hr, o', e⟩ := pop_turn (k := k) (consts := consts) hsc a1 a2 a3 a4
  exact ⟨r.toNat, hr, d', o', by simp [lcTurn, Ste.cell, cellOk, e, Mu.fn, mPopAt, r0, r2, hr]⟩
theorem names_turn {sc : Nat} (hsc : fs[sc]? = some ⟨4, 2, bScoop⟩) {a b : Vl} (x : D) (L : List D) (n : Nat) (d : D) (a1 : 0 < L.length) (a2 : L.length ≤ 1000) (a3 : n < 2 ^ 58) (a4 : PotOk n d) :
    ∃ (r : Nat) (h : r < L.length) (d' : D), PotOk (n + 1) d' ∧ lcTurn ⟨consts, callF fs consts (k + 1)⟩ [4] (.nm 4) .nil (.mut 2 .popAt (.cons (.call sc (.cons (.var 0) (.cons (.op .len (.cons (.peek 2) .nil)) .nil))) .nil)) x ⟨[.v (.r 0), .v a, .own (.list L), .v b, .non], [d]⟩ = .ok (some L[r]) ⟨[.v (.r 0), .v a, .own (.list (L.eraseIdx r)), .v b, .non], [d']⟩ := by
  obtain ⟨r, d', r0, r2, hr, o', e⟩ := pop_turn (k := k) (consts := consts) hsc a1 a2 a3 a4
  exact ⟨r.toNat, hr, d', o', by simp [lcTurn, Ste.cell, cellOk, e, Mu.fn, mPopAt, r0, r2, hr]⟩
theorem drawn_call {sc : Nat} (hj : fs[j]? = some ⟨5, 3, bDrawn sc⟩) (hsc : fs[sc]? = some ⟨4, 2, bScoop⟩) {G : List D} {most : Int} {n : Nat} {d : D} (hG : G.length ≤ 1000) (h0 : 0 ≤ most) (h1 : most < 2 ^ 29) (hn : n < 2 ^ 57) (ho : PotOk n d) :
    ∃ ys L' d', (ys ++ L').Perm G ∧ (ys.length : Int) ≤ most ∧ PotOk (n + 1001) d' ∧ callF fs consts (k + 2) j [.r 0, .d (.list G), .d (.int most)] [d] = .ok (.d (.list ys)) [d'] := by
  obtain ⟨r, d1, r0, r1, o1, e⟩ := scoop_call (k := k) (consts := consts) (p := 0) (hp := [d]) (m := most + 1) hsc rfl ho (by omega) (by omega) (by omega)
  have e' : callF fs consts (k + 1) sc [.r 0, .d (.int (most + 1))] [d] = .ok (.d (.int r)) [d1] := e
  obtain ⟨c, hc, hr⟩ : ∃ c : Nat, (c ≤ G.length ∧ (c : Int) ≤ most) ∧ rngItems [.int (if r < (G.length : Int) then r else (G.length : Int))] = some (iran 0 c) := by
    by_cases h : r < (G.length : Int)
    · refine ⟨r.toNat, by omega, ?_⟩
      rw [if_pos h, rng_one (by omega)]
    · refine ⟨G.length, by omega, ?_⟩
      rw [if_neg h, rng_one (by omega)]
      rfl
  obtain ⟨ys, L', d2, y1, y2, y3, y4⟩ := pop_loop (turn := lcTurn ⟨consts, callF fs consts (k + 1)⟩ [4] (.nm 4) .nil (.mut 3 .popAt (.cons (.call sc (.cons (.var 0) (.cons (.op .len (.cons (.peek 3) .nil)) .nil))) .nil)))
    (st := fun L d => ⟨[.v (.r 0), .v (.d (.list G)), .v (.d (.int most)), .own (.list L), .non], [d]⟩) (drawn_turn hsc) (iran 0 c) [] G (n + 1) d1 (by rw [iran_len]; omega) hG (by rw [iran_len]; omega) o1
  rw [iran_len] at y1 y3
  have q : ys.length ≤ lim := lim_ge (by omega)
  have q2 : ys.length ≤ 1000000 := q
  refine ⟨ys, L', d2, y2, by omega, y3.mono (by omega), ?_⟩
  rw [callF, hj]
  simp [noPk, bDrawn, e', hr, y4, q]
def base : List D := [.str "in", .str "out", .str "clear", .str "barred", .str "open", .str "heard", .str "chair", .str "back", .str "wishes", .str "house", .str "guest", .str "wish", .str "a", .str "an", .str "ann", .str "anna", .str "bo", .str "zzzzzzzz", .str "z", .str "eightlet"]
theorem base_diff : diffS base = true := by decide +kernel
theorem base_nm : base.all isNm = true := by decide +kernel
def bNames (sc : Nat) : CSs := (ss [
  (.setO 2 (.lst (cs [(.kst (.str "in")), (.kst (.str "out")), (.kst (.str "clear")), (.kst (.str "barred")), (.kst (.str "open")), (.kst (.str "heard")), (.kst (.str "chair")), (.kst (.str "back")), (.kst (.str "wishes")), (.kst (.str "house")), (.kst (.str "guest")), (.kst (.str "wish")), (.kst (.str "a"))]))),
  (.setO 2 (.op .add (cs [(.peek 2), (.lst (cs [(.kst (.str "an")), (.kst (.str "ann")), (.kst (.str "anna")), (.kst (.str "bo")), (.kst (.str "zzzzzzzz")), (.kst (.str "z")), (.kst (.str "eightlet"))]))]))),
  (.set 3 (.kst (.str "abcdefghijklmnopqrstuvwxyz"))),
  (.setO 2 (.op .add (cs [(.peek 2), (.lc [4] (.nm 4) (.rng (cs [(.op .max2 (cs [(.kst (.int 0)), (.op .sub (cs [(.peek 1), (.kst (.int 20))]))]))])) (cs []) (.op .add (cs [(.op .add (cs [(.op .idx (cs [(.peek 3), (.op .fdiv (cs [(.peek 4), (.kst (.int 26))]))])), (.kst (.str "q"))])), (.op .idx (cs [(.peek 3), (.op .mod (cs [(.peek 4), (.kst (.int 26))]))]))])))]))),
  (.ret (.lc [4] (.nm 4) (.rng (cs [(.peek 1)])) (cs []) (.mut 2 .popAt (cs [(.call sc (cs [(.var 0), (.op .len (cs [(.peek 2)]))]))]))))])
theorem names_call {sc : Nat} (hj : fs[j]? = some ⟨5, 2, bNames sc⟩) (hsc : fs[sc]? = some ⟨4, 2, bScoop⟩) {m : Int} {n : Nat} {d : D} (h0 : 0 ≤ m) (hm : m ≤ 20) (hn : n < 2 ^ 57) (ho : PotOk n d) :
    ∃ ys d', (ys.length : Int) = m ∧ ys.all isNm = true ∧ ys.Nodup ∧ (∀ y ∈ ys, y ∈ base) ∧ PotOk (n + 20) d' ∧ callF fs consts (k + 2) j [.r 0, .d (.int m)] [d] = .ok (.d (.list ys)) [d'] := by
  obtain ⟨ys, L', d2, y1, y2, y3, y4⟩ := pop_loop (turn := lcTurn ⟨consts, callF fs consts (k + 1)⟩ [4] (.nm 4) .nil (.mut 2 .popAt (.cons (.call sc (.cons (.var 0) (.cons (.op .len (.cons (.peek 2) .nil)) .nil))) .nil)))
    (st := fun L d => ⟨[.v (.r 0), .v (.d (.int m)), .own (.list L), .v (.d (.str letters)), .non], [d]⟩) (names_turn hsc) (iran 0 m.toNat) [] base n d (by rw [iran_len]; show m.toNat ≤ 20; omega) (by decide) (by rw [iran_len]; omega) ho
  rw [iran_len] at y1 y3
  have bn := List.all_eq_true.mp base_nm
  have nd : (ys ++ L').Nodup := y2.nodup_iff.mpr (diff_nodup base_diff)
  have q : ys.length ≤ lim := lim_ge (by omega)
  have q2 : ys.length ≤ 1000000 := q
  refine ⟨ys, d2, by omega, List.all_eq_true.mpr fun y hy => bn y (y2.mem_iff.mp (List.mem_append_left _ hy)), (List.nodup_append.mp nd).1, fun y hy => y2.mem_iff.mp (List.mem_append_left _ hy), y3.mono (by omega), ?_⟩
  have hm1 : ¬ (m - 20 > 0) := by omega
  have hm2 : ¬ (20 < m) := by omega
  have rg := rng_one (n := m) ⟨by omega, by omega⟩
  have rg0 := rng_one (n := 0) ⟨by omega, by omega⟩
  rw [callF, hj]
  simp only [letters, base] at y4
  simp [noPk, bNames, lim, fAdd, hm1, hm2, rg, rg0, iran, lcLoop, y4, q2]
/-! ### places -/
def bNeed (wd e : Nat) : CSs := (ss [
  (.ite (.not (.call wd (cs [(.var 0)]))) (ss [
    (.raise e)]) (ss []))])
theorem need_ok {wd e : Nat} {x : D} {hp : List D} (hj : fs[j]? = some ⟨1, 1, bNeed wd e⟩) (hw : callF fs consts k wd [.d x] hp = .ok (.d (.bool true)) hp) : callF fs consts (k + 1) j [.d x] hp = .ok (.d .none) hp := by
  rw [callF, hj]
  simp [noPk, bNeed, hw]
theorem need_er {wd e : Nat} {x : D} {hp : List D} (hj : fs[j]? = some ⟨1, 1, bNeed wd e⟩) (hw : callF fs consts k wd [.d x] hp = .ok (.d (.bool false)) hp) : callF fs consts (k + 1) j [.d x] hp = .er e hp := by
  rw [callF, hj]
  simp [noPk, bNeed, hw]
def bPlaces (nw : Nat) : CSs := (ss [
  (.expr (.call nw (cs [(.var 0)]))),
  (.setT [(.nm 1), (.nm 2)] (.var 0)),
  (.setO 3 (.lc [4, 5] (.tp [(.nm 4), (.nm 5)]) (.slot 2) (cs []) (.tup (cs [(.var 4), (.var 4)])))),
  (.for (.tp [(.nm 4), (.nm 6), (.nm 7)]) (.slot 1) (ss [
    (.expr (.extF 3 (.lc [8] (.nm 8) (.slot 7) (cs []) (.tup (cs [(.var 4), (.var 8)])))))])),
  (.ret (.op .sorted (cs [(.peek 3)])))])
def dup (x : D) : D := .tuple [x, x]
def rowP : D → List D
  | .tuple [a, _, .list c] => c.map fun y => .tuple [a, y]
  | _ => []
def plcs (hs gs : List D) : List D := gs.map (fun g => dup (fst1 g)) ++ (hs.map rowP).flatten
theorem nm_str {x : D} (h : isNm x = true) : ∃ z, x = .str z := by
  cases x with
  | str z => exact ⟨z, rfl⟩
  | _ => cases h
theorem hr_form {gs : List D} {x : D} (h : isHr gs x = true) : ∃ a b c, x = .tuple [a, .int b, .list c] ∧ isNm a = true ∧ 0 ≤ b ∧ isOr gs (.list c) = true := by
  obtain ⟨a, b, c, rfl, ha⟩ := hr_at h
  rw [isHr, Bool.and_eq_true, Bool.and_eq_true] at h
  obtain ⟨_, h2, h3⟩ := h
  cases b with
  | int b =>
    cases c with
    | list c => exact ⟨a, b, c, rfl, ha, by simpa [isCt] using h2, h3⟩
    | _ => cases h3
  | _ => cases h2
theorem dup_pr {x : D} (h : isNm x = true) : isPr (dup x) = true := by
  obtain ⟨z, rfl⟩ := nm_str h
  rfl
theorem row_pr {gs : List D} {x : D} (h : isHr gs x = true) : (rowP x).all isPr = true := by
  obtain ⟨a, b, c, rfl, ha, _, ho⟩ := hr_form h
  obtain ⟨z, rfl⟩ := nm_str ha
  obtain ⟨h1, _, _⟩ := or_iff.mp ho
  rw [List.all_eq_true] at h1 ⊢
  intro y hy
  obtain ⟨w, hw, rfl⟩ := List.mem_map.mp hy
  obtain ⟨u, rfl⟩ := nm_str (h1 w hw)
  rfl
theorem flat_pr {ns hs : List D} (h : hs.all (isHr ns) = true) : (hs.map rowP).flatten.all isPr = true := by
  rw [List.all_eq_true] at h ⊢
  intro y hy
  obtain ⟨l, hl, hy⟩ := List.mem_flatten.mp hy
  obtain ⟨x, hx, rfl⟩ := List.mem_map.mp hl
  exact List.all_eq_true.mp (row_pr (h x hx)) y hy
theorem dups_pr {gs : List D} (h : gs.all isGr = true) : (gs.map fun g => dup (fst1 g)).all isPr = true := by
  have h2 := List.all_eq_true.mp (nms_plain h).2
  rw [List.all_eq_true]
  intro y hy
  obtain ⟨x, hx, rfl⟩ := List.mem_map.mp hy
  exact dup_pr (h2 _ (List.mem_map.mpr ⟨x, hx, rfl⟩))
theorem plcs_pr {ns hs gs : List D} (h : hs.all (isHr ns) = true) (h2 : gs.all isGr = true) : (plcs hs gs).all isPr = true := by
  unfold plcs
  rw [List.all_append, dups_pr h2, flat_pr h]
  rfl
def Few (x : D) : Prop := ∀ a b c, x = .tuple [a, b, .list c] → c.length ≤ 1000
theorem row_few {x : D} (h : Few x) : (rowP x).length ≤ 1000 := by
  unfold rowP
  split
  · rw [List.length_map]
    exact h _ _ _ rfl
  · simp
theorem flat_few : ∀ {hs : List D}, (∀ x ∈ hs, Few x) → (hs.map rowP).flatten.length ≤ 1000 * hs.length
  | [], _ => by simp
  | x :: hs, h => by
    have h1 := row_few (h x List.mem_cons_self)
    have h2 := flat_few (hs := hs) fun y hy => h y (List.mem_cons_of_mem _ hy)
    simp only [List.map_cons, List.flatten_cons, List.length_append, List.length_cons]
    omega
theorem places_call {nw : Nat} {hs gs : List D} {hp : List D} (hj : fs[j]? = some ⟨9, 1, bPlaces nw⟩) (hn : callF fs consts k nw [.d (.tuple [.list hs, .list gs])] hp = .ok (.d .none) hp) (hw : isWd (.tuple [.list hs, .list gs]) = true) (fh : hs.length ≤ 900) (fg : gs.length ≤ 1000) (few : ∀ x ∈ hs, Few x) :
    callF fs consts (k + 1) j [.d (.tuple [.list hs, .list gs])] hp = .ok (.d (.list (srt (plcs hs gs)))) hp := by
  rw [isWd, Bool.and_eq_true, Bool.and_eq_true] at hw
  obtain ⟨hg, hh, _⟩ := hw
  have cg : gs.length ≤ lim := lim_ge fg
  have l1 : ∀ w, lcLoop (lcTurn ⟨consts, callF fs consts k⟩ [4, 5] (.tp [.nm 4, .nm 5]) .nil (.tup (.cons (.var 4) (.cons (.var 4) .nil)))) gs [] ⟨[.v (.d w), .v (.d (.list hs)), .v (.d (.list gs)), .non, .non, .non, .non, .non, .non], hp⟩ = .ok (gs.map fun g => dup (fst1 g)) ⟨[.v (.d w), .v (.d (.list hs)), .v (.d (.list gs)), .non, .non, .non, .non, .non, .non], hp⟩ := fun w => by
    rw [lcLoop_map (f := fun g => dup (fst1 g))]
    · simp
    · intro y hy
      obtain ⟨a, b, rfl, _⟩ := gr_at (List.all_eq_true.mp hg y hy)
      simp [lcTurn, fst1, dup, lim]
  have l2 : ∀ (w : D) (hs' acc : List D) (s4 s6 s7 : Slot), Slot.open (some s4) = true → Slot.open (some s6) = true → Slot.open (some s7) = true → (∀ x ∈ hs', isHr (gs.map fst1) x = true ∧ Few x) → acc.length + 1000 * hs'.length < lim →
      ∃ s4' s6' s7', forLoop (forTurn ⟨consts, callF fs consts k⟩ (.tp [.nm 4, .nm 6, .nm 7]) (.cons (.expr (.extF 3 (.lc [8] (.nm 8) (.slot 7) .nil (.tup (.cons (.var 4) (.cons (.var 8) .nil)))))) .nil)) hs' ⟨[.v (.d w), .v (.d (.list hs)), .v (.d (.list gs)), .own (.list acc), s4, .non, s6, s7, .non], hp⟩ =
        .nx ⟨[.v (.d w), .v (.d (.list hs)), .v (.d (.list gs)), .own (.list (acc ++ (hs'.map rowP).flatten)), s4', .non, s6', s7', .non], hp⟩ := by
    intro w hs'
    induction hs' with
    | nil => exact fun acc s4 s6 s7 _ _ _ _ _ => ⟨s4, s6, s7, by simp [forLoop]⟩
    | cons x hs' ih =>
      intro acc s4 s6 s7 o4 o6 o7 hx hl
      obtain ⟨h1, h2⟩ := hx x List.mem_cons_self
      obtain ⟨a, b, c, rfl, _, _, _⟩ := hr_form h1
      have hc := h2 _ _ _ rfl
      have cc : c.length ≤ lim := lim_ge hc
      rw [List.length_cons] at hl
      have e : lcLoop (lcTurn ⟨consts, callF fs consts k⟩ [8] (.nm 8) .nil (.tup (.cons (.var 4) (.cons (.var 8) .nil)))) c [] ⟨[.v (.d w), .v (.d (.list hs)), .v (.d (.list gs)), .own (.list acc), .v (.d a), .non, .v (.d (.int b)), .v (.d (.list c)), .non], hp⟩ =
          .ok (c.map fun y => .tuple [a, y]) ⟨[.v (.d w), .v (.d (.list hs)), .v (.d (.list gs)), .own (.list acc), .v (.d a), .non, .v (.d (.int b)), .v (.d (.list c)), .non], hp⟩ := by
        rw [lcLoop_map (f := fun y => .tuple [a, y])]
        · simp
        · intro y hy
          simp [lcTurn, lim]
      have hlen : acc.length + c.length < lim := by omega
      obtain ⟨t4, t6, t7, q⟩ := ih (acc ++ c.map fun y => .tuple [a, y]) (.v (.d a)) (.v (.d (.int b))) (.v (.d (.list c))) rfl rfl rfl (fun y hy => hx y (List.mem_cons_of_mem _ hy)) (by rw [List.length_append, List.length_map]; omega)
      refine ⟨t4, t6, t7, ?_⟩
      rw [forLoop]
      have et : forTurn ⟨consts, callF fs consts k⟩ (.tp [.nm 4, .nm 6, .nm 7]) (.cons (.expr (.extF 3 (.lc [8] (.nm 8) (.slot 7) .nil (.tup (.cons (.var 4) (.cons (.var 8) .nil)))))) .nil) (.tuple [a, .int b, .list c]) ⟨[.v (.d w), .v (.d (.list hs)), .v (.d (.list gs)), .own (.list acc), s4, .non, s6, s7, .non], hp⟩ =
          .nx ⟨[.v (.d w), .v (.d (.list hs)), .v (.d (.list gs)), .own (.list (acc ++ c.map fun y => .tuple [a, y])), .v (.d a), .non, .v (.d (.int b)), .v (.d (.list c)), .non], hp⟩ := by
        simp [-bi_nm, bi_open, forTurn, o4, o6, o7, e, cc, hlen, Ste.cell, cellOk]
      rw [et]
      simp only []
      rw [q]
      simp [rowP]
  have tot : (plcs hs gs).length ≤ lim := by
    have := flat_few few
    unfold plcs
    rw [List.length_append, List.length_map]
    unfold lim
    omega
  have so := d_srt (plcs_pr hh hg) tot
  unfold plcs at so
  obtain ⟨s4, s6, s7, q⟩ := l2 (.tuple [.list hs, .list gs]) hs (gs.map fun g => dup (fst1 g)) .non .non .non rfl rfl rfl (fun x hx => ⟨List.all_eq_true.mp hh x hx, few x hx⟩) (by rw [List.length_map]; unfold lim; omega)
  rw [callF, hj]
  simp [noPk, bPlaces, hn, l1, cg, q, so, plcs]
end
end EV
end
section
set_option Elab.async false
set_option linter.all false
set_option maxRecDepth 100000
set_option maxHeartbeats 4000000
set_option autoImplicit false
/-! EvZ1: loops with draws, worlds, cuts: plain facts for the laws of worlds -/
namespace EV
open PySem
inductive Ea (R : D → D → Prop) : List D → List D → Prop
  | nil : Ea R [] []
  | cons {x y : D} {xs ys : List D} : R x y → Ea R xs ys → Ea R (x :: xs) (y :: ys)
theorem lcLoop_ex {turn : D → Ste → Res (Option D)} {st : D → Ste} {R : D → D → Prop} {c : Nat} : ∀ (xs acc : List D) (n : Nat) (d : D), (∀ (x : D) (n : Nat) (d : D), x ∈ xs → n < 2 ^ 57 → PotOk n d → ∃ y d', R x y ∧ PotOk (n + c) d' ∧ turn x (st d) = .ok (some y) (st d')) → n + c * xs.length < 2 ^ 57 → PotOk n d →
    ∃ ys d', Ea R xs ys ∧ PotOk (n + c * xs.length) d' ∧ lcLoop turn xs acc (st d) = .ok (acc ++ ys) (st d')
  | [], acc, n, d, _, _, ho => ⟨[], d, .nil, ho, by simp [lcLoop]⟩
  | x :: xs, acc, n, d, ht, hn, ho => by
    have q : n + c * (x :: xs).length = n + c + c * xs.length := by rw [List.length_cons, Nat.mul_add]; omega
    rw [q] at hn
    obtain ⟨y, d1, r1, o1, e1⟩ := ht x n d List.mem_cons_self (by omega) ho
    obtain ⟨ys, d2, r2, o2, e2⟩ := lcLoop_ex xs (acc ++ [y]) (n + c) d1 (fun z m e hz => ht z m e (List.mem_cons_of_mem _ hz)) hn o1
    refine ⟨y :: ys, d2, .cons r1 r2, by rw [q]; exact o2, ?_⟩
    rw [lcLoop, e1]
    show lcLoop turn xs (acc ++ [y]) _ = _
    rw [e2]
    simp
theorem Ea.len {R : D → D → Prop} {xs ys : List D} (h : Ea R xs ys) : ys.length = xs.length := by
  induction h with
  | nil => rfl
  | cons _ _ ih => simp [ih]
theorem Ea.all {R : D → D → Prop} {p : D → Prop} {xs ys : List D} (h : Ea R xs ys) (hp : ∀ x ∈ xs, ∀ y, R x y → p y) : ∀ y ∈ ys, p y := by
  induction h with
  | nil => intro y hy; cases hy
  | cons r _ ih =>
    intro y hy
    rcases List.mem_cons.mp hy with rfl | hy
    · exact hp _ List.mem_cons_self _ r
    · exact ih (fun x hx => hp x (List.mem_cons_of_mem _ hx)) y hy
theorem Ea.map {R : D → D → Prop} {f : D → D} {xs ys : List D} (h : Ea R xs ys) (hp : ∀ x y, R x y → f y = x) : ys.map f = xs := by
  induction h with
  | nil => rfl
  | cons r _ ih => rw [List.map_cons, hp _ _ r, ih]
theorem iran_mem : ∀ {n : Nat} {lo : Int} {x : D}, x ∈ iran lo n → ∃ i : Nat, x = .int (lo + i) ∧ i < n
  | 0, _, _, h => by cases h
  | n + 1, lo, x, h => by
    rw [iran] at h
    rcases List.mem_cons.mp h with rfl | h
    · exact ⟨0, by simp, by omega⟩
    · obtain ⟨i, rfl, hi⟩ := iran_mem h
      exact ⟨i + 1, by congr 1; omega, by omega⟩
theorem rng_lt {n : Int} (h0 : 0 ≤ n) (h : n < 100000) : rngItems [.int n] = some (iran 0 n.toNat) := rng_one ⟨by omega, by omega⟩
/-! ### worlds -/
def wld (hs gs : List D) : D := .tuple [.list hs, .list gs]
def GSm (x : D) : Prop := ∀ xs, x = .tuple xs → ∀ y ∈ xs, Sm y
def HSm (x : D) : Prop := ∀ a b c, x = .tuple [a, b, c] → Sm a ∧ ∀ xs, c = .list xs → xs.length ≤ 1000 ∧ ∀ y ∈ xs, Sm y
structure Wok (hs gs : List D) : Prop where
  fh : hs.length ≤ 900
  fg : gs.length ≤ 1000
  sg : ∀ x ∈ gs, GSm x
  sh : ∀ x ∈ hs, HSm x
theorem HSm.few {x : D} (h : HSm x) : Few x := fun a b c e => ((h a b (.list c) e).2 c rfl).1
theorem Wok.few {hs gs : List D} (w : Wok hs gs) : ∀ x ∈ hs, Few x := fun x hx => (w.sh x hx).few
theorem nm_sm {x : D} (h : isNm x = true) : Sm x := by
  obtain ⟨z, rfl⟩ := nm_str h
  show z.length ≤ 1000
  have h2 : (decide (1 ≤ z.length) && (decide (z.length ≤ 8) && z.cps.toList.all fun c => decide (c ∈ letters.cps.toList))) = true := h
  simp only [Bool.and_eq_true, decide_eq_true_eq] at h2
  omega
theorem gr_sm {x : D} (h : isGr x = true) : GSm x := by
  intro xs e y hy
  subst e
  match xs, h, hy with
  | [a, b], h, hy =>
    rw [isGr, Bool.and_eq_true] at h
    rcases List.mem_cons.mp hy with rfl | hy
    · exact nm_sm h.1
    · rw [List.mem_singleton.mp hy]
      cases b <;> first | trivial | (exact absurd h.2 (by simp [isB]))
theorem wd_iff {hs gs : List D} : isWd (wld hs gs) = true ↔ gs.all isGr = true ∧ hs.all (isHr (gs.map fst1)) = true ∧ (gs.map fst1 ++ hs.map fst1).Nodup := by
  unfold wld
  rw [isWd, Bool.and_eq_true, Bool.and_eq_true]
  constructor
  · exact fun ⟨h1, h2, h3⟩ => ⟨h1, h2, diff_nodup h3⟩
  · refine fun ⟨h1, h2, h3⟩ => ⟨h1, h2, nodup_diff ?_ h3⟩
    rw [List.all_append, (nms_plain h1).2, Bool.true_and, List.all_eq_true]
    intro y hy
    obtain ⟨x, hx, rfl⟩ := List.mem_map.mp hy
    obtain ⟨a, b, c, rfl, ha⟩ := hr_at (List.all_eq_true.mp h2 x hx)
    exact ha
theorem hr_congr {g1 g2 : List D} (h : ∀ x, x ∈ g1 → x ∈ g2) {x : D} (hx : isHr g1 x = true) : isHr g2 x = true := by
  obtain ⟨a, b, c, rfl, ha, hb, ho⟩ := hr_form hx
  obtain ⟨h1, h2, h3⟩ := or_iff.mp ho
  rw [isHr, ha, or_iff.mpr ⟨h1, h2, fun y hy => h y (h3 y hy)⟩]
  simp [isCt, hb]
theorem Wok.rev {hs gs : List D} (w : Wok hs gs) : Wok hs.reverse gs.reverse := ⟨by rw [List.length_reverse]; exact w.fh, by rw [List.length_reverse]; exact w.fg, fun x hx => w.sg x (List.mem_reverse.mp hx), fun x hx => w.sh x (List.mem_reverse.mp hx)⟩
theorem wd_rev {hs gs : List D} (h : isWd (wld hs gs) = true) : isWd (wld hs.reverse gs.reverse) = true := by
  obtain ⟨h1, h2, h3⟩ := wd_iff.mp h
  refine wd_iff.mpr ⟨by rw [List.all_reverse]; exact h1, ?_, ?_⟩
  · rw [List.all_reverse, List.all_eq_true]
    intro x hx
    refine hr_congr (fun y hy => ?_) (List.all_eq_true.mp h2 x hx)
    rw [List.map_reverse]
    exact List.mem_reverse.mpr hy
  · rw [List.map_reverse, List.map_reverse]
    exact (((List.reverse_perm _).append (List.reverse_perm _)).nodup_iff).mpr h3
theorem plcs_rev {hs gs : List D} : (plcs hs.reverse gs.reverse).Perm (plcs hs gs) := by
  unfold plcs
  rw [List.map_reverse, List.map_reverse]
  refine (List.reverse_perm _).append ?_
  exact List.Perm.flatten (List.reverse_perm _)
def Bad (x : D) : Prop := ∃ hs gs, x = wld hs gs ∧ Wok hs gs ∧ isWd (wld hs gs) = false
theorem bad_of {hs gs : List D} (w : Wok hs gs) (h : ¬ (gs.all isGr = true ∧ hs.all (isHr (gs.map fst1)) = true ∧ (gs.map fst1 ++ hs.map fst1).Nodup)) : Bad (wld hs gs) :=
  ⟨hs, gs, rfl, w, by rw [← Bool.not_eq_true]; exact fun e => h (wd_iff.mp e)⟩
theorem cut_to (xs : List D) {i : Nat} : cut xs none (some (i : Int)) = xs.take i := by
  unfold cut
  simp only [HT.sIx_none]
  rw [HT.sIx_nat, List.drop_zero]
  simp [List.take_eq_take_iff]
theorem cut_from (xs : List D) {i : Nat} : cut xs (some (i : Int)) none = xs.drop i := by
  unfold cut
  simp only [HT.sIx_none]
  rw [HT.sIx_nat]
  by_cases h : i ≤ xs.length
  · rw [Nat.min_eq_left h]
    exact List.take_of_length_le (by simp)
  · rw [Nat.min_eq_right (by omega)]
    simp [List.drop_eq_nil_of_le (by omega : xs.length ≤ i)]
theorem cut_last (xs : List D) : cut xs (some (-1)) none = xs.drop (xs.length - 1) := by
  unfold cut
  simp only [HT.sIx_none]
  have : HT.sIx xs.length 0 (some (-1)) = xs.length - 1 := by
    show (if (-1 : Int) < 0 then ((-1 : Int) + (xs.length : Int)).toNat else min (-1 : Int).toNat xs.length) = _
    rw [if_pos (by decide)]
    omega
  rw [this]
  exact List.take_of_length_le (by simp)
theorem nm_pl {xs : List D} (h : xs.all isNm = true) : plainD (.list xs) = true ∧ plainD (.tuple xs) = true := by
  have : PyData.plainAll xs = true ∧ PyData.depthAll xs = 0 := by
    induction xs with
    | nil => exact ⟨by simp [PyData.plainAll], by simp [PyData.depthAll]⟩
    | cons x xs ih =>
      rw [List.all_cons, Bool.and_eq_true] at h
      obtain ⟨z, rfl⟩ := nm_str h.1
      obtain ⟨h1, h2⟩ := ih h.2
      exact ⟨by simp [PyData.plainAll, PyData.plain, h1], by simp [PyData.depthAll, PyData.depth, h2]⟩
  constructor
  · unfold plainD; simp [PyData.plain, PyData.depth, this]
  · unfold plainD; simp [PyData.plain, PyData.depth, this]
theorem cut_toI (xs : List D) {i : Int} (h : 0 ≤ i) : cut xs none (some i) = xs.take i.toNat := by
  obtain ⟨n, rfl⟩ := Int.eq_ofNat_of_zero_le h
  exact cut_to xs
theorem cut_fromI (xs : List D) {i : Int} (h : 0 ≤ i) : cut xs (some (i + 1)) none = xs.drop (i.toNat + 1) := by
  obtain ⟨n, rfl⟩ := Int.eq_ofNat_of_zero_le h
  exact cut_from xs (i := n + 1)
theorem nth_at {xs : List D} {i : Int} (h0 : 0 ≤ i) (h1 : i.toNat < xs.length) : nth xs i = some xs[i.toNat] := by
  have : i < (xs.length : Int) := by omega
  simp [nth, L2.atI, L2.ixN, h0, h1, this]
end EV
end
section
set_option Elab.async false
set_option linter.all false
set_option maxRecDepth 100000
set_option maxHeartbeats 4000000
set_option autoImplicit false
/-! EvZ2: small data, what repr makes of it; is_world of anything; the laws' own is_world -/
namespace EV
open PySem
/-! ### small data -/
def okS (z : Str) : Bool := decide (z.length ≤ 9) && z.cps.toList.all fun c => decide (c < 128)
mutual
/-- lists so long at most, short texts, small numbers, no dict but the empty one -/
def okD (l : Nat) : D → Bool
  | .none => true
  | .bool _ => true
  | .int i => decide ((0 ≤ i ∧ i < 10000000000) ∨ i = -1)
  | .str z => okS z
  | .list xs => decide (xs.length ≤ l) && okAll l xs
  | .tuple xs => decide (xs.length ≤ l) && okAll l xs
  | .dict kvs => kvs.isEmpty
def okAll (l : Nat) : List D → Bool
  | [] => true
  | x :: xs => okD l x && okAll l xs
end
mutual
/-- so many signs at most repr tells of it -/
def wt : D → Nat
  | .none => 4
  | .bool _ => 5
  | .int _ => 12
  | .str _ => 38
  | .list xs => 4 + wtAll xs
  | .tuple xs => 4 + wtAll xs
  | .dict _ => 2
def wtAll : List D → Nat
  | [] => 0
  | x :: xs => (wt x + 2) + wtAll xs
end
theorem okAll_iff {l : Nat} : ∀ {xs : List D}, okAll l xs = true ↔ ∀ x ∈ xs, okD l x = true
  | [] => by simp [okAll]
  | x :: xs => by rw [okAll, Bool.and_eq_true, okAll_iff]; simp
theorem ok_list {l : Nat} {xs : List D} : okD l (.list xs) = true ↔ xs.length ≤ l ∧ ∀ x ∈ xs, okD l x = true := by
  rw [okD, Bool.and_eq_true, decide_eq_true_eq, okAll_iff]
theorem ok_tup {l : Nat} {xs : List D} : okD l (.tuple xs) = true ↔ xs.length ≤ l ∧ ∀ x ∈ xs, okD l x = true := by
  rw [okD, Bool.and_eq_true, decide_eq_true_eq, okAll_iff]
mutual
theorem okD_mono {l m : Nat} (h : l ≤ m) : ∀ (x : D), okD l x = true → okD m x = true
  | .none, _ => rfl
  | .bool _, _ => rfl
  | .int i, e => by rw [okD] at e ⊢; exact e
  | .str z, e => by rw [okD] at e ⊢; exact e
  | .list xs, e => by
    rw [okD, Bool.and_eq_true, decide_eq_true_eq] at e ⊢
    exact ⟨Nat.le_trans e.1 h, okAll_mono h xs e.2⟩
  | .tuple xs, e => by
    rw [okD, Bool.and_eq_true, decide_eq_true_eq] at e ⊢
    exact ⟨Nat.le_trans e.1 h, okAll_mono h xs e.2⟩
  | .dict _, e => by rw [okD] at e ⊢; exact e
theorem okAll_mono {l m : Nat} (h : l ≤ m) : ∀ (xs : List D), okAll l xs = true → okAll m xs = true
  | [], _ => rfl
  | x :: xs, e => by
    rw [okAll, Bool.and_eq_true] at e ⊢
    exact ⟨okD_mono h x e.1, okAll_mono h xs e.2⟩
end
theorem wt_app : ∀ (xs ys : List D), wtAll (xs ++ ys) = wtAll xs + wtAll ys
  | [], ys => by simp [wtAll]
  | x :: xs, ys => by rw [List.cons_append, wtAll, wtAll, wt_app xs ys]; omega
theorem wt_take (xs : List D) (i : Nat) : wtAll (xs.take i) + wtAll (xs.drop i) = wtAll xs := by
  rw [← wt_app, List.take_append_drop]
theorem wt_set : ∀ (xs : List D) (i : Nat) (h : i < xs.length) (y : D), wtAll (xs.set i y) + wt xs[i] = wtAll xs + wt y
  | [], _, h, _ => absurd h (Nat.not_lt_zero _)
  | x :: xs, 0, _, y => by simp only [List.set_cons_zero, wtAll, List.getElem_cons_zero]; omega
  | x :: xs, i + 1, h, y => by
    have := wt_set xs i (by simpa using h) y
    simp only [List.set_cons_succ, wtAll, List.getElem_cons_succ]
    omega
theorem dp_le {xs : List D} {n : Nat} : PyData.depthAll xs ≤ n ↔ ∀ x ∈ xs, x.depth ≤ n := by
  induction xs with
  | nil => simp [PyData.depthAll]
  | cons x xs ih => rw [PyData.depthAll, Nat.max_le, ih]; simp
theorem wt_mem : ∀ {xs : List D} {x : D}, x ∈ xs → wt x + 2 ≤ wtAll xs
  | y :: xs, x, h => by
    rw [wtAll]
    rcases List.mem_cons.mp h with rfl | h
    · omega
    · have := wt_mem h; omega
/-! ### repr's length -/
theorem chr_len (q : Nat) : ∀ c, c < 128 → (Builtin.Str.reprChar q c).length ≤ 4 := by
  intro c hc
  by_cases h : c = q
  · unfold Builtin.Str.reprChar
    simp [h]
  · have := (by decide +kernel : ∀ c : Fin 128, (Builtin.Str.reprChar 1000 c.val).length ≤ 4) ⟨c, hc⟩
    unfold Builtin.Str.reprChar at this ⊢
    have n1 : (c == q) = false := beq_eq_false_iff_ne.mpr h
    have n2 : (c == 1000) = false := beq_eq_false_iff_ne.mpr (by omega)
    simp only [n1, n2] at this ⊢
    exact this
theorem fold_len (q : Nat) : ∀ (l : List Nat) (n : Nat), (∀ c ∈ l, c < 128) → l.foldl (fun n c => n + (Builtin.Str.reprChar q c).length) n ≤ n + 4 * l.length
  | [], n, _ => by simp
  | c :: l, n, h => by
    rw [List.foldl_cons]
    have h1 := chr_len q c (h c List.mem_cons_self)
    have h2 := fold_len q l (n + (Builtin.Str.reprChar q c).length) fun d hd => h d (List.mem_cons_of_mem _ hd)
    rw [List.length_cons]
    omega
theorem repr_len {z : Str} (h : okS z = true) : (reprText z).length ≤ 38 := by
  unfold okS at h
  rw [Bool.and_eq_true, decide_eq_true_eq, List.all_eq_true] at h
  rw [← reprLen_eq, ← Array.foldl_toList]
  have := fold_len (reprQuote z) z.cps.toList 2 fun c hc => by simpa using h.2 c hc
  have e : z.cps.toList.length = z.length := by simp [Str.length]
  omega
theorem list_len (ts : List Str) : (listText ts).length ≤ 2 + piled ts := by
  cases ts with
  | nil => rw [listText_nil]; decide
  | cons t r =>
    show (textFrom 1 ("[" ++ "" ++ t) r ++ "]").length ≤ _
    rw [len_app, textFrom_length_pos r 1 _ (by decide), len_app, len_app, piled_cons]
    show 1 + 0 + t.length + piled r + 1 ≤ _
    omega
theorem tup_len (ts : List Str) : (tupleText ts).length ≤ 3 + piled ts := by
  cases ts with
  | nil => decide
  | cons t r =>
    have := join_length_add (t :: r) (List.cons_ne_nil _ _)
    unfold tupleText
    rw [len_app, len_app]
    have e : ∀ b : Bool, ((if b then ",)" else ")" : String) : Str).length ≤ 2 := by decide
    have := e ((t :: r).length == 1)
    show 1 + (Str.join ", " (t :: r)).length + _ ≤ _
    omega
mutual
theorem shown_le {l : Nat} : ∀ x : D, okD l x = true → x.shown.length ≤ wt x
  | .none, _ => by rw [PyData.shown, wt]; decide
  | .bool b, _ => by rw [PyData.shown, wt]; cases b <;> decide
  | .int i, h => by
    rw [PyData.shown, wt]
    rw [okD, decide_eq_true_eq] at h
    rcases h with ⟨h0, h1⟩ | rfl
    · exact Nat.le_trans (PyProof.Rows.toString_length_le h0 (k := 10) (by decide) (by omega)) (by decide)
    · decide +kernel
  | .str z, h => by
    rw [PyData.shown, wt]
    rw [okD] at h
    exact repr_len h
  | .list xs, h => by
    rw [okD, Bool.and_eq_true] at h
    rw [PyData.shown, wt]
    have := shownAll_le xs h.2
    have := list_len (PyData.shownAll xs)
    omega
  | .tuple xs, h => by
    rw [okD, Bool.and_eq_true] at h
    rw [PyData.shown, wt]
    have := shownAll_le xs h.2
    have := tup_len (PyData.shownAll xs)
    omega
  | .dict kvs, h => by
    rw [okD] at h
    cases kvs with
    | nil => rw [PyData.shown, wt, PyData.shownKv]; decide
    | cons _ _ => cases h
theorem shownAll_le {l : Nat} : ∀ xs : List D, okAll l xs = true → piled (PyData.shownAll xs) ≤ wtAll xs
  | [], _ => by rw [PyData.shownAll, piled_nil]; omega
  | x :: xs, h => by
    rw [okAll, Bool.and_eq_true] at h
    have h1 := shown_le x h.1
    have h2 := shownAll_le xs h.2
    rw [PyData.shownAll, piled_cons, wtAll]
    omega
end
mutual
theorem showable_of {l : Nat} : ∀ x : D, okD l x = true → x.showable = true
  | .none, _ => by rw [PyData.showable]
  | .bool _, _ => by rw [PyData.showable]
  | .int i, h => by
    rw [PyData.showable, decide_eq_true_eq]
    rw [okD, decide_eq_true_eq] at h
    have : i.natAbs < 2 ^ 40 := by omega
    by_cases z : i.natAbs = 0
    · rw [z]; decide
    · exact Nat.lt_trans ((Nat.log2_lt z).mpr this) (by decide)
  | .str _, _ => by rw [PyData.showable]
  | .list xs, h => by
    rw [okD, Bool.and_eq_true] at h
    rw [PyData.showable]
    exact showableAll_of xs h.2
  | .tuple xs, h => by
    rw [okD, Bool.and_eq_true] at h
    rw [PyData.showable]
    exact showableAll_of xs h.2
  | .dict kvs, h => by
    rw [okD] at h
    cases kvs with
    | nil => rw [PyData.showable, PyData.showableKv]
    | cons _ _ => cases h
theorem showableAll_of {l : Nat} : ∀ xs : List D, okAll l xs = true → PyData.showableAll xs = true
  | [], _ => by rw [PyData.showableAll]
  | x :: xs, h => by
    rw [okAll, Bool.and_eq_true] at h
    rw [PyData.showableAll, showable_of x h.1, showableAll_of xs h.2]
    rfl
end
mutual
theorem noX_of {l : Nat} : ∀ x : D, okD l x = true → noX x = true
  | .none, _ => rfl
  | .bool _, _ => rfl
  | .int _, _ => rfl
  | .str _, _ => rfl
  | .list xs, h => by
    rw [okD, Bool.and_eq_true] at h
    rw [noX]
    exact noXs_of xs h.2
  | .tuple xs, h => by
    rw [okD, Bool.and_eq_true] at h
    rw [noX]
    exact noXs_of xs h.2
  | .dict kvs, h => by
    rw [okD] at h
    cases kvs with
    | nil => rw [noX, noXv]; rfl
    | cons _ _ => cases h
theorem noXs_of {l : Nat} : ∀ xs : List D, okAll l xs = true → noXs xs = true
  | [], _ => by rw [noXs]
  | x :: xs, h => by
    rw [okAll, Bool.and_eq_true] at h
    rw [noXs, noX_of x h.1, noXs_of xs h.2]
    rfl
end
theorem d_repr {l : Nat} {x : D} (h : okD l x = true) (hd : x.depth ≤ 64) (hw : wt x ≤ 1000000) : fRepr [x] = some (.str x.shown) := by
  unfold fRepr
  simp only [showable_of x h, noX_of x h, Bool.true_and, Bool.and_true, Bool.and_eq_true, decide_eq_true_eq]
  exact if_pos ⟨hd, Nat.le_trans (shown_le x h) hw⟩
theorem ne_nil (xs : List D) : fNe [.list xs, .list []] = some (.bool (!xs.isEmpty)) := by
  show (if plainD (.list xs) && plainD (.list []) then some (PyData.bool (!PyData.eqv (.list xs) (.list []))) else some (.bool (!xs.isEmpty))) = _
  cases xs <;> simp [PyData.eqv, PyData.eqvAll]
theorem eq_nil (xs : List D) : fEq [.list xs, .list []] = some (.bool xs.isEmpty) := by
  show (if plainD (.list xs) && plainD (.list []) then some (PyData.bool (PyData.eqv (.list xs) (.list []))) else some (.bool xs.isEmpty)) = _
  cases xs <;> simp [PyData.eqv, PyData.eqvAll]
theorem lcLoop_filter {turn : D → Ste → Res (Option D)} {p : D → Bool} {s : Ste} : ∀ (xs acc : List D), (∀ x ∈ xs, turn x s = .ok (if p x then some x else none) s) → lcLoop turn xs acc s = .ok (acc ++ xs.filter p) s
  | [], acc, _ => by simp [lcLoop]
  | x :: xs, acc, h => by
    rw [lcLoop, h x List.mem_cons_self]
    have ih := fun acc => lcLoop_filter xs acc fun y hy => h y (List.mem_cons_of_mem _ hy)
    cases e : p x with
    | true =>
      simp only [if_true]
      rw [ih, List.filter_cons_of_pos e]
      simp
    | false =>
      simp only [Bool.false_eq_true, if_false]
      rw [ih, List.filter_cons_of_neg (by simp [e])]
theorem filter_none {p : D → Bool} {xs : List D} : (xs.filter p).isEmpty = xs.all fun x => !p x := by
  induction xs with
  | nil => rfl
  | cons x xs ih =>
    rw [List.all_cons, ← ih]
    cases e : p x <;> simp [List.filter_cons, e]
/-! ### is_world of anything small -/
section
variable {fs : List FunI} {consts : List D} {k j : Nat} {hp : List D}
theorem ok_sm {l : Nat} {x : D} (h : okD l x = true) : Sm x := by
  cases x with
  | str z =>
    rw [okD, okS, Bool.and_eq_true, decide_eq_true_eq] at h
    show z.length ≤ 1000
    omega
  | _ => trivial
theorem ok_gsm {l : Nat} {x : D} (h : okD l x = true) : GSm x := fun xs e y hy => by
  subst e
  exact ok_sm ((ok_tup.mp h).2 y hy)
theorem ok_hsm {l : Nat} (hl : l ≤ 900) {x : D} (h : okD l x = true) : HSm x := fun a b c e => by
  subst e
  have h2 := (ok_tup.mp h).2
  refine ⟨ok_sm (h2 a (by simp)), fun xs e => ?_⟩
  subst e
  have h3 := ok_list.mp (h2 (.list xs) (by simp))
  exact ⟨by omega, fun y hy => ok_sm (h3.2 y hy)⟩
theorem isw_call {gr hr n ct o gl gm : Nat} (hj : fs[j]? = some ⟨8, 1, bWorld gr hr⟩) (hgr : fs[gr]? = some ⟨1, 1, bGrow n⟩) (hhr : fs[hr]? = some ⟨2, 2, bHrow n ct o⟩) (hn : fs[n]? = some ⟨2, 1, bName gl gm⟩) (hc : fs[ct]? = some ⟨1, 1, bCount⟩) (ho : fs[o]? = some ⟨3, 2, bOrder n⟩) (hl : consts[gl]? = some (.str letters)) (hm : consts[gm]? = some (.int 8))
    {l : Nat} (ll : l ≤ 900) {x : D} (hx : okD l x = true) : callF fs consts (k + 4) j [.d x] hp = .ok (.d (.bool (isWd x))) hp := by
  have odd : ∀ xs : List D, (∀ hs gs, xs ≠ [.list hs, .list gs]) → callF fs consts (k + 4) j [.d (.tuple xs)] hp = .ok (.d (.bool false)) hp := fun xs h => by
    rw [callF, hj]
    by_cases h2 : xs.length = 2
    · match xs, h2 with
      | [a, b], _ =>
        have l0 : lcLoop (lcTurn ⟨consts, callF fs consts (k + 3)⟩ [1] (.nm 1) .nil (.op (.isinst .list) (.cons (.peek 1) .nil))) [a, b] [] ⟨[.v (.d (.tuple [a, b])), .non, .non, .non, .non, .non, .non, .non], hp⟩ = .ok ([a, b].map fun x => .bool (isTy .list x)) ⟨[.v (.d (.tuple [a, b])), .non, .non, .non, .non, .non, .non, .non], hp⟩ := by
          rw [lcLoop_map (f := fun x => .bool (isTy .list x))]
          · simp
          · intro y hy
            simp [lcTurn]
        have a0 := d_allb (f := isTy .list) [a, b]
        have e : [a, b].all (isTy .list) = false := by
          rw [← Bool.not_eq_true]
          intro e
          simp only [List.all_cons, List.all_nil, Bool.and_true, Bool.and_eq_true] at e
          cases a <;> first | (cases e.1) | skip
          cases b <;> first | (cases e.2) | skip
          exact h _ _ rfl
        rw [e] at a0
        simp only [List.map_cons, List.map_nil] at l0 a0
        have tt : isTy .tuple (.tuple [a, b]) = true := rfl
        simp [noPk, bWorld, tt, d_nei, l0, a0, lim]
    · have h2' : ((xs.length : Int) == 2) = false := by
        rw [beq_eq_false_iff_ne]
        omega
      simp [noPk, bWorld, isTy, d_nei, h2']
  cases x with
  | tuple xs =>
    by_cases h : ∃ hs gs, xs = [.list hs, .list gs]
    · obtain ⟨hs, gs, rfl⟩ := h
      have q := (ok_tup.mp hx).2
      have q1 := ok_list.mp (q (.list hs) (by simp))
      have q2 := ok_list.mp (q (.list gs) (by simp))
      exact world_call hj hgr hhr hn hc ho hl hm (by omega) (by omega) (fun x hx => ok_gsm (q2.2 x hx)) fun x hx => ok_hsm ll (q1.2 x hx)
    · have e : isWd (.tuple xs) = false := by
        unfold isWd
        split
        · rename_i hs gs e
          cases e
          exact (h ⟨_, _, rfl⟩).elim
        · rfl
      rw [e]
      exact odd xs fun hs gs e => h ⟨hs, gs, e⟩
  | _ =>
    rw [callF, hj]
    simp [noPk, bWorld, isTy, isWd]
/-! ### the law's own -/
def bLName : CSs := (ss [
  (.ret (.and (.op (.isinst .str) (cs [(.peek 0)])) (.and (.chain .lt .lt (.kst (.int 0)) (.op .len (cs [(.peek 0)])) (.kst (.int 9))) (.op .eq (cs [(.meth .strip (.peek 0) (cs [(.kst (.str "abcdefghijklmnopqrstuvwxyz"))])), (.kst (.str ""))])))))])
theorem lname_call (hj : fs[j]? = some ⟨1, 1, bLName⟩) {x : D} (h : Sm x) : callF fs consts (k + 1) j [.d x] hp = .ok (.d (.bool (isNm x))) hp := by
  rw [callF, hj]
  cases x with
  | str z =>
    have hl : z.length ≤ lim := lim_ge h
    by_cases h1 : (0 : Int) < z.length
    · have h1' : 1 ≤ z.length := by omega
      have h0 : 0 < z.length := h1'
      by_cases h2 : (z.length : Int) < 9
      · have h2' : z.length ≤ 8 := by omega
        simp [noPk, bLName, isTy, d_lens hl, h1, h2, h0, h1', h2', isNm, mty, d_strip hl, d_eqs, strip_none, letters]
      · have h2' : ¬ z.length ≤ 8 := by omega
        simp [noPk, bLName, isTy, d_lens hl, h1, h2, h0, h1', h2', isNm]
    · have h1' : ¬ 1 ≤ z.length := by omega
      have h0 : z.length = 0 := by omega
      simp [noPk, bLName, isTy, d_lens hl, h1, h0, h1', isNm]
  | _ => simp [noPk, bLName, isTy, isNm]
/-- unlike, place by place -/
theorem nodup_at {xs : List D} : xs.Nodup ↔ ∀ (i : Nat) (h : i < xs.length), xs[i] ∉ xs.take i := by
  rw [List.nodup_iff_pairwise_ne, List.pairwise_iff_getElem]
  constructor
  · intro h i hi hm
    obtain ⟨m, hm, e⟩ := List.mem_take_iff_getElem.mp hm
    exact h m i (by omega) hi (by omega) e
  · intro h i j hi hj hij e
    exact h j hj (List.mem_take_iff_getElem.mpr ⟨i, by omega, e⟩)
/-- at the places of a list: whether it stands ahead of itself -/
def atQ (xs : List D) : D → Bool
  | .int i => match xs[i.toNat]? with
    | some x => inD x (xs.take i.toNat)
    | none => false
  | _ => false
theorem at_diff {xs : List D} (h : xs.all isNm = true) : (((iran 0 xs.length).filter (atQ xs)).isEmpty) = diffS xs := by
  have hn := List.all_eq_true.mp h
  rw [filter_none, Bool.eq_iff_iff, List.all_eq_true]
  have key : (∀ x ∈ iran 0 xs.length, (!atQ xs x) = true) ↔ xs.Nodup := by
    rw [nodup_at]
    constructor
    · intro q i hi hm
      have hq : PyData.int (i : Int) ∈ iran 0 xs.length := by
        have e : (iran 0 xs.length)[i]? = some (.int (0 + (i : Int))) := by
          have hl : i < (iran 0 xs.length).length := by rw [iran_len]; exact hi
          have := iran_get xs.length 0 i _ (List.getElem?_eq_getElem hl)
          rw [List.getElem?_eq_getElem hl, this.2]
        have := List.mem_of_getElem? e
        simpa using this
      have := q _ hq
      unfold atQ at this
      simp only [Int.toNat_natCast, List.getElem?_eq_getElem hi] at this
      rw [(ind_nm (hn _ (List.getElem_mem hi))).mpr hm] at this
      cases this
    · intro q x hx
      obtain ⟨i, rfl, hi⟩ := iran_mem hx
      have e : (0 + (i : Int)).toNat = i := by omega
      unfold atQ
      simp only [e, List.getElem?_eq_getElem hi]
      cases c : inD xs[i] (xs.take i) with
      | false => rfl
      | true => exact (q i hi ((ind_nm (hn _ (List.getElem_mem hi))).mp c)).elim
  rw [key]
  exact ⟨fun q => nodup_diff h q, fun q => diff_nodup q⟩
end
end EV
end
section
set_option Elab.async false
set_option linter.all false
set_option maxRecDepth 100000
set_option maxHeartbeats 4000000
set_option autoImplicit false
/-! EvZ3: the drawn town of k02, k03, k05 -/
namespace EV
open PySem
structure Town (hs gs : List D) : Prop where
  gr : gs.all isGr = true
  hr : hs.all (isHr (gs.map fst1)) = true
  nd : (gs.map fst1 ++ hs.map fst1).Nodup
  fh : hs.length ≤ 9
  fg : gs.length ≤ 9
  nm : ∀ x ∈ gs.map fst1 ++ hs.map fst1, x ∈ base
  row : ∀ h ∈ hs, ∃ (a : D) (b : Int) (c : List D), h = .tuple [a, .int b, .list c] ∧ (0 ≤ b ∧ b < 10000000000) ∧ c.length ≤ 9
theorem Town.wd {hs gs : List D} (t : Town hs gs) : isWd (wld hs gs) = true := wd_iff.mpr ⟨t.gr, t.hr, t.nd⟩
theorem base_ok : ∀ x ∈ base, isNm x = true ∧ okD 0 x = true ∧ wt x ≤ 38 ∧ x.depth = 0 := by decide +kernel
theorem Town.guest {hs gs : List D} (t : Town hs gs) {g : D} (hg : g ∈ gs) : ∃ (a : D) (b : Bool), g = .tuple [a, .bool b] ∧ a ∈ base := by
  have h := List.all_eq_true.mp t.gr g hg
  have hm := t.nm (fst1 g) (List.mem_append_left _ (List.mem_map.mpr ⟨g, hg, rfl⟩))
  match g, h with
  | .tuple [a, b], h =>
    rw [isGr, Bool.and_eq_true] at h
    cases b with
    | bool b => exact ⟨a, b, rfl, hm⟩
    | _ => cases h.2
theorem Town.house {hs gs : List D} (t : Town hs gs) {h : D} (hh : h ∈ hs) : ∃ (a : D) (b : Int) (c : List D), h = .tuple [a, .int b, .list c] ∧ a ∈ base ∧ (0 ≤ b ∧ b < 10000000000) ∧ c.length ≤ 9 ∧ c.Nodup ∧ ∀ x ∈ c, x ∈ gs.map fst1 ∧ x ∈ base := by
  have hr := List.all_eq_true.mp t.hr h hh
  have hm := t.nm (fst1 h) (List.mem_append_right _ (List.mem_map.mpr ⟨h, hh, rfl⟩))
  obtain ⟨a, b, c, rfl, hb, hc⟩ := t.row h hh
  rw [isHr, Bool.and_eq_true, Bool.and_eq_true] at hr
  obtain ⟨c1, c2, c3⟩ := or_iff.mp hr.2.2
  exact ⟨a, b, c, rfl, hm, hb, hc, c2, fun x hx => ⟨c3 x hx, t.nm x (List.mem_append_left _ (c3 x hx))⟩⟩
theorem wt_all {w : Nat} : ∀ {xs : List D}, (∀ x ∈ xs, wt x ≤ w) → wtAll xs ≤ (w + 2) * xs.length
  | [], _ => by rw [wtAll]; omega
  | x :: xs, h => by
    have h1 := h x List.mem_cons_self
    have h2 := wt_all fun y hy => h y (List.mem_cons_of_mem _ hy)
    rw [wtAll, List.length_cons, Nat.mul_add]
    omega
theorem Town.small {hs gs : List D} (t : Town hs gs) : okD 10 (wld hs gs) = true ∧ wt (wld hs gs) ≤ 5000 ∧ (wld hs gs).depth ≤ 4 := by
  have g : ∀ x ∈ gs, okD 10 x = true ∧ wt x ≤ 60 ∧ x.depth ≤ 2 := fun x hx => by
    obtain ⟨a, b, rfl, ha⟩ := t.guest hx
    obtain ⟨_, h1, h2, h3⟩ := base_ok a ha
    refine ⟨ok_tup.mpr ⟨by simp, fun y hy => ?_⟩, ?_, ?_⟩
    · simp only [List.mem_cons, List.not_mem_nil, or_false] at hy
      rcases hy with rfl | rfl
      · exact okD_mono (by omega) _ h1
      · rfl
    · simp only [wt, wtAll]; omega
    · simp only [PyData.depth, PyData.depthAll, h3]; omega
  have h : ∀ x ∈ hs, okD 10 x = true ∧ wt x ≤ 430 ∧ x.depth ≤ 2 := fun x hx => by
    obtain ⟨a, b, c, rfl, ha, hb, cl, _, hc⟩ := t.house hx
    obtain ⟨_, h1, h2, h3⟩ := base_ok a ha
    have c1 : okD 10 (.list c) = true := ok_list.mpr ⟨by omega, fun y hy => okD_mono (by omega) _ (base_ok y (hc y hy).2).2.1⟩
    have c2 := wt_all (w := 38) (xs := c) fun y hy => (base_ok y (hc y hy).2).2.2.1
    have c3 : PyData.depthAll c ≤ 0 := dp_le.mpr fun y hy => by rw [(base_ok y (hc y hy).2).2.2.2]; exact Nat.le_refl _
    refine ⟨ok_tup.mpr ⟨by simp, fun y hy => ?_⟩, ?_, ?_⟩
    · simp only [List.mem_cons, List.not_mem_nil, or_false] at hy
      rcases hy with rfl | rfl | rfl
      · exact okD_mono (by omega) _ h1
      · rw [okD, decide_eq_true_eq]; exact .inl hb
      · exact c1
    · simp only [wt, wtAll]; omega
    · simp only [PyData.depth, PyData.depthAll, h3]; omega
  have fh := t.fh
  have fg := t.fg
  have w1 := wt_all fun x hx => (g x hx).2.1
  have w2 := wt_all fun x hx => (h x hx).2.1
  have d1 : PyData.depthAll gs ≤ 2 := dp_le.mpr fun x hx => (g x hx).2.2
  have d2 : PyData.depthAll hs ≤ 2 := dp_le.mpr fun x hx => (h x hx).2.2
  refine ⟨ok_tup.mpr ⟨by simp, fun y hy => ?_⟩, ?_, ?_⟩
  · simp only [List.mem_cons, List.not_mem_nil, or_false] at hy
    rcases hy with rfl | rfl
    · exact ok_list.mpr ⟨by omega, fun x hx => (h x hx).1⟩
    · exact ok_list.mpr ⟨by omega, fun x hx => (g x hx).1⟩
  · simp only [wld, wt, wtAll]; omega
  · simp only [wld, PyData.depth, PyData.depthAll]; omega
section
variable {fs : List FunI} {consts : List D} {k j : Nat}
theorem p10_9 : fPow [.int 10, .int 9] = some (.int 1000000000) := by
  rw [show fPow [.int 10, .int 9] = some (.int ((10 : Int) ^ 9)) from pow_ok (n := 4) 9 (by decide) (by decide)]
  rfl
theorem draw_call {sc n : Nat} {d : D} {m : Int} (hsc : fs[sc]? = some ⟨4, 2, bScoop⟩) (ho : PotOk n d) (hn : n < 2 ^ 58) (h0 : 0 < m) (h1 : m < 2 ^ 30) : ∃ (r : Int) (d' : D), 0 ≤ r ∧ r < m ∧ PotOk (n + 1) d' ∧ callF fs consts (k + 1) sc [.r 0, .d (.int m)] [d] = .ok (.d (.int r)) [d'] := by
  obtain ⟨r, d', r0, r1, o, e⟩ := scoop_call (k := k) (consts := consts) (p := 0) (hp := [d]) hsc rfl ho (by omega) h0 h1
  exact ⟨r, d', r0, r1, o, e⟩
def tBody (sc dr : Nat) : CSs := ss [
    (.set 8 (.op .idx (cs [(.lst (cs [(.kst (.int 0)), (.kst (.int 1)), (.kst (.int 1)), (.kst (.int 2)), (.op .add (cs [(.op .idx (cs [(.peek 2), (.kst (.int 1))])), (.kst (.int 1))])), (.op .sub (cs [(.op .pow (cs [(.kst (.int 10)), (.kst (.int 9))])), (.kst (.int 1))]))])), (.call sc (cs [(.var 0), (.kst (.int 6))]))]))),
    (.expr (.mut 7 .app (cs [(.tup (cs [(.var 6), (.var 8), (.call dr (cs [(.var 0), (.op .slice (cs [(.peek 4), (.kst .none), (.op .toi (cs [(.op .idx (cs [(.peek 2), (.kst (.int 1))]))]))])), (.op .idx (cs [(.peek 2), (.kst (.int 1))]))]))]))])))]
def bTown (sc nm dr : Nat) : CSs := (ss [
  (.set 2 (.lc [3] (.nm 3) (.rng (cs [(.kst (.int 2))])) (cs []) (.call sc (cs [(.var 0), (.op .add (cs [(.peek 1), (.kst (.int 1))]))])))),
  (.set 4 (.call nm (cs [(.var 0), (.op .add (cs [(.op .idx (cs [(.peek 2), (.kst (.int 0))])), (.op .idx (cs [(.peek 2), (.kst (.int 1))]))]))]))),
  (.set 5 (.lc [6] (.nm 6) (.seq (.op .slice (cs [(.peek 4), (.kst .none), (.op .toi (cs [(.op .idx (cs [(.peek 2), (.kst (.int 1))]))]))]))) (cs []) (.tup (cs [(.var 6), (.op .gt (cs [(.call sc (cs [(.var 0), (.kst (.int 4))])), (.kst (.int 0))]))])))),
  (.setO 7 (.lst (cs []))),
  (.for (.nm 6) (.seq (.op .slice (cs [(.peek 4), (.op .toi (cs [(.op .idx (cs [(.peek 2), (.kst (.int 1))]))])), (.kst .none)]))) (tBody sc dr)),
  (.ret (.tup (cs [(.var 7), (.var 5)])))])
theorem town_turn {sc dr n : Nat} {d x : D} {a b : Int} {ys hs : List D} {v1 v5 : Vl} {s6 s8 : Slot} (hsc : fs[sc]? = some ⟨4, 2, bScoop⟩) (hdr : fs[dr]? = some ⟨5, 3, bDrawn sc⟩) (o6 : Slot.open (some s6) = true) (o8 : Slot.open (some s8) = true) (b0 : 0 ≤ b) (b9 : b ≤ 9) (hy : ys.all isNm = true) (nd : ys.Nodup) (hx : isNm x = true) (hl : hs.length < 1000) (ho : PotOk n d) (hn : n < 2 ^ 56) :
    ∃ (q : Int) (c : List D) (d' : D), isHr (ys.take b.toNat) (.tuple [x, .int q, .list c]) = true ∧ (0 ≤ q ∧ q < 10000000000) ∧ c.length ≤ 9 ∧ PotOk (n + 1002) d' ∧ EV.forTurn ⟨consts, callF fs consts (k + 2)⟩ (.nm 6) (tBody sc dr) x ⟨[.v (.r 0), .v v1, .v (.d (.list [.int a, .int b])), .non, .v (.d (.list ys)), .v v5, s6, .own (.list hs), s8], [d]⟩ =
      .nx ⟨[.v (.r 0), .v v1, .v (.d (.list [.int a, .int b])), .non, .v (.d (.list ys)), .v v5, .v (.d x), .own (.list (hs ++ [.tuple [x, .int q, .list c]])), .v (.d (.int q))], [d']⟩ := by
  obtain ⟨r1, d1, z1, q1, o1, e1⟩ := draw_call (k := k + 1) (consts := consts) (m := 6) hsc ho (by omega) (by decide) (by decide)
  have tl : (ys.take b.toNat).length ≤ 9 := by rw [List.length_take]; omega
  obtain ⟨c, L, d2, p, cl, o2, e2⟩ := drawn_call (k := k) (consts := consts) hdr hsc (G := ys.take b.toNat) (most := b) (by omega) b0 (by omega) (by omega) o1
  obtain ⟨q, hq, eq⟩ : ∃ q : Int, (0 ≤ q ∧ q < 10000000000) ∧ nth [PyData.int 0, .int 1, .int 1, .int 2, .int (b + 1), .int (1000000000 - 1)] r1 = some (.int q) := by
    obtain ⟨y, hy, ey⟩ := nth_ok (xs := [PyData.int 0, .int 1, .int 1, .int 2, .int (b + 1), .int (1000000000 - 1)]) z1 (by simpa using q1)
    rw [ey]
    simp only [List.mem_cons, List.not_mem_nil, or_false] at hy
    rcases hy with rfl | rfl | rfl | rfl | rfl | rfl <;> exact ⟨_, by omega, rfl⟩
  have s1 : fSlice [.list ys, .none, .int b] = some (.list (ys.take b.toNat)) := by rw [d_slice0 (l := none) (h := some b) rfl rfl, cut_toI _ b0]
  have h1 : ∀ y ∈ c, y ∈ ys.take b.toNat := fun y hy => p.mem_iff.mp (List.mem_append_left _ hy)
  have ndt : (ys.take b.toNat).Nodup := nd.sublist (List.take_sublist _ _)
  have h2 : c.Nodup := (List.nodup_append.mp (p.nodup_iff.mpr ndt)).1
  have hl2 : hs.length < 1000000 := by omega
  have c9 : c.length ≤ 9 := by omega
  have eq : nth [PyData.int 0, .int 1, .int 1, .int 2, .int (b + 1), .int 999999999] r1 = some (.int q) := eq
  refine ⟨q, c, d2, ?_, hq, c9, o2.mono (by omega), ?_⟩
  · rw [isHr, hx, or_iff.mpr ⟨List.all_eq_true.mpr fun y hyc => List.all_eq_true.mp hy y (List.mem_of_mem_take (h1 y hyc)), h2, h1⟩]
    simp [isCt, hq.1]
  · have n1 : nth [PyData.int a, .int b] 1 = some (.int b) := rfl
    simp [-bi_nm, bi_open, EV.forTurn, tBody, o6, o8, e1, p10_9, n1, eq, s1, e2, lim, Ste.cell, cellOk, Mu.fn, mApp, hl2]
theorem town_loop {sc dr : Nat} {a b : Int} {ys : List D} {v1 v5 : Vl} (hsc : fs[sc]? = some ⟨4, 2, bScoop⟩) (hdr : fs[dr]? = some ⟨5, 3, bDrawn sc⟩) (b0 : 0 ≤ b) (b9 : b ≤ 9) (hy : ys.all isNm = true) (nd : ys.Nodup) : ∀ (xs hs : List D) (s6 s8 : Slot) (n : Nat) (d : D), Slot.open (some s6) = true → Slot.open (some s8) = true → (∀ x ∈ xs, isNm x = true) → hs.length + xs.length < 1000 → PotOk n d → n + 1002 * xs.length < 2 ^ 56 →
    ∃ (zs : List D) (d' : D) (t6 t8 : Slot), zs.map fst1 = xs ∧ (∀ z ∈ zs, isHr (ys.take b.toNat) z = true ∧ ∃ (x : D) (q : Int) (c : List D), z = .tuple [x, .int q, .list c] ∧ (0 ≤ q ∧ q < 10000000000) ∧ c.length ≤ 9) ∧ PotOk (n + 1002 * xs.length) d' ∧
      forLoop (EV.forTurn ⟨consts, callF fs consts (k + 2)⟩ (.nm 6) (tBody sc dr)) xs ⟨[.v (.r 0), .v v1, .v (.d (.list [.int a, .int b])), .non, .v (.d (.list ys)), .v v5, s6, .own (.list hs), s8], [d]⟩ =
      .nx ⟨[.v (.r 0), .v v1, .v (.d (.list [.int a, .int b])), .non, .v (.d (.list ys)), .v v5, t6, .own (.list (hs ++ zs)), t8], [d']⟩
  | [], hs, s6, s8, n, d, _, _, _, _, ho, _ => ⟨[], d, s6, s8, rfl, by simp, ho, by simp [forLoop]⟩
  | x :: xs, hs, s6, s8, n, d, o6, o8, hx, hl, ho, hn => by
    rw [List.length_cons] at hl hn
    obtain ⟨q, c, d1, h1, h2, h3, o1, e1⟩ := town_turn (k := k) (consts := consts) (a := a) (v1 := v1) (v5 := v5) (hs := hs) hsc hdr o6 o8 b0 b9 hy nd (hx x List.mem_cons_self) (by omega) ho (by omega)
    obtain ⟨zs, d2, t6, t8, g1, g2, o2, e2⟩ := town_loop (a := a) (v1 := v1) (v5 := v5) hsc hdr b0 b9 hy nd xs (hs ++ [.tuple [x, .int q, .list c]]) (.v (.d x)) (.v (.d (.int q))) (n + 1002) d1 rfl rfl (fun y hy => hx y (List.mem_cons_of_mem _ hy)) (by rw [List.length_append]; simp; omega) o1 (by omega)
    refine ⟨.tuple [x, .int q, .list c] :: zs, d2, t6, t8, by rw [List.map_cons, g1]; rfl, fun z hz => ?_, by rw [List.length_cons, Nat.mul_add, Nat.add_comm (1002 * xs.length), ← Nat.add_assoc]; exact o2, ?_⟩
    · rcases List.mem_cons.mp hz with rfl | hz
      · exact ⟨h1, x, q, c, rfl, h2, h3⟩
      · exact g2 z hz
    · rw [forLoop, e1]
      show forLoop _ xs _ = _
      rw [e2]
      simp
theorem town_call {sc nm dr n : Nat} {d : D} {most : Int} (hj : fs[j]? = some ⟨9, 2, bTown sc nm dr⟩) (hsc : fs[sc]? = some ⟨4, 2, bScoop⟩) (hnm : fs[nm]? = some ⟨5, 2, bNames sc⟩) (hdr : fs[dr]? = some ⟨5, 3, bDrawn sc⟩) (m0 : 0 ≤ most) (m9 : most ≤ 9) (ho : PotOk n d) (hn : n < 2 ^ 55) :
    ∃ (hs gs : List D) (d' : D), Town hs gs ∧ PotOk (n + 10000) d' ∧ callF fs consts (k + 3) j [.r 0, .d (.int most)] [d] = .ok (.d (wld hs gs)) [d'] := by
  obtain ⟨a, d1, a0, a1, o1, e1⟩ := draw_call (k := k + 1) (consts := consts) (m := most + 1) hsc ho (by omega) (by omega) (by omega)
  obtain ⟨b, d2, b0, b1, o2, e2⟩ := draw_call (k := k + 1) (consts := consts) (m := most + 1) hsc o1 (by omega) (by omega) (by omega)
  obtain ⟨ys, d3, yl, yn, ynd, yb, o3, e3⟩ := names_call (k := k) (consts := consts) hnm hsc (m := a + b) (by omega) (by omega) (by omega) o2
  have hyn := List.all_eq_true.mp yn
  have s1 : fSlice [.list ys, .none, .int b] = some (.list (ys.take b.toNat)) := by rw [d_slice0 (l := none) (h := some b) rfl rfl, cut_toI _ b0]
  have s2 : fSlice [.list ys, .int b, .none] = some (.list (ys.drop b.toNat)) := by
    obtain ⟨bn, rfl⟩ := Int.eq_ofNat_of_zero_le b0
    rw [d_slice0 (l := some (bn : Int)) (h := none) rfl rfl, cut_from]
    rfl
  obtain ⟨gs, d4, r4, o4, e4⟩ := lcLoop_ex (R := fun x y => ∃ b : Bool, y = .tuple [x, .bool b]) (c := 1) (st := fun d => ⟨[.v (.r 0), .v (.d (.int most)), .v (.d (.list [.int a, .int b])), .non, .v (.d (.list ys)), .non, .non, .non, .non], [d]⟩) (turn := lcTurn ⟨consts, callF fs consts (k + 2)⟩ [6] (.nm 6) .nil (.tup (.cons (.var 6) (.cons (.op .gt (.cons (.call sc (.cons (.var 0) (.cons (.kst (.int 4)) .nil))) (.cons (.kst (.int 0)) .nil))) .nil)))) (ys.take b.toNat) [] _ d3 (fun x n d _ h ho => by
    obtain ⟨r, d', r0, r1, o, e⟩ := draw_call (k := k + 1) (consts := consts) (m := 4) hsc ho (by omega) (by decide) (by decide)
    exact ⟨_, d', ⟨decide (0 < r), rfl⟩, o, by simp [lcTurn, e, lim]⟩) (by rw [List.length_take]; omega) o3
  have tl : (ys.take b.toNat).length ≤ 9 := by rw [List.length_take]; omega
  have dl : (ys.drop b.toNat).length ≤ 9 := by rw [List.length_drop]; omega
  obtain ⟨zs, d5, t6, t8, z1, z2, o5, e5⟩ := town_loop (k := k) (consts := consts) (a := a) (v1 := .d (.int most)) (v5 := .d (.list gs)) hsc hdr b0 (by omega) yn ynd (ys.drop b.toNat) [] .non .non _ d4 rfl rfl (fun x hx => hyn x (List.mem_of_mem_drop hx)) (by simp; omega) o4 (by omega)
  have gm : gs.map fst1 = ys.take b.toNat := r4.map fun x y ⟨b, e⟩ => by rw [e]; rfl
  have gl : gs.length ≤ 9 := by rw [← List.length_map (f := fst1), gm]; exact tl
  have zl : zs.length ≤ 9 := by rw [← List.length_map (f := fst1), z1]; exact dl
  have both : gs.map fst1 ++ zs.map fst1 = ys := by rw [gm, z1, List.take_append_drop]
  refine ⟨zs, gs, d5, ⟨List.all_eq_true.mpr (r4.all fun x hx y ⟨b, e⟩ => ?_), List.all_eq_true.mpr fun z hz => ?_, by rw [both]; exact ynd, zl, gl, fun x hx => yb x (by rw [both] at hx; exact hx), fun z hz => (z2 z hz).2⟩, o5.mono (by omega), ?_⟩
  · subst e
    rw [isGr, hyn x (List.mem_of_mem_take hx)]
    rfl
  · rw [gm]
    exact (z2 z hz).1
  · have rg : rngItems [.int 2] = some [.int 0, .int 1] := by rw [rng_lt (by decide) (by decide)]; rfl
    have n0 : nth [PyData.int a, .int b] 0 = some (.int a) := rfl
    have n1 : nth [PyData.int a, .int b] 1 = some (.int b) := rfl
    have c1 : gs.length ≤ 1000000 := by omega
    simp only [tBody, cs_cons, cs_nil, ss_cons, ss_nil, List.nil_append] at e4 e5
    rw [callF, hj]
    simp [noPk, bTown, tBody, rg, lcLoop, lcTurn, e1, e2, lim, n0, n1, e3, s1, s2, e4, c1, e5, wld]
end
end EV
end
section
set_option Elab.async false
set_option linter.all false
set_option maxRecDepth 100000
set_option maxHeartbeats 4000000
set_option autoImplicit false
/-! EvWh: letters and what hands do, judged, wherever the defs stand -/
namespace EV
open PySem
def bLetter (gi go gc gb gw l1 l2 l3 l4 : Nat) : CSs := (ss [
  (.ite (.or (.not (.op (.isinst .tuple) (cs [(.peek 0)]))) (.or (.op .notin (cs [(.op .len (cs [(.peek 0)])), (.tup (cs [(.kst (.int 1)), (.kst (.int 2))]))])) (.not (.op .all (cs [(.lc [1] (.nm 1) (.slot 0) (cs []) (.op (.isinst .str) (cs [(.peek 1)])))]))))) (ss [
    (.ret (.kst (.bool false)))]) (ss [])),
  (.ite (.op .eq (cs [(.op .len (cs [(.peek 0)])), (.kst (.int 1))])) (ss [
    (.ret (.op .in_ (cs [(.peek 0), (.tup (cs [(.glob l1), (.glob l2), (.glob l3), (.glob l4)]))])))]) (ss [])),
  (.ret (.and (.op .eq (cs [(.op .idx (cs [(.peek 0), (.kst (.int 0))])), (.glob gw)])) (.op .in_ (cs [(.op .idx (cs [(.peek 0), (.kst (.int 1))])), (.tup (cs [(.glob gi), (.glob go), (.glob gc), (.glob gb)]))]))))])
def bKind (nm ct lt : Nat) : CSs := (ss [
  (.ite (.op .eq (cs [(.peek 1), (.kst (.str "n"))])) (ss [
    (.ret (.call nm (cs [(.var 0)])))]) (ss [])),
  (.ret (.ite (.op .eq (cs [(.peek 1), (.kst (.str "c"))])) (.call ct (cs [(.var 0)])) (.call lt (cs [(.var 0)]))))])
def bWhat (kd : Nat) : CSs := (ss [
  (.ite (.or (.not (.op (.isinst .tuple) (cs [(.peek 0)]))) (.or (.op .eq (cs [(.op .len (cs [(.peek 0)])), (.kst (.int 0))])) (.or (.not (.op (.isinst .str) (cs [(.op .idx (cs [(.peek 0), (.kst (.int 0))]))]))) (.op (.dIn [("wish", ""), ("unwish", ""), ("join", "n"), ("part", "n"), ("put", "nc"), ("out", "n"), ("room", "c"), ("hear", "nl")] true) (cs [(.op .idx (cs [(.peek 0), (.kst (.int 0))]))]))))) (ss [
    (.ret (.kst (.bool false)))]) (ss [])),
  (.set 1 (.op (.dAt [("wish", ""), ("unwish", ""), ("join", "n"), ("part", "n"), ("put", "nc"), ("out", "n"), ("room", "c"), ("hear", "nl")]) (cs [(.op .idx (cs [(.peek 0), (.kst (.int 0))]))]))),
  (.ret (.and (.op .eq (cs [(.op .len (cs [(.peek 0)])), (.op .add (cs [(.op .len (cs [(.peek 1)])), (.kst (.int 1))]))])) (.op .all (cs [(.lc [2, 3] (.tp [(.nm 2), (.nm 3)]) (.zip (cs [(.op .slice (cs [(.peek 0), (.op .toi (cs [(.kst (.int 1))])), (.kst .none)])), (.var 1)])) (cs []) (.call kd (cs [(.var 2), (.var 3)])))]))))])
structure WhT (fs : List FunI) (consts : List D) (ct nm lt kd wh gl gm gi go gc gb gw l1 l2 l3 l4 : Nat) : Prop where
  t0 : fs[ct]? = some ⟨1, 1, bCount⟩
  t1 : fs[nm]? = some ⟨2, 1, bName gl gm⟩
  t2 : fs[lt]? = some ⟨2, 1, bLetter gi go gc gb gw l1 l2 l3 l4⟩
  t3 : fs[kd]? = some ⟨2, 2, bKind nm ct lt⟩
  t4 : fs[wh]? = some ⟨4, 1, bWhat kd⟩
  cg0 : consts[gl]? = some (.str letters)
  cg1 : consts[gm]? = some (.int 8)
  cg2 : consts[gi]? = some (.str "in")
  cg3 : consts[go]? = some (.str "out")
  cg4 : consts[gc]? = some (.str "clear")
  cg5 : consts[gb]? = some (.str "barred")
  cg6 : consts[gw]? = some (.str "word")
  cg7 : consts[l1]? = some (.tuple [.str "open"])
  cg8 : consts[l2]? = some (.tuple [.str "heard"])
  cg9 : consts[l3]? = some (.tuple [.str "chair"])
  cg10 : consts[l4]? = some (.tuple [.str "back"])
/-! ### letters -/
def isLt : D → Bool
  | .tuple [.str z] => "open" == z || ("heard" == z || ("chair" == z || "back" == z))
  | .tuple [.str y, .str z] => y == "word" && ("in" == z || ("out" == z || ("clear" == z || "barred" == z)))
  | _ => false
def four : List D := [.tuple [.str "open"], .tuple [.str "heard"], .tuple [.str "chair"], .tuple [.str "back"]]
def words : List D := [.tuple [.str "word", .str "in"], .tuple [.str "word", .str "out"], .tuple [.str "word", .str "clear"], .tuple [.str "word", .str "barred"]]
theorem nth0 (a : D) (r : List D) : nth (a :: r) 0 = some a := nth_at (by decide) (by simp)
theorem nth1 (a b : D) (r : List D) : nth (a :: b :: r) 1 = some b := nth_at (xs := a :: b :: r) (i := 1) (by decide) (by simp)
theorem nth2 (a b c : D) (r : List D) : nth (a :: b :: c :: r) 2 = some c := nth_at (xs := a :: b :: c :: r) (i := 2) (by decide) (by simp)
theorem nin12 (n : Int) : fNotin [.int n, .tuple [.int 1, .int 2]] = some (.bool (!((1 : Int) == n || (2 : Int) == n))) := by simp [fNotin, pl_int, inD, PyData.eqv]
theorem in_four (z : Str) : fIn [.tuple [.str z], .tuple [.tuple [.str "open"], .tuple [.str "heard"], .tuple [.str "chair"], .tuple [.str "back"]]] = some (.bool ("open" == z || ("heard" == z || ("chair" == z || "back" == z)))) := by
  simp [fIn, inD, plainD, PyData.plain, PyData.plainAll, PyData.depth, PyData.depthAll, PyData.eqv, PyData.eqvAll]
theorem in_words (z : Str) : fIn [.str z, .tuple [.str "in", .str "out", .str "clear", .str "barred"]] = some (.bool ("in" == z || ("out" == z || ("clear" == z || "barred" == z)))) := by
  simp [fIn, inD, pl_str, PyData.eqv]
section
variable {fs : List FunI} {consts : List D} {k ct nm lt kd wh gl gm gi go gc gb gw l1 l2 l3 l4 : Nat} {hp : List D}
theorem letter_call (T : WhT fs consts ct nm lt kd wh gl gm gi go gc gb gw l1 l2 l3 l4) (x : D) : callF fs consts (k + 1) lt [.d x] hp = .ok (.d (.bool (isLt x))) hp := by
  rw [callF, T.t2]
  cases x with
  | tuple xs =>
    match xs with
    | [] => simp [noPk, bLetter, isTy, nin12, isLt, lim]
    | [a] => cases a with
      | str z => simp [noPk, bLetter, isTy, nin12, isLt, lcLoop, lcTurn, fAll, bools?, d_eqi, T.cg7, T.cg8, T.cg9, T.cg10, lim, in_four]
      | _ => simp [noPk, bLetter, isTy, nin12, isLt, lcLoop, lcTurn, fAll, bools?, lim]
    | [a, b] => cases a with
      | str y => cases b with
        | str z =>
          cases e : (y == ("word" : Str)) with
          | true => simp [noPk, bLetter, isTy, nin12, isLt, lcLoop, lcTurn, fAll, bools?, d_eqi, d_eqs, T.cg2, T.cg3, T.cg4, T.cg5, T.cg6, lim, in_words, nth0, nth1, nth2, e]
          | false => simp [noPk, bLetter, isTy, nin12, isLt, lcLoop, lcTurn, fAll, bools?, d_eqi, d_eqs, T.cg2, T.cg3, T.cg4, T.cg5, T.cg6, lim, in_words, nth0, nth1, nth2, e]
        | _ => simp [noPk, bLetter, isTy, nin12, isLt, lcLoop, lcTurn, fAll, bools?, lim]
      | _ => cases b with
        | str z => simp [noPk, bLetter, isTy, nin12, isLt, lcLoop, lcTurn, fAll, bools?, lim]
        | _ => simp [noPk, bLetter, isTy, nin12, isLt, lcLoop, lcTurn, fAll, bools?, lim]
    | a :: b :: c :: r =>
      obtain ⟨m, fl, hm⟩ : ∃ m : Int, fLen [.tuple (a :: b :: c :: r)] = some (.int m) ∧ 3 ≤ m := ⟨_, rfl, by simp; omega⟩
      have q1 : ((1 : Int) == m) = false := by rw [beq_eq_false_iff_ne]; omega
      have q2 : ((2 : Int) == m) = false := by rw [beq_eq_false_iff_ne]; omega
      simp [-d_lent, noPk, bLetter, isTy, fl, nin12, isLt, q1, q2, lim]
  | _ => simp [noPk, bLetter, isTy, isLt]
theorem q_tt (a b : List D) : PyData.eqv (.tuple a) (.tuple b) = PyData.eqvAll a b := by rw [PyData.eqv]
theorem q_s (a : Str) (x : D) : PyData.eqv (.str a) x = (match x with | .str b => a == b | _ => false) := by cases x <;> (rw [PyData.eqv] <;> rfl)
theorem q_nn : PyData.eqvAll [] [] = true := by rw [PyData.eqvAll]
theorem q_nc (a : D) (r : List D) : PyData.eqvAll [] (a :: r) = false := by rw [PyData.eqvAll] <;> simp
theorem q_cn (a : D) (r : List D) : PyData.eqvAll (a :: r) [] = false := by rw [PyData.eqvAll] <;> simp
theorem q_cc (a b : D) (r t : List D) : PyData.eqvAll (a :: r) (b :: t) = (PyData.eqv a b && PyData.eqvAll r t) := by rw [PyData.eqvAll]
theorem lt_inD (x : D) : (inD x four || inD x words) = isLt x := by
  cases x with
  | tuple xs =>
    match xs with
    | [] => simp [inD, four, words, q_tt, q_cn, isLt]
    | [a] => cases a <;> simp [inD, four, words, q_tt, q_cn, q_cc, q_nn, q_nc, q_s, isLt]
    | [a, b] => cases a with
      | str y =>
        have e : ((("word" : Str)) == y) = (y == ("word" : Str)) := by rw [Bool.eq_iff_iff, beq_iff_eq, beq_iff_eq, eq_comm]
        cases b with
        | str z => cases c : (y == ("word" : Str)) <;> simp [inD, four, words, q_tt, q_cn, q_cc, q_nn, q_nc, q_s, isLt, e, c]
        | _ => simp [inD, four, words, q_tt, q_cn, q_cc, q_nn, q_nc, q_s, isLt]
      | _ => simp [inD, four, words, q_tt, q_cn, q_cc, q_nn, q_nc, q_s, isLt]
    | a :: b :: c :: r => simp [inD, four, words, q_tt, q_cn, q_cc, q_nn, q_nc, q_s, isLt]
  | _ => simp [inD, four, words, PyData.eqv, isLt]
theorem four_pl : four.all plainD = true := by decide +kernel
theorem words_pl : words.all plainD = true := by decide +kernel
/-- a part is plain, or a dict -/
def Pl (x : D) : Prop := plainD x = true ∨ ∃ kvs, x = .dict kvs ∧ isX kvs = false
theorem fin_four {x : D} (h : Pl x) : fIn [x, .list four] = some (.bool (inD x four)) ∧ fIn [x, .list words] = some (.bool (inD x words)) := by
  rcases h with h | ⟨kvs, rfl, hx⟩
  · exact ⟨by unfold fIn; simp only [h, four_pl, Bool.and_self, if_true], by unfold fIn; simp only [h, words_pl, Bool.and_self, if_true]⟩
  · exact ⟨by simp [fIn, plainD, PyData.plain, dictNo, four, isTupD, inD, PyData.eqv, hx], by simp [fIn, plainD, PyData.plain, dictNo, words, isTupD, inD, PyData.eqv, hx]⟩
theorem kind_n (T : WhT fs consts ct nm lt kd wh gl gm gi go gc gb gw l1 l2 l3 l4) {x : D} (h : Sm x) : callF fs consts (k + 2) kd [.d x, .d (.str "n")] hp = .ok (.d (.bool (isNm x))) hp := by
  have e := name_call (k := k) (hp := hp) T.t1 T.cg0 T.cg1 h
  have q : (("n" : Str) == "n") = true := by decide
  rw [callF, T.t3]
  simp [noPk, bKind, d_eqs, q, e]
theorem kind_c (T : WhT fs consts ct nm lt kd wh gl gm gi go gc gb gw l1 l2 l3 l4) (x : D) : callF fs consts (k + 2) kd [.d x, .d (.str "c")] hp = .ok (.d (.bool (isCt x))) hp := by
  have e := count_call (k := k) (hp := hp) (consts := consts) T.t0 x
  have q : (("c" : Str) == "n") = false := by decide
  have q2 : (("c" : Str) == "c") = true := by decide
  rw [callF, T.t3]
  simp [noPk, bKind, d_eqs, q, q2, e]
theorem kind_l (T : WhT fs consts ct nm lt kd wh gl gm gi go gc gb gw l1 l2 l3 l4) (x : D) : callF fs consts (k + 2) kd [.d x, .d (.str "l")] hp = .ok (.d (.bool (isLt x))) hp := by
  have e := letter_call T (k := k) (hp := hp) x
  have q : (("l" : Str) == "n") = false := by decide
  have q2 : (("l" : Str) == "c") = false := by decide
  rw [callF, T.t3]
  simp [noPk, bKind, d_eqs, q, q2, e]
/-! ### what hands do -/
def one1 (f : D → Bool) : List D → Bool
  | [y] => f y
  | _ => false
def two2 (f g : D → Bool) : List D → Bool
  | [y, w] => f y && g w
  | _ => false
def isWh : D → Bool
  | .tuple (.str z :: rest) =>
    if "wish" == z || "unwish" == z then rest.isEmpty
    else if "join" == z || ("part" == z || "out" == z) then one1 isNm rest
    else if z == "room" then one1 isCt rest
    else if "put" == z || "hear" == z then (if z == "put" then two2 isNm isCt rest else two2 isNm isLt rest)
    else false
  | _ => false
def whats : List (Str × Str) := [("wish", ""), ("unwish", ""), ("join", "n"), ("part", "n"), ("put", "nc"), ("out", "n"), ("room", "c"), ("hear", "nl")]
theorem cut1 (a : D) (r : List D) : cut (a :: r) (some 1) none = r := cut_from (a :: r) (i := 1)
theorem what_no (T : WhT fs consts ct nm lt kd wh gl gm gi go gc gb gw l1 l2 l3 l4) {z : Str} {rest : List D} (h : fDin whats true [.str z] = some (.bool true)) : callF fs consts (k + 1) wh [.d (.tuple (.str z :: rest))] hp = .ok (.d (.bool false)) hp := by
  simp only [whats] at h
  obtain ⟨m, fl, hm⟩ : ∃ m : Int, fLen [.tuple (.str z :: rest)] = some (.int m) ∧ 1 ≤ m := ⟨_, rfl, by simp; omega⟩
  have q1 : (m == 0) = false := by rw [beq_eq_false_iff_ne]; omega
  rw [callF, T.t4]
  simp [-d_lent, noPk, bWhat, isTy, fl, d_eqi, q1, nth0, nth1, nth2, h]
theorem what0 (T : WhT fs consts ct nm lt kd wh gl gm gi go gc gb gw l1 l2 l3 l4) {z κ : Str} {rest : List D} (h1 : fDin whats true [.str z] = some (.bool false)) (h2 : fDat whats [.str z] = some (.str κ)) (h3 : fLen [.str κ] = some (.int 0)) (h4 : seqItems (.str κ) = some []) :
    callF fs consts (k + 1) wh [.d (.tuple (.str z :: rest))] hp = .ok (.d (.bool rest.isEmpty)) hp := by
  simp only [whats] at h1 h2
  rw [callF, T.t4]
  match rest with
  | [] => simp [-seq_s, noPk, bWhat, isTy, d_eqi, nth0, nth1, nth2, h1, h2, h3, h4, fSlice, part?, cut1, fToi, lcLoop, lim, fAll, bools?]
  | y :: r =>
    obtain ⟨m, fl, hm⟩ : ∃ m : Int, fLen [.tuple (.str z :: y :: r)] = some (.int m) ∧ 2 ≤ m := ⟨_, rfl, by simp; omega⟩
    have q1 : (m == 0) = false := by rw [beq_eq_false_iff_ne]; omega
    have q2 : (m == 1) = false := by rw [beq_eq_false_iff_ne]; omega
    simp [-seq_s, -d_lent, noPk, bWhat, isTy, fl, q1, q2, d_eqi, nth0, nth1, nth2, h1, h2, h3]
theorem what1 (T : WhT fs consts ct nm lt kd wh gl gm gi go gc gb gw l1 l2 l3 l4) {z κ a : Str} {rest : List D} {f : D → Bool} (h1 : fDin whats true [.str z] = some (.bool false)) (h2 : fDat whats [.str z] = some (.str κ)) (h3 : fLen [.str κ] = some (.int 1)) (h4 : seqItems (.str κ) = some [.str a])
    (h5 : ∀ y ∈ rest, callF fs consts k kd [.d y, .d (.str a)] hp = .ok (.d (.bool (f y))) hp) : callF fs consts (k + 1) wh [.d (.tuple (.str z :: rest))] hp = .ok (.d (.bool (one1 f rest))) hp := by
  simp only [whats] at h1 h2
  rw [callF, T.t4]
  match rest, h5 with
  | [], h5 => simp [-seq_s, one1, two2, noPk, bWhat, isTy, d_eqi, nth0, nth1, nth2, h1, h2, h3]
  | [y], h5 =>
    have e := h5 y (List.mem_singleton.mpr rfl)
    simp [-seq_s, one1, two2, noPk, bWhat, isTy, d_eqi, nth0, nth1, nth2, h1, h2, h3, h4, fSlice, part?, cut1, fToi, lcLoop, lcTurn, e, lim, fAll, bools?]
  | y :: w :: r, h5 =>
    obtain ⟨m, fl, hm⟩ : ∃ m : Int, fLen [.tuple (.str z :: y :: w :: r)] = some (.int m) ∧ 3 ≤ m := ⟨_, rfl, by simp; omega⟩
    have q1 : (m == 0) = false := by rw [beq_eq_false_iff_ne]; omega
    have q2 : (m == 2) = false := by rw [beq_eq_false_iff_ne]; omega
    simp [-seq_s, one1, two2, -d_lent, noPk, bWhat, isTy, fl, q1, q2, d_eqi, nth0, nth1, nth2, h1, h2, h3]
theorem what2 (T : WhT fs consts ct nm lt kd wh gl gm gi go gc gb gw l1 l2 l3 l4) {z κ a b : Str} {rest : List D} {f g : D → Bool} (h1 : fDin whats true [.str z] = some (.bool false)) (h2 : fDat whats [.str z] = some (.str κ)) (h3 : fLen [.str κ] = some (.int 2)) (h4 : seqItems (.str κ) = some [.str a, .str b])
    (h5 : ∀ y ∈ rest, callF fs consts k kd [.d y, .d (.str a)] hp = .ok (.d (.bool (f y))) hp) (h6 : ∀ y ∈ rest, callF fs consts k kd [.d y, .d (.str b)] hp = .ok (.d (.bool (g y))) hp) :
    callF fs consts (k + 1) wh [.d (.tuple (.str z :: rest))] hp = .ok (.d (.bool (two2 f g rest))) hp := by
  simp only [whats] at h1 h2
  rw [callF, T.t4]
  match rest, h5, h6 with
  | [], h5, h6 => simp [-seq_s, one1, two2, noPk, bWhat, isTy, d_eqi, nth0, nth1, nth2, h1, h2, h3]
  | [y], h5, h6 => simp [-seq_s, one1, two2, noPk, bWhat, isTy, d_eqi, nth0, nth1, nth2, h1, h2, h3]
  | [y, w], h5, h6 =>
    have e1 := h5 y List.mem_cons_self
    have e2 := h6 w (List.mem_cons_of_mem _ List.mem_cons_self)
    simp [-seq_s, one1, two2, noPk, bWhat, isTy, d_eqi, nth0, nth1, nth2, h1, h2, h3, h4, fSlice, part?, cut1, fToi, lcLoop, lcTurn, e1, e2, lim, fAll, bools?]
  | y :: w :: v :: r, h5, h6 =>
    obtain ⟨m, fl, hm⟩ : ∃ m : Int, fLen [.tuple (.str z :: y :: w :: v :: r)] = some (.int m) ∧ 4 ≤ m := ⟨_, rfl, by simp; omega⟩
    have q1 : (m == 0) = false := by rw [beq_eq_false_iff_ne]; omega
    have q2 : (m == 3) = false := by rw [beq_eq_false_iff_ne]; omega
    simp [-seq_s, one1, two2, -d_lent, noPk, bWhat, isTy, fl, q1, q2, d_eqi, nth0, nth1, nth2, h1, h2, h3]
theorem w_nil : fLen [.str ""] = some (.int 0) ∧ seqItems (.str "") = some [] := by constructor <;> kernel_rfl
theorem w_n : fLen [.str "n"] = some (.int 1) ∧ seqItems (.str "n") = some [.str "n"] := by constructor <;> kernel_rfl
theorem w_c : fLen [.str "c"] = some (.int 1) ∧ seqItems (.str "c") = some [.str "c"] := by constructor <;> kernel_rfl
theorem w_nc : fLen [.str "nc"] = some (.int 2) ∧ seqItems (.str "nc") = some [.str "n", .str "c"] := by constructor <;> kernel_rfl
theorem w_nl : fLen [.str "nl"] = some (.int 2) ∧ seqItems (.str "nl") = some [.str "n", .str "l"] := by constructor <;> kernel_rfl
theorem din_none {z : Str} (h : z ≠ "wish" ∧ z ≠ "unwish" ∧ z ≠ "join" ∧ z ≠ "part" ∧ z ≠ "put" ∧ z ≠ "out" ∧ z ≠ "room" ∧ z ≠ "hear") : fDin whats true [.str z] = some (.bool true) := by
  obtain ⟨h0, h1, h2, h3, h4, h5, h6, h7⟩ := h
  have q : ∀ y : Str, z ≠ y → (z == y) = false := fun y e => beq_eq_false_iff_ne.mpr e
  simp [fDin, whats, List.lookup, q _ h0, q _ h1, q _ h2, q _ h3, q _ h4, q _ h5, q _ h6, q _ h7]
/-- what is_what tells -/
theorem what_call (T : WhT fs consts ct nm lt kd wh gl gm gi go gc gb gw l1 l2 l3 l4) {x : D} (h : ∀ xs, x = .tuple xs → ∀ y ∈ xs, Sm y) : callF fs consts (k + 3) wh [.d x] hp = .ok (.d (.bool (isWh x))) hp := by
  cases x with
  | tuple xs =>
    match xs, h with
    | [], _ =>
      rw [callF, T.t4]
      simp [noPk, bWhat, isTy, d_eqi, isWh]
    | a :: rest, h =>
      obtain ⟨m, fl, hm⟩ : ∃ m : Int, fLen [.tuple (a :: rest)] = some (.int m) ∧ 1 ≤ m := ⟨_, rfl, by simp; omega⟩
      have q1 : (m == 0) = false := by rw [beq_eq_false_iff_ne]; omega
      cases a with
      | str z =>
        have sm : ∀ y ∈ rest, Sm y := fun y hy => h _ rfl y (List.mem_cons_of_mem _ hy)
        by_cases h0 : z = "wish"
        · subst h0
          rw [show isWh (.tuple (.str "wish" :: rest)) = rest.isEmpty by kernel_rfl]
          exact what0 T (k := k + 2) (hp := hp) (rest := rest) (z := "wish") (κ := "") (by kernel_rfl) (by kernel_rfl) w_nil.1 w_nil.2
        by_cases h1 : z = "unwish"
        · subst h1
          rw [show isWh (.tuple (.str "unwish" :: rest)) = rest.isEmpty by kernel_rfl]
          exact what0 T (k := k + 2) (hp := hp) (rest := rest) (z := "unwish") (κ := "") (by kernel_rfl) (by kernel_rfl) w_nil.1 w_nil.2
        by_cases h2 : z = "join"
        · subst h2
          rw [show isWh (.tuple (.str "join" :: rest)) = one1 isNm rest by kernel_rfl]
          exact what1 T (k := k + 2) (hp := hp) (rest := rest) (z := "join") (κ := "n") (by kernel_rfl) (by kernel_rfl) w_n.1 w_n.2 (f := isNm) fun y hy => kind_n T (sm y hy)
        by_cases h3 : z = "part"
        · subst h3
          rw [show isWh (.tuple (.str "part" :: rest)) = one1 isNm rest by kernel_rfl]
          exact what1 T (k := k + 2) (hp := hp) (rest := rest) (z := "part") (κ := "n") (by kernel_rfl) (by kernel_rfl) w_n.1 w_n.2 (f := isNm) fun y hy => kind_n T (sm y hy)
        by_cases h4 : z = "out"
        · subst h4
          rw [show isWh (.tuple (.str "out" :: rest)) = one1 isNm rest by kernel_rfl]
          exact what1 T (k := k + 2) (hp := hp) (rest := rest) (z := "out") (κ := "n") (by kernel_rfl) (by kernel_rfl) w_n.1 w_n.2 (f := isNm) fun y hy => kind_n T (sm y hy)
        by_cases h5 : z = "room"
        · subst h5
          rw [show isWh (.tuple (.str "room" :: rest)) = one1 isCt rest by kernel_rfl]
          exact what1 T (k := k + 2) (hp := hp) (rest := rest) (z := "room") (κ := "c") (by kernel_rfl) (by kernel_rfl) w_c.1 w_c.2 (f := isCt) fun y hy => kind_c T y
        by_cases h6 : z = "put"
        · subst h6
          rw [show isWh (.tuple (.str "put" :: rest)) = two2 isNm isCt rest by kernel_rfl]
          exact what2 T (k := k + 2) (hp := hp) (rest := rest) (z := "put") (κ := "nc") (by kernel_rfl) (by kernel_rfl) w_nc.1 w_nc.2 (f := isNm) (g := isCt) (fun y hy => kind_n T (sm y hy)) fun y hy => kind_c T y
        by_cases h7 : z = "hear"
        · subst h7
          rw [show isWh (.tuple (.str "hear" :: rest)) = two2 isNm isLt rest by kernel_rfl]
          exact what2 T (k := k + 2) (hp := hp) (rest := rest) (z := "hear") (κ := "nl") (by kernel_rfl) (by kernel_rfl) w_nl.1 w_nl.2 (f := isNm) (g := isLt) (fun y hy => kind_n T (sm y hy)) fun y hy => kind_l T y
        have q : ∀ y : Str, z ≠ y → (y == z) = false := fun y e => beq_eq_false_iff_ne.mpr fun e2 => e e2.symm
        have q2 : (z == ("room" : Str)) = false := beq_eq_false_iff_ne.mpr h5
        rw [what_no T (din_none ⟨h0, h1, h2, h3, h6, h4, h5, h7⟩)]
        simp [isWh, q _ h0, q _ h1, q _ h2, q _ h3, q _ h4, q _ h6, q _ h7, q2]
      | _ =>
        rw [callF, T.t4]
        simp [-d_lent, noPk, bWhat, isTy, fl, d_eqi, q1, nth0, isWh]
  | _ =>
    rw [callF, T.t4]
    simp [noPk, bWhat, isTy, isWh]
end
end EV
end
section
set_option Elab.async false
set_option linter.all false
set_option maxRecDepth 100000
set_option maxHeartbeats 4000000
set_option autoImplicit false
/-! EvTx: texts of places, letters, deeds: finite facts, what the operations make of them -/
namespace EV
open PySem PySem.Spec L2
def baseS : List Str := ["in", "out", "clear", "barred", "open", "heard", "chair", "back", "wishes", "house", "guest", "wish", "a", "an", "ann", "anna", "bo", "zzzzzzzz", "z", "eightlet"]
theorem base_S : base = baseS.map PyData.str := rfl
def placeT (a b : Str) : Str := a ++ "." ++ b
def lets : List (List Str) := [["open"], ["heard"], ["chair"], ["back"], ["word", "in"], ["word", "out"], ["word", "clear"], ["word", "barred"]]
def numsN : List Nat := List.range 12 ++ [999999997, 999999998, 999999999]
def numT (n : Nat) : Str := toString (n : Int)
def figs : Str := "0123456789"
/-- no blank, no point within -/
def clean (z : Str) : Bool := !(z.cps.toList.contains 32) && !(z.cps.toList.contains 46)
theorem base_fin : ∀ a ∈ baseS, isNm (.str a) = true ∧ okD 3 (.str a) = true ∧ a.length ≤ 8 ∧ clean a = true := by decide +kernel
theorem txt_join (y : Str) (ws : List Str) : Txt.join y ws = Str.join y ws := PySem.StrLaws.glued_eq_join y ws
theorem tl_inj {x y : Str} (h : TL.tl x = TL.tl y) : x = y := by
  obtain ⟨a⟩ := x
  obtain ⟨b⟩ := y
  have h : a.toList = b.toList := h
  rw [Array.toList_inj.mp h]
theorem map_tl_inj : ∀ {xs ys : List Str}, xs.map TL.tl = ys.map TL.tl → xs = ys
  | [], [], _ => rfl
  | [], _ :: _, h => by cases h
  | _ :: _, [], h => by cases h
  | x :: xs, y :: ys, h => by
    rw [List.map_cons, List.map_cons, List.cons.injEq] at h
    rw [tl_inj h.1, map_tl_inj h.2]
theorem split_join {c : Nat} (hc : c < 256) {ws : List Str} (hne : ws ≠ []) (h : ∀ p ∈ ws, c ∉ TL.tl p) : Txt.split (Txt.join ⟨#[c]⟩ ws) ⟨#[c]⟩ = ws := by
  have k1 : Builtin.Str.strKind ⟨#[c]⟩ = 1 := by
    unfold Builtin.Str.strKind
    rw [if_pos (by simp [hc])]
  have k : ∀ x : Str, ¬ Builtin.Str.strKind x < Builtin.Str.strKind ⟨#[c]⟩ := fun x => by
    rw [k1]
    unfold Builtin.Str.strKind
    split
    · omega
    · split <;> omega
  have e := TL.split_spl (Txt.join ⟨#[c]⟩ ws) ⟨#[c]⟩ (fun z => by cases z) (k _)
  refine map_tl_inj ?_
  rw [e, txt_join, TL.tl_join]
  exact TL.spl_join (s := c) (S := []) (by simpa using hne) fun p hp => by
    obtain ⟨w, hw, rfl⟩ := List.mem_map.mp hp
    exact h w hw
theorem lit_sp : (" " : Str) = ⟨#[32]⟩ := by decide
theorem lit_dot : ("." : Str) = ⟨#[46]⟩ := by decide
theorem clean_sp {z : Str} (h : clean z = true) : 32 ∉ TL.tl z := by
  simp only [clean, Bool.and_eq_true, Bool.not_eq_true'] at h
  intro m
  have := h.1
  rw [List.contains_eq_mem] at this
  exact absurd (show 32 ∈ z.cps.toList from m) (by simpa using this)
theorem clean_dot {z : Str} (h : clean z = true) : 46 ∉ TL.tl z := by
  simp only [clean, Bool.and_eq_true, Bool.not_eq_true'] at h
  intro m
  have := h.2
  rw [List.contains_eq_mem] at this
  exact absurd (show 46 ∈ z.cps.toList from m) (by simpa using this)
theorem split_sp {ws : List Str} (hne : ws ≠ []) (h : ∀ p ∈ ws, clean p = true) : Txt.split (Txt.join " " ws) " " = ws := by
  rw [lit_sp]
  exact split_join (by decide) hne fun p hp => clean_sp (h p hp)
theorem join_len (y : Str) (ws : List Str) : (Txt.join y ws).length ≤ (ws.map (·.length)).sum + ws.length * y.length := by
  rw [txt_join]
  exact PySem.StrLaws.join_length_le y ws
theorem dot_len : Str.length "." = 1 := by decide
theorem sp_len : Str.length " " = 1 := by decide
theorem place_fin : ∀ a ∈ baseS, ∀ b ∈ baseS, Txt.join "." [a, b] = placeT a b ∧ Txt.split (placeT a b) "." = [a, b] ∧ (placeT a b).length ≤ 17 ∧ ([a, b].map (·.length)).sum + [a, b].length * (Str.length ".") ≤ 1000 := fun a ha b hb => by
  obtain ⟨_, _, la, ca⟩ := base_fin a ha
  obtain ⟨_, _, lb, cb⟩ := base_fin b hb
  have e : Txt.join "." [a, b] = placeT a b := txt_join _ _
  refine ⟨e, ?_, ?_, ?_⟩
  · rw [← e, lit_dot]
    refine split_join (by decide) (by simp) fun p hp => ?_
    simp only [List.mem_cons, List.not_mem_nil, or_false] at hp
    rcases hp with rfl | rfl
    · exact clean_dot ca
    · exact clean_dot cb
  · unfold placeT
    rw [len_app, len_app, dot_len]
    omega
  · rw [dot_len]
    simp
    omega
theorem lets_fin : ∀ l ∈ lets, Txt.split (Txt.join " " l) " " = l ∧ (Txt.join " " l).length ≤ 17 ∧ (l.map (·.length)).sum + l.length * (Str.length " ") ≤ 1000 ∧ okD 3 (.tuple (l.map .str)) = true ∧ wt (.tuple (l.map .str)) ≤ 100 ∧ (PyData.tuple (l.map .str)).depth ≤ 1 ∧ l.length ≤ 2 := by decide +kernel
theorem lets_clean : ∀ l ∈ lets, l ≠ [] ∧ ∀ z ∈ l, clean z = true ∧ z.length ≤ 8 := by decide +kernel
theorem lets_lt : ∀ l ∈ lets, isLt (.tuple (l.map .str)) = true := by decide +kernel
def numB (n : Nat) : Bool := let w := numT n
  decide (1 ≤ w.length) && (decide (w.length ≤ 9) && ((w.cps.toList.all fun c => decide (c ∈ figs.cps.toList)) && (decide (PySem.intText? w = some (n : Int)) && (decide ((n : Int).natAbs.log2 < 1920) && clean w && (match w.cps.toList with | c :: _ => w == "0" || !((⟨#[c]⟩ : Str) == "0") | [] => false)))))
theorem nums_fin : ∀ n ∈ numsN, numB n = true := by decide +kernel
/-- a deed, as parts behind its word -/
inductive Part where
  | nm (z : Str) | num (n : Nat) | let (l : List Str)
def Part.d : Part → D
  | .nm z => .str z
  | .num n => .int n
  | .let l => .tuple (l.map .str)
def Part.one : Part → Str
  | .nm z => z
  | .num n => numT n
  | .let l => Txt.join " " l
def Part.flat : Part → List Str
  | .nm z => [z]
  | .num n => [numT n]
  | .let l => l
def whatD (ps : List Part) : D := .tuple (ps.map Part.d)
def whatT (ps : List Part) : Str := Txt.join " " (ps.map Part.flat).flatten
/-- the deeds that the laws draw -/
inductive GoodW : List Part → Prop where
  | w0 {z : Str} : z ∈ (["wish", "unwish"] : List Str) → GoodW [.nm z]
  | w1 {z a : Str} : z ∈ (["join", "part", "out"] : List Str) → a ∈ baseS → GoodW [.nm z, .nm a]
  | w2 {a : Str} {n : Nat} : a ∈ baseS → n ∈ numsN → GoodW [.nm "put", .nm a, .num n]
  | w3 {n : Nat} : n ∈ numsN → GoodW [.nm "room", .num n]
  | w4 {a : Str} {l : List Str} : a ∈ baseS → l ∈ lets → GoodW [.nm "hear", .nm a, .let l]
structure Wf (ps : List Part) : Prop where
  one : Txt.join " " (ps.map Part.one) = whatT ps
  spl : Txt.split (whatT ps) " " = (ps.map Part.flat).flatten
  len : (whatT ps).length ≤ 100
  wh : isWh (whatD ps) = true
  s1 : ((ps.map Part.one).map (·.length)).sum + (ps.map Part.one).length * (Str.length " ") ≤ 1000
  s2 : (((ps.map Part.flat).flatten).map (·.length)).sum + ((ps.map Part.flat).flatten).length * (Str.length " ") ≤ 1000
  ok : okD 3 (whatD ps) = true
  wt : wt (whatD ps) ≤ 400
  dp : (whatD ps).depth ≤ 2
structure Nf (n : Nat) : Prop where
  lo : 1 ≤ (numT n).length
  hi : (numT n).length ≤ 9
  fig : ((numT n).cps.toList.all fun c => decide (c ∈ figs.cps.toList)) = true
  it : PySem.intText? (numT n) = some (n : Int)
  lg : (n : Int).natAbs.log2 < 1920
  hd : ∃ c r, (numT n).cps.toList = c :: r ∧ (numT n == "0" || !((⟨#[c]⟩ : Str) == "0")) = true
theorem nf_of {n : Nat} (h : n ∈ numsN) : Nf n := by
  have := nums_fin n h
  simp only [numB, Bool.and_eq_true, decide_eq_true_eq] at this
  obtain ⟨a, b, c, d, ⟨e, _⟩, f⟩ := this
  refine ⟨a, b, c, d, e, ?_⟩
  cases q : (numT n).cps.toList with
  | nil => rw [q] at f; cases f
  | cons c r => rw [q] at f; exact ⟨c, r, rfl, f⟩
/-- a part of a deed, well formed -/
structure PartOk (p : Part) : Prop where
  ne : p.flat ≠ []
  cl : ∀ z ∈ p.flat, clean z = true ∧ z.length ≤ 9
  one : p.one = Txt.join " " p.flat
  few : p.flat.length ≤ 2
  ok : okD 3 p.d = true
  wt : wt p.d ≤ 100
  dp : p.d.depth ≤ 1
theorem join_one (z : Str) : Txt.join " " [z] = z := txt_join _ _
theorem part_nm {z : Str} (c : clean z = true) (l : z.length ≤ 8) (o : okD 3 (.str z) = true) : PartOk (.nm z) where
  ne := by simp [Part.flat]
  cl := fun y hy => by simp only [Part.flat, List.mem_singleton] at hy; subst hy; exact ⟨c, by omega⟩
  one := (join_one z).symm
  few := by show 1 ≤ 2; omega
  ok := o
  wt := by show EV.wt (.str z) ≤ 100; rw [EV.wt]; omega
  dp := by show PyData.depth (.str z) ≤ 1; rw [PyData.depth]; omega
theorem part_base {a : Str} (h : a ∈ baseS) : PartOk (.nm a) := by
  obtain ⟨_, o, l, c⟩ := base_fin a h
  exact part_nm c l o
def verbs : List Str := ["wish", "unwish", "join", "part", "out", "put", "room", "hear"]
theorem verbs_fin : ∀ z ∈ verbs, clean z = true ∧ z.length ≤ 8 ∧ okD 3 (.str z) = true := by decide +kernel
theorem part_verb {z : Str} (h : z ∈ verbs) : PartOk (.nm z) := by
  obtain ⟨c, l, o⟩ := verbs_fin z h
  exact part_nm c l o
theorem nums_ok : ∀ n ∈ numsN, okD 3 (.int (n : Nat)) = true ∧ clean (numT n) = true := by decide +kernel
theorem part_num {n : Nat} (h : n ∈ numsN) : PartOk (.num n) where
  ne := by simp [Part.flat]
  cl := fun y hy => by simp only [Part.flat, List.mem_singleton] at hy; subst hy; exact ⟨(nums_ok n h).2, (nf_of h).hi⟩
  one := (join_one _).symm
  few := by show 1 ≤ 2; omega
  ok := (nums_ok n h).1
  wt := by show EV.wt (.int n) ≤ 100; rw [EV.wt]; omega
  dp := by show PyData.depth (.int n) ≤ 1; rw [PyData.depth]; omega
theorem part_let {l : List Str} (h : l ∈ lets) : PartOk (.let l) := by
  obtain ⟨f1, f2, f3, f4, f5, f6, f7⟩ := lets_fin l h
  obtain ⟨g1, g2⟩ := lets_clean l h
  exact ⟨g1, fun z hz => ⟨(g2 z hz).1, by have := (g2 z hz).2; omega⟩, rfl, f7, f4, f5, f6⟩
theorem join_cons (x y : Str) (r : List Str) : Txt.join " " (x :: y :: r) = x ++ " " ++ Txt.join " " (y :: r) := by rw [txt_join, txt_join]; rfl
theorem app_assoc (a b c : Str) : a ++ b ++ c = a ++ (b ++ c) := Str.append_assoc a b c
theorem join_app (y : Str) (ys : List Str) : ∀ xs : List Str, xs ≠ [] → Txt.join " " (xs ++ y :: ys) = Txt.join " " xs ++ " " ++ Txt.join " " (y :: ys)
  | [], h => absurd rfl h
  | [x], _ => by rw [List.singleton_append, join_cons, join_one]
  | x :: z :: r, _ => by
    rw [List.cons_append, List.cons_append, join_cons, join_cons, ← List.cons_append, join_app y ys (z :: r) (by simp)]
    simp only [app_assoc]
theorem join_flat : ∀ ps : List Part, (∀ p ∈ ps, PartOk p) → Txt.join " " (ps.map Part.one) = whatT ps
  | [], _ => rfl
  | [p], h => by
    have := h p List.mem_cons_self
    simp only [List.map_cons, List.map_nil, whatT, List.flatten_cons, List.flatten_nil, List.append_nil]
    rw [join_one, this.one]
  | p :: q :: r, h => by
    have hp := h p List.mem_cons_self
    have ih := join_flat (q :: r) fun x hx => h x (List.mem_cons_of_mem _ hx)
    have hq := (h q (List.mem_cons_of_mem _ List.mem_cons_self)).ne
    simp only [List.map_cons] at ih ⊢
    rw [join_cons, ih, hp.one]
    simp only [whatT, List.map_cons, List.flatten_cons]
    cases e : q.flat with
    | nil => exact absurd e hq
    | cons z zs =>
      rw [List.cons_append, join_app _ _ _ hp.ne]
theorem sum_le {ws : List Str} {b : Nat} (h : ∀ z ∈ ws, z.length ≤ b) : (ws.map (·.length)).sum ≤ b * ws.length := by
  induction ws with
  | nil => simp
  | cons x r ih =>
    have h1 := h x List.mem_cons_self
    have h2 := ih fun z hz => h z (List.mem_cons_of_mem _ hz)
    rw [List.map_cons, List.sum_cons, List.length_cons, Nat.mul_add]
    omega
theorem flat_two : ∀ {ps : List Part}, (∀ p ∈ ps, PartOk p) → ((ps.map Part.flat).flatten).length ≤ 2 * ps.length
  | [], _ => by simp
  | p :: r, h => by
    have h1 := (h p List.mem_cons_self).few
    have h2 := flat_two (ps := r) fun x hx => h x (List.mem_cons_of_mem _ hx)
    rw [List.map_cons, List.flatten_cons, List.length_append, List.length_cons]
    omega
theorem flat_mem {ps : List Part} (h : ∀ p ∈ ps, PartOk p) : ∀ z ∈ (ps.map Part.flat).flatten, clean z = true ∧ z.length ≤ 9 := fun z hz => by
  obtain ⟨l, hl, hz⟩ := List.mem_flatten.mp hz
  obtain ⟨p, hp, rfl⟩ := List.mem_map.mp hl
  exact (h p hp).cl z hz
theorem wf_of {ps : List Part} (h : ∀ p ∈ ps, PartOk p) (ne : ps ≠ []) (few : ps.length ≤ 3) (wh : isWh (whatD ps) = true) : Wf ps := by
  have ff := flat_two h
  have fm := flat_mem h
  have s2 : (((ps.map Part.flat).flatten).map (·.length)).sum ≤ 9 * ((ps.map Part.flat).flatten).length := sum_le fun z hz => (fm z hz).2
  have fne : (ps.map Part.flat).flatten ≠ [] := by
    cases ps with
    | nil => exact absurd rfl ne
    | cons p r =>
      have := (h p List.mem_cons_self).ne
      rw [List.map_cons, List.flatten_cons]
      exact fun z => this (List.append_eq_nil_iff.mp z).1
  have ol : ∀ p ∈ ps, p.one.length ≤ 20 := fun p hp => by
    have q := h p hp
    rw [q.one]
    have l1 := join_len " " p.flat
    have l2 := sum_le (b := 9) fun z hz => (q.cl z hz).2
    have l3 := q.few
    rw [sp_len] at l1
    omega
  have s1 : ((ps.map Part.one).map (·.length)).sum ≤ 20 * (ps.map Part.one).length := sum_le fun z hz => by
    obtain ⟨p, hp, rfl⟩ := List.mem_map.mp hz
    exact ol p hp
  rw [List.length_map] at s1
  have tl := join_len " " (ps.map Part.flat).flatten
  rw [sp_len] at tl
  have wa : ∀ {w : Nat} {xs : List Part}, (∀ x ∈ xs, EV.wt x.d ≤ w) → wtAll (xs.map Part.d) ≤ (w + 2) * xs.length := fun {w xs} hx => by
    have := wt_all (w := w) (xs := xs.map Part.d) fun x hx' => by
      obtain ⟨p, hp, rfl⟩ := List.mem_map.mp hx'
      exact hx p hp
    rw [List.length_map] at this
    exact this
  have w1 := wa fun p hp => (h p hp).wt
  have d1 : PyData.depthAll (ps.map Part.d) ≤ 1 := dp_le.mpr fun x hx => by
    obtain ⟨p, hp, rfl⟩ := List.mem_map.mp hx
    exact (h p hp).dp
  refine ⟨join_flat ps h, split_sp fne fun z hz => (fm z hz).1, by show (Txt.join " " _).length ≤ 100; omega, wh, by rw [sp_len, List.length_map]; omega, by rw [sp_len]; omega, ok_tup.mpr ⟨by rw [List.length_map]; exact few, fun x hx => ?_⟩, by show EV.wt (.tuple (ps.map Part.d)) ≤ 400; rw [EV.wt]; omega, by show PyData.depth (.tuple (ps.map Part.d)) ≤ 2; rw [PyData.depth]; omega⟩
  obtain ⟨p, hp, rfl⟩ := List.mem_map.mp hx
  exact (h p hp).ok
theorem nums_ct : ∀ n ∈ numsN, isCt (.int (n : Nat)) = true := by decide +kernel
theorem two_all {p q : Part} (h1 : PartOk p) (h2 : PartOk q) : ∀ x ∈ [p, q], PartOk x := fun x hx => by
  simp only [List.mem_cons, List.not_mem_nil, or_false] at hx
  rcases hx with rfl | rfl <;> assumption
theorem three_all {p q r : Part} (h1 : PartOk p) (h2 : PartOk q) (h3 : PartOk r) : ∀ x ∈ [p, q, r], PartOk x := fun x hx => by
  simp only [List.mem_cons, List.not_mem_nil, or_false] at hx
  rcases hx with rfl | rfl | rfl <;> assumption
theorem verb_in {z : Str} (h : z ∈ (["wish", "unwish"] : List Str) ∨ z ∈ (["join", "part", "out"] : List Str)) : z ∈ verbs := by
  simp only [verbs, List.mem_cons, List.not_mem_nil, or_false] at h ⊢
  rcases h with (h | h) | (h | h | h) <;> simp [h]
theorem GoodW.wf {ps : List Part} (h : GoodW ps) : Wf ps := by
  cases h with
  | w0 hz =>
    refine wf_of (fun p hp => ?_) (by simp) (by simp) ?_
    · simp only [List.mem_cons, List.not_mem_nil, or_false] at hp; subst hp; exact part_verb (verb_in (.inl hz))
    · simp only [List.mem_cons, List.not_mem_nil, or_false] at hz
      rcases hz with rfl | rfl <;> kernel_rfl
  | @w1 z a hz ha =>
    refine wf_of (two_all (part_verb (verb_in (.inr hz))) (part_base ha)) (by simp) (by simp) ?_
    have n := (base_fin a ha).1
    simp only [List.mem_cons, List.not_mem_nil, or_false] at hz
    rcases hz with rfl | rfl | rfl
    · exact (show isWh (.tuple [.str "join", .str a]) = one1 isNm [.str a] by kernel_rfl).trans n
    · exact (show isWh (.tuple [.str "part", .str a]) = one1 isNm [.str a] by kernel_rfl).trans n
    · exact (show isWh (.tuple [.str "out", .str a]) = one1 isNm [.str a] by kernel_rfl).trans n
  | @w2 a n ha hn =>
    refine wf_of (three_all (part_verb (by decide)) (part_base ha) (part_num hn)) (by simp) (by simp) ?_
    exact (show isWh (.tuple [.str "put", .str a, .int n]) = two2 isNm isCt [.str a, .int n] by kernel_rfl).trans (by rw [two2, (base_fin a ha).1, nums_ct n hn]; rfl)
  | @w3 n hn =>
    refine wf_of (two_all (part_verb (by decide)) (part_num hn)) (by simp) (by simp) ?_
    exact (show isWh (.tuple [.str "room", .int n]) = one1 isCt [.int n] by kernel_rfl).trans (nums_ct n hn)
  | @w4 a l ha hl =>
    refine wf_of (three_all (part_verb (by decide)) (part_base ha) (part_let hl)) (by simp) (by simp) ?_
    exact (show isWh (.tuple [.str "hear", .str a, .tuple (l.map .str)]) = two2 isNm isLt [.str a, .tuple (l.map .str)] by kernel_rfl).trans (by rw [two2, (base_fin a ha).1, lets_lt l hl]; rfl)
theorem strs_mapS : ∀ ys : List Str, strs? (ys.map PyData.str) = some ys
  | [] => rfl
  | y :: r => by rw [List.map_cons, strs?, strs_mapS r]; rfl
theorem d_joinL {sep : Str} {ys : List Str} (h : (ys.map (·.length)).sum + ys.length * sep.length ≤ 1000) : fJoin [.str sep, .list (ys.map .str)] = some (.str (Txt.join sep ys)) := by
  show joinO sep (ys.map .str) = _
  unfold joinO
  rw [strs_mapS]
  exact if_pos (lim_ge h)
theorem d_joinT {sep : Str} {ys : List Str} (h : (ys.map (·.length)).sum + ys.length * sep.length ≤ 1000) : fJoin [.str sep, .tuple (ys.map .str)] = some (.str (Txt.join sep ys)) := by
  show joinO sep (ys.map .str) = _
  unfold joinO
  rw [strs_mapS]
  exact if_pos (lim_ge h)
theorem d_split {z sep : Str} {ws : List Str} (h : Txt.split z sep = ws) (hl : z.length ≤ 1000) (hs : (sep.length == 0) = false) : fSplit [.str z, .str sep] = some (.list (ws.map .str)) := by
  rw [← h]
  exact if_pos ⟨by omega, hs⟩
theorem d_ix0 {z : Str} {c : Nat} {r : List Nat} (h : z.cps.toList = c :: r) (hl : z.length ≤ 1000) : fIdx [.str z, .int 0] = some (.str ⟨#[c]⟩) := by
  show (if z.length ≤ lim then (L2.atI z.cps.toList 0).map fun c => PyData.str ⟨#[c]⟩ else none) = _
  rw [if_pos (lim_ge hl), h]
  simp [L2.atI, L2.ixN]
end EV
end
section
set_option Elab.async false
set_option linter.all false
set_option maxRecDepth 100000
set_option autoImplicit false
set_option maxHeartbeats 4000000
namespace K55
open PySem L2 EV
def topS (i : Nat) : Stmt := PySem.Challenge.pw_heardahead_k55_written_and_read.main.body.getD i (.Pass ⟨0, 0, 0, 0⟩)
def names : List (Str × Nat) := [("is_count", 0), ("is_name", 1), ("is_place", 2), ("is_letter", 3), ("is_kind", 4), ("is_what", 5), ("need_text", 6), ("number_shown", 7), ("number_in", 8), ("words_in", 9), ("show_place", 10), ("read_place", 11), ("show_letter", 12), ("read_letter", 13), ("part_shown", 14), ("show_what", 15), ("read_what", 16), ("_law_pot", 17), ("_law_scoop", 18), ("_law_names", 19), ("_law_line", 20), ("_law_what_text", 21), ("_law_right", 22), ("law", 23)]
def globs : List (Str × Nat) := [("LETTERS", 0), ("MOST_LETTERS", 1), ("IN", 2), ("OUT", 3), ("CLEAR", 4), ("BARRED", 5), ("WORD", 6), ("OPEN", 7), ("HEARD", 8), ("CHAIR", 9), ("BACK", 10), ("FIGURES", 11), ("MOST_FIGURES", 12)]
def blts : List Str := ["abs", "all", "bool", "int", "isinstance", "len", "list", "max", "range", "repr", "str", "tuple", "zip"]
def exnames : List Str := ["ChairError", "NoText"]
def excs : List (Str × Nat) := [("ChairError", 0), ("NoText", 1)]
def dicts : List (Str × List (Str × Str)) := [("WHATS", [("wish", ""), ("unwish", ""), ("join", "n"), ("part", "n"), ("put", "nc"), ("out", "n"), ("room", "c"), ("hear", "nl")])]
def cxI (N own : List Str) (sh : Bool) : CX := { N := N, own := own, fs := names, gs := globs, ex := excs, bl := blts, share := sh, gd := dicts }
/-- is_count -/
def b0 : CSs := (ss [
  (.ret (.and (.op (.isinst .int) (cs [(.peek 0)])) (.and (.not (.op (.isinst .bool) (cs [(.peek 0)]))) (.op .ge (cs [(.peek 0), (.kst (.int 0))])))))])
def c0 : CX := cxI ["thing"] [] false
theorem sc0 : FnScope c0.N ["thing"] (defScope (topS 6)) := ⟨rfl, rfl, rfl, by decide +kernel, rfl, by decide +kernel, by decide +kernel⟩
theorem bd0 : bodyC c0 (defScope (topS 6)) (defBody (topS 6)) = some b0 := by kernel_rfl
/-- is_name -/
def b1 : CSs := (ss [
  (.ret (.and (.op (.isinst .str) (cs [(.peek 0)])) (.and (.chain .le .le (.kst (.int 1)) (.op .len (cs [(.peek 0)])) (.glob 1)) (.op .all (cs [(.lc [1] (.nm 1) (.slot 0) (cs []) (.op .in_ (cs [(.peek 1), (.glob 0)])))])))))])
def c1 : CX := cxI ["thing", "sign"] [] false
theorem sc1 : FnScope c1.N ["thing"] (defScope (topS 7)) := ⟨rfl, rfl, rfl, by decide +kernel, rfl, by decide +kernel, by decide +kernel⟩
theorem bd1 : bodyC c1 (defScope (topS 7)) (defBody (topS 7)) = some b1 := by kernel_rfl
/-- is_place -/
def b2 : CSs := (ss [
  (.ret (.and (.op (.isinst .tuple) (cs [(.peek 0)])) (.and (.op .eq (cs [(.op .len (cs [(.peek 0)])), (.kst (.int 2))])) (.op .all (cs [(.lc [1] (.nm 1) (.slot 0) (cs []) (.call 1 (cs [(.var 1)])))])))))])
def c2 : CX := cxI ["thing", "part"] [] false
theorem sc2 : FnScope c2.N ["thing"] (defScope (topS 8)) := ⟨rfl, rfl, rfl, by decide +kernel, rfl, by decide +kernel, by decide +kernel⟩
theorem bd2 : bodyC c2 (defScope (topS 8)) (defBody (topS 8)) = some b2 := by kernel_rfl
/-- is_letter -/
def b3 : CSs := (ss [
  (.ite (.or (.not (.op (.isinst .tuple) (cs [(.peek 0)]))) (.or (.op .notin (cs [(.op .len (cs [(.peek 0)])), (.tup (cs [(.kst (.int 1)), (.kst (.int 2))]))])) (.not (.op .all (cs [(.lc [1] (.nm 1) (.slot 0) (cs []) (.op (.isinst .str) (cs [(.peek 1)])))]))))) (ss [
    (.ret (.kst (.bool false)))]) (ss [])),
  (.ite (.op .eq (cs [(.op .len (cs [(.peek 0)])), (.kst (.int 1))])) (ss [
    (.ret (.op .in_ (cs [(.peek 0), (.tup (cs [(.glob 7), (.glob 8), (.glob 9), (.glob 10)]))])))]) (ss [])),
  (.ret (.and (.op .eq (cs [(.op .idx (cs [(.peek 0), (.kst (.int 0))])), (.glob 6)])) (.op .in_ (cs [(.op .idx (cs [(.peek 0), (.kst (.int 1))])), (.tup (cs [(.glob 2), (.glob 3), (.glob 4), (.glob 5)]))]))))])
def c3 : CX := cxI ["thing", "part"] [] false
theorem sc3 : FnScope c3.N ["thing"] (defScope (topS 19)) := ⟨rfl, rfl, rfl, by decide +kernel, rfl, by decide +kernel, by decide +kernel⟩
theorem bd3 : bodyC c3 (defScope (topS 19)) (defBody (topS 19)) = some b3 := by kernel_rfl
/-- is_kind -/
def b4 : CSs := (ss [
  (.ite (.op .eq (cs [(.peek 1), (.kst (.str "n"))])) (ss [
    (.ret (.call 1 (cs [(.var 0)])))]) (ss [])),
  (.ret (.ite (.op .eq (cs [(.peek 1), (.kst (.str "c"))])) (.call 0 (cs [(.var 0)])) (.call 3 (cs [(.var 0)]))))])
def c4 : CX := cxI ["thing", "kind"] [] false
theorem sc4 : FnScope c4.N ["thing", "kind"] (defScope (topS 22)) := ⟨rfl, rfl, rfl, by decide +kernel, rfl, by decide +kernel, by decide +kernel⟩
theorem bd4 : bodyC c4 (defScope (topS 22)) (defBody (topS 22)) = some b4 := by kernel_rfl
/-- is_what -/
def b5 : CSs := (ss [
  (.ite (.or (.not (.op (.isinst .tuple) (cs [(.peek 0)]))) (.or (.op .eq (cs [(.op .len (cs [(.peek 0)])), (.kst (.int 0))])) (.or (.not (.op (.isinst .str) (cs [(.op .idx (cs [(.peek 0), (.kst (.int 0))]))]))) (.op (.dIn [("wish", ""), ("unwish", ""), ("join", "n"), ("part", "n"), ("put", "nc"), ("out", "n"), ("room", "c"), ("hear", "nl")] true) (cs [(.op .idx (cs [(.peek 0), (.kst (.int 0))]))]))))) (ss [
    (.ret (.kst (.bool false)))]) (ss [])),
  (.set 1 (.op (.dAt [("wish", ""), ("unwish", ""), ("join", "n"), ("part", "n"), ("put", "nc"), ("out", "n"), ("room", "c"), ("hear", "nl")]) (cs [(.op .idx (cs [(.peek 0), (.kst (.int 0))]))]))),
  (.ret (.and (.op .eq (cs [(.op .len (cs [(.peek 0)])), (.op .add (cs [(.op .len (cs [(.peek 1)])), (.kst (.int 1))]))])) (.op .all (cs [(.lc [2, 3] (.tp [(.nm 2), (.nm 3)]) (.zip (cs [(.op .slice (cs [(.peek 0), (.op .toi (cs [(.kst (.int 1))])), (.kst .none)])), (.var 1)])) (cs []) (.call 4 (cs [(.var 2), (.var 3)])))]))))])
def c5 : CX := cxI ["thing", "kinds", "part", "kind"] [] false
theorem sc5 : FnScope c5.N ["thing"] (defScope (topS 23)) := ⟨rfl, rfl, rfl, by decide +kernel, rfl, by decide +kernel, by decide +kernel⟩
theorem bd5 : bodyC c5 (defScope (topS 23)) (defBody (topS 23)) = some b5 := by kernel_rfl
/-- need_text -/
def b6 : CSs := (ss [
  (.ite (.not (.peek 0)) (ss [
    (.raise 1)]) (ss []))])
def c6 : CX := cxI ["good"] [] false
theorem sc6 : FnScope c6.N ["good"] (defScope (topS 27)) := ⟨rfl, rfl, rfl, by decide +kernel, rfl, by decide +kernel, by decide +kernel⟩
theorem bd6 : bodyC c6 (defScope (topS 27)) (defBody (topS 27)) = some b6 := by kernel_rfl
/-- number_shown -/
def b7 : CSs := (ss [
  (.set 1 (.op .str1 (cs [(.peek 0)]))),
  (.expr (.call 6 (cs [(.op .le (cs [(.op .len (cs [(.peek 1)])), (.glob 12)]))]))),
  (.ret (.var 1))])
def c7 : CX := cxI ["number", "word"] [] false
theorem sc7 : FnScope c7.N ["number"] (defScope (topS 28)) := ⟨rfl, rfl, rfl, by decide +kernel, rfl, by decide +kernel, by decide +kernel⟩
theorem bd7 : bodyC c7 (defScope (topS 28)) (defBody (topS 28)) = some b7 := by kernel_rfl
/-- number_in -/
def b8 : CSs := (ss [
  (.expr (.call 6 (cs [(.and (.chain .le .le (.kst (.int 1)) (.op .len (cs [(.peek 0)])) (.glob 12)) (.op .all (cs [(.lc [1] (.nm 1) (.slot 0) (cs []) (.op .in_ (cs [(.peek 1), (.glob 11)])))])))]))),
  (.expr (.call 6 (cs [(.or (.op .eq (cs [(.peek 0), (.kst (.str "0"))])) (.op .ne (cs [(.op .idx (cs [(.peek 0), (.kst (.int 0))])), (.kst (.str "0"))])))]))),
  (.ret (.op .int1 (cs [(.peek 0)])))])
def c8 : CX := cxI ["word", "sign"] [] false
theorem sc8 : FnScope c8.N ["word"] (defScope (topS 29)) := ⟨rfl, rfl, rfl, by decide +kernel, rfl, by decide +kernel, by decide +kernel⟩
theorem bd8 : bodyC c8 (defScope (topS 29)) (defBody (topS 29)) = some b8 := by kernel_rfl
/-- words_in -/
def b9 : CSs := (ss [
  (.expr (.call 6 (cs [(.op (.isinst .str) (cs [(.peek 0)]))]))),
  (.ret (.meth .split (.peek 0) (cs [(.kst (.str " "))])))])
def c9 : CX := cxI ["text"] [] false
theorem sc9 : FnScope c9.N ["text"] (defScope (topS 30)) := ⟨rfl, rfl, rfl, by decide +kernel, rfl, by decide +kernel, by decide +kernel⟩
theorem bd9 : bodyC c9 (defScope (topS 30)) (defBody (topS 30)) = some b9 := by kernel_rfl
/-- show_place -/
def b10 : CSs := (ss [
  (.expr (.call 6 (cs [(.call 2 (cs [(.var 0)]))]))),
  (.ret (.meth .join (.kst (.str ".")) (cs [(.peek 0)])))])
def c10 : CX := cxI ["place"] [] false
theorem sc10 : FnScope c10.N ["place"] (defScope (topS 31)) := ⟨rfl, rfl, rfl, by decide +kernel, rfl, by decide +kernel, by decide +kernel⟩
theorem bd10 : bodyC c10 (defScope (topS 31)) (defBody (topS 31)) = some b10 := by kernel_rfl
/-- read_place -/
def b11 : CSs := (ss [
  (.expr (.call 6 (cs [(.op (.isinst .str) (cs [(.peek 0)]))]))),
  (.set 1 (.op .ofTuple (cs [(.meth .split (.peek 0) (cs [(.kst (.str "."))]))]))),
  (.expr (.call 6 (cs [(.call 2 (cs [(.var 1)]))]))),
  (.ret (.var 1))])
def c11 : CX := cxI ["text", "place"] [] false
theorem sc11 : FnScope c11.N ["text"] (defScope (topS 32)) := ⟨rfl, rfl, rfl, by decide +kernel, rfl, by decide +kernel, by decide +kernel⟩
theorem bd11 : bodyC c11 (defScope (topS 32)) (defBody (topS 32)) = some b11 := by kernel_rfl
/-- show_letter -/
def b12 : CSs := (ss [
  (.expr (.call 6 (cs [(.call 3 (cs [(.var 0)]))]))),
  (.ret (.meth .join (.kst (.str " ")) (cs [(.peek 0)])))])
def c12 : CX := cxI ["letter"] [] false
theorem sc12 : FnScope c12.N ["letter"] (defScope (topS 33)) := ⟨rfl, rfl, rfl, by decide +kernel, rfl, by decide +kernel, by decide +kernel⟩
theorem bd12 : bodyC c12 (defScope (topS 33)) (defBody (topS 33)) = some b12 := by kernel_rfl
/-- read_letter -/
def b13 : CSs := (ss [
  (.set 1 (.op .ofTuple (cs [(.call 9 (cs [(.var 0)]))]))),
  (.expr (.call 6 (cs [(.call 3 (cs [(.var 1)]))]))),
  (.ret (.var 1))])
def c13 : CX := cxI ["text", "letter"] [] false
theorem sc13 : FnScope c13.N ["text"] (defScope (topS 34)) := ⟨rfl, rfl, rfl, by decide +kernel, rfl, by decide +kernel, by decide +kernel⟩
theorem bd13 : bodyC c13 (defScope (topS 34)) (defBody (topS 34)) = some b13 := by kernel_rfl
/-- part_shown -/
def b14 : CSs := (ss [
  (.ite (.op (.isinst .tuple) (cs [(.peek 0)])) (ss [
    (.ret (.call 12 (cs [(.var 0)])))]) (ss [])),
  (.ret (.ite (.op (.isinst .str) (cs [(.peek 0)])) (.var 0) (.call 7 (cs [(.var 0)]))))])
def c14 : CX := cxI ["part"] [] false
theorem sc14 : FnScope c14.N ["part"] (defScope (topS 35)) := ⟨rfl, rfl, rfl, by decide +kernel, rfl, by decide +kernel, by decide +kernel⟩
theorem bd14 : bodyC c14 (defScope (topS 35)) (defBody (topS 35)) = some b14 := by kernel_rfl
/-- show_what -/
def b15 : CSs := (ss [
  (.expr (.call 6 (cs [(.call 5 (cs [(.var 0)]))]))),
  (.ret (.meth .join (.kst (.str " ")) (cs [(.lc [1] (.nm 1) (.slot 0) (cs []) (.call 14 (cs [(.var 1)])))])))])
def c15 : CX := cxI ["what", "part"] [] false
theorem sc15 : FnScope c15.N ["what"] (defScope (topS 36)) := ⟨rfl, rfl, rfl, by decide +kernel, rfl, by decide +kernel, by decide +kernel⟩
theorem bd15 : bodyC c15 (defScope (topS 36)) (defBody (topS 36)) = some b15 := by kernel_rfl
/-- read_what -/
def b16 : CSs := (ss [
  (.set 1 (.call 9 (cs [(.var 0)]))),
  (.expr (.call 6 (cs [(.op (.dIn [("wish", ""), ("unwish", ""), ("join", "n"), ("part", "n"), ("put", "nc"), ("out", "n"), ("room", "c"), ("hear", "nl")] false) (cs [(.op .idx (cs [(.peek 1), (.kst (.int 0))]))]))]))),
  (.set 2 (.op (.dAt [("wish", ""), ("unwish", ""), ("join", "n"), ("part", "n"), ("put", "nc"), ("out", "n"), ("room", "c"), ("hear", "nl")]) (cs [(.op .idx (cs [(.peek 1), (.kst (.int 0))]))]))),
  (.ite (.op .eq (cs [(.peek 2), (.kst (.str "nl"))])) (ss [
    (.set 1 (.op .add (cs [(.op .slice (cs [(.peek 1), (.kst .none), (.op .toi (cs [(.kst (.int 2))]))])), (.lst (cs [(.op .ofTuple (cs [(.op .slice (cs [(.peek 1), (.op .toi (cs [(.kst (.int 2))])), (.kst .none)]))]))]))])))]) (ss [])),
  (.expr (.call 6 (cs [(.op .eq (cs [(.op .len (cs [(.peek 1)])), (.op .add (cs [(.op .len (cs [(.peek 2)])), (.kst (.int 1))]))]))]))),
  (.set 3 (.lc [4, 5] (.tp [(.nm 4), (.nm 5)]) (.zip (cs [(.op .slice (cs [(.peek 1), (.op .toi (cs [(.kst (.int 1))])), (.kst .none)])), (.var 2)])) (cs []) (.ite (.op .eq (cs [(.peek 5), (.kst (.str "c"))])) (.call 8 (cs [(.var 4)])) (.var 4)))),
  (.set 6 (.op .add (cs [(.tup (cs [(.op .idx (cs [(.peek 1), (.kst (.int 0))]))])), (.op .ofTuple (cs [(.peek 3)]))]))),
  (.expr (.call 6 (cs [(.call 5 (cs [(.var 6)]))]))),
  (.ret (.var 6))])
def c16 : CX := cxI ["text", "words", "kinds", "parts", "word", "kind", "what"] [] false
theorem sc16 : FnScope c16.N ["text"] (defScope (topS 37)) := ⟨rfl, rfl, rfl, by decide +kernel, rfl, by decide +kernel, by decide +kernel⟩
theorem bd16 : bodyC c16 (defScope (topS 37)) (defBody (topS 37)) = some b16 := by kernel_rfl
/-- _law_pot -/
def b17 : CSs := (ss [
  (.set 1 (.kst (.int 0))),
  (.set 2 (.kst (.int 161803))),
  (.for (.nm 3) (.seq (.op .slice (cs [(.peek 0), (.kst .none), (.op .toi (cs [(.kst (.int 50))]))]))) (ss [
    (.set 1 (.op .add (cs [(.op .mul (cs [(.peek 1), (.op .pow (cs [(.op .pow (cs [(.kst (.int 10)), (.kst (.int 40))])), (.kst (.int 10))]))])), (.op .mod (cs [(.op .max2 (cs [(.kst (.int 0)), (.op .sub (cs [(.op .abs (cs [(.peek 3)])), (.op .pow (cs [(.kst (.int 10)), (.kst (.int 18))]))]))])), (.op .pow (cs [(.op .pow (cs [(.kst (.int 10)), (.kst (.int 40))])), (.kst (.int 10))]))]))]))),
    (.set 2 (.op .mod (cs [(.op .add (cs [(.op .add (cs [(.op .mul (cs [(.peek 2), (.kst (.int 48271))])), (.peek 3)])), (.kst (.int 131))])), (.kst (.int 170141183460469231731687303715884105727))])))])),
  (.ret (.nref (cs [(.var 1), (.var 2), (.kst (.int 0))])))])
def c17 : CX := cxI ["_law_script", "_law_figures", "_law_blend", "_law_cell"] [] true
theorem sc17 : FnScope c17.N ["_law_script"] (defScope (topS 39)) := ⟨rfl, rfl, rfl, by decide +kernel, rfl, by decide +kernel, by decide +kernel⟩
theorem bd17 : bodyC c17 (defScope (topS 39)) (defBody (topS 39)) = some b17 := by kernel_rfl
/-- _law_scoop -/
def b18 : CSs := (ss [
  (.ite (.op .gt (cs [(.op .idx (cs [(.peek 0), (.kst (.int 0))])), (.kst (.int 0))])) (ss [
    (.set 2 (.op .mod (cs [(.op .idx (cs [(.peek 0), (.kst (.int 0))])), (.peek 1)]))),
    (.put 0 (.kst (.int 0)) (.op .fdiv (cs [(.op .idx (cs [(.peek 0), (.kst (.int 0))])), (.peek 1)]))),
    (.ret (.var 2))]) (ss [])),
  (.put 0 (.kst (.int 2)) (.op .add (cs [(.op .idx (cs [(.peek 0), (.kst (.int 2))])), (.kst (.int 1))]))),
  (.set 3 (.op .mod (cs [(.op .pow (cs [(.op .add (cs [(.op .idx (cs [(.peek 0), (.kst (.int 1))])), (.op .mul (cs [(.kst (.int 15485863)), (.op .idx (cs [(.peek 0), (.kst (.int 2))]))]))])), (.kst (.int 3))])), (.kst (.int 618970019642690137449562111))]))),
  (.set 3 (.op .mod (cs [(.op .pow (cs [(.op .add (cs [(.peek 3), (.op .mul (cs [(.kst (.int 257)), (.op .pow (cs [(.op .idx (cs [(.peek 0), (.kst (.int 2))])), (.kst (.int 2))]))]))])), (.kst (.int 3))])), (.kst (.int 162259276829213363391578010288127))]))),
  (.ret (.op .mod (cs [(.op .fdiv (cs [(.peek 3), (.kst (.int 65537))])), (.peek 1)])))])
def c18 : CX := cxI ["_law_pot_here", "_law_many", "_law_found", "_law_big"] [] false
theorem sc18 : FnScope c18.N ["_law_pot_here", "_law_many"] (defScope (topS 40)) := ⟨rfl, rfl, rfl, by decide +kernel, rfl, by decide +kernel, by decide +kernel⟩
theorem bd18 : bodyC c18 (defScope (topS 40)) (defBody (topS 40)) = some b18 := by kernel_rfl
/-- _law_names -/
def b19 : CSs := (ss [
  (.setO 2 (.lst (cs [(.kst (.str "in")), (.kst (.str "out")), (.kst (.str "clear")), (.kst (.str "barred")), (.kst (.str "open")), (.kst (.str "heard")), (.kst (.str "chair")), (.kst (.str "back")), (.kst (.str "wishes")), (.kst (.str "house")), (.kst (.str "guest")), (.kst (.str "wish")), (.kst (.str "a"))]))),
  (.setO 2 (.op .add (cs [(.peek 2), (.lst (cs [(.kst (.str "an")), (.kst (.str "ann")), (.kst (.str "anna")), (.kst (.str "bo")), (.kst (.str "zzzzzzzz")), (.kst (.str "z")), (.kst (.str "eightlet"))]))]))),
  (.set 3 (.kst (.str "abcdefghijklmnopqrstuvwxyz"))),
  (.setO 2 (.op .add (cs [(.peek 2), (.lc [4] (.nm 4) (.rng (cs [(.op .max2 (cs [(.kst (.int 0)), (.op .sub (cs [(.peek 1), (.kst (.int 20))]))]))])) (cs []) (.op .add (cs [(.op .add (cs [(.op .idx (cs [(.peek 3), (.op .fdiv (cs [(.peek 4), (.kst (.int 26))]))])), (.kst (.str "q"))])), (.op .idx (cs [(.peek 3), (.op .mod (cs [(.peek 4), (.kst (.int 26))]))]))])))]))),
  (.ret (.lc [4] (.nm 4) (.rng (cs [(.peek 1)])) (cs []) (.mut 2 .popAt (cs [(.call 18 (cs [(.var 0), (.op .len (cs [(.peek 2)]))]))]))))])
def c19 : CX := cxI ["_law_pot_here", "_law_many", "_law_left", "_law_letters", "_law_k"] ["_law_left"] false
theorem sc19 : FnScope c19.N ["_law_pot_here", "_law_many"] (defScope (topS 41)) := ⟨rfl, rfl, rfl, by decide +kernel, rfl, by decide +kernel, by decide +kernel⟩
theorem bd19 : bodyC c19 (defScope (topS 41)) (defBody (topS 41)) = some b19 := by kernel_rfl
/-- _law_line -/
def b20 : CSs := (ss [
  (.setO 2 (.lst (cs [(.tup (cs [(.kst (.str "open"))])), (.tup (cs [(.kst (.str "heard"))])), (.tup (cs [(.kst (.str "chair"))])), (.tup (cs [(.kst (.str "back"))])), (.tup (cs [(.kst (.str "word")), (.kst (.str "in"))])), (.tup (cs [(.kst (.str "word")), (.kst (.str "out"))])), (.tup (cs [(.kst (.str "word")), (.kst (.str "clear"))]))]))),
  (.expr (.mut 2 .app (cs [(.tup (cs [(.kst (.str "word")), (.kst (.str "barred"))]))]))),
  (.set 3 (.op .idx (cs [(.peek 1), (.call 18 (cs [(.var 0), (.op .len (cs [(.peek 1)]))]))]))),
  (.set 4 (.op .idx (cs [(.lst (cs [(.kst (.int 0)), (.call 18 (cs [(.var 0), (.kst (.int 12))])), (.op .sub (cs [(.op .sub (cs [(.op .pow (cs [(.kst (.int 10)), (.kst (.int 9))])), (.kst (.int 1))])), (.call 18 (cs [(.var 0), (.kst (.int 3))]))]))])), (.call 18 (cs [(.var 0), (.kst (.int 3))]))]))),
  (.set 5 (.op .idx (cs [(.peek 2), (.call 18 (cs [(.var 0), (.kst (.int 8))]))]))),
  (.set 6 (.lst (cs [(.tup (cs [(.kst (.str "wish"))])), (.tup (cs [(.kst (.str "unwish"))])), (.tup (cs [(.kst (.str "join")), (.var 3)])), (.tup (cs [(.kst (.str "part")), (.var 3)])), (.tup (cs [(.kst (.str "put")), (.var 3), (.var 4)])), (.tup (cs [(.kst (.str "out")), (.var 3)]))]))),
  (.ret (.lst (cs [(.var 5), (.op .idx (cs [(.op .add (cs [(.peek 6), (.lst (cs [(.tup (cs [(.kst (.str "room")), (.var 4)])), (.tup (cs [(.kst (.str "hear")), (.var 3), (.var 5)])), (.tup (cs [(.kst (.str "hear")), (.var 3), (.var 5)]))]))])), (.call 18 (cs [(.var 0), (.kst (.int 9))]))]))])))])
def c20 : CX := cxI ["_law_pot_here", "_law_guests", "_law_letters", "_law_name", "_law_number", "_law_letter", "_law_some"] ["_law_letters"] false
theorem sc20 : FnScope c20.N ["_law_pot_here", "_law_guests"] (defScope (topS 42)) := ⟨rfl, rfl, rfl, by decide +kernel, rfl, by decide +kernel, by decide +kernel⟩
theorem bd20 : bodyC c20 (defScope (topS 42)) (defBody (topS 42)) = some b20 := by kernel_rfl
/-- _law_what_text -/
def b21 : CSs := (ss [
  (.setO 1 (.lst (cs []))),
  (.for (.nm 2) (.slot 0) (ss [
    (.expr (.extF 1 (.ite (.op (.isinst .tuple) (cs [(.peek 2)])) (.op .ofList (cs [(.peek 2)])) (.lst (cs [(.op .str1 (cs [(.peek 2)]))])))))])),
  (.ret (.meth .join (.kst (.str " ")) (cs [(.peek 1)])))])
def c21 : CX := cxI ["_law_what", "_law_parts", "_law_part"] ["_law_parts"] false
theorem sc21 : FnScope c21.N ["_law_what"] (defScope (topS 43)) := ⟨rfl, rfl, rfl, by decide +kernel, rfl, by decide +kernel, by decide +kernel⟩
theorem bd21 : bodyC c21 (defScope (topS 43)) (defBody (topS 43)) = some b21 := by kernel_rfl
/-- _law_right -/
def b22 : CSs := (ss [
  (.set 3 (.lst (cs [(.op .add (cs [(.op .add (cs [(.op .idx (cs [(.peek 0), (.kst (.int 0))])), (.kst (.str "."))])), (.op .idx (cs [(.peek 0), (.kst (.int 1))]))])), (.call 21 (cs [(.var 1)])), (.call 21 (cs [(.var 2)]))]))),
  (.ite (.op .ne (cs [(.lst (cs [(.call 10 (cs [(.var 0)])), (.call 12 (cs [(.var 1)])), (.call 15 (cs [(.var 2)]))])), (.peek 3)])) (ss [
    (.ret (.kst (.bool false)))]) (ss [])),
  (.set 4 (.lst (cs [(.call 11 (cs [(.op .idx (cs [(.peek 3), (.kst (.int 0))]))])), (.call 13 (cs [(.op .idx (cs [(.peek 3), (.kst (.int 1))]))])), (.call 16 (cs [(.op .idx (cs [(.peek 3), (.kst (.int 2))]))]))]))),
  (.ret (.op .eq (cs [(.op .repr (cs [(.peek 4)])), (.op .repr (cs [(.lst (cs [(.var 0), (.var 1), (.var 2)]))]))])))])
def c22 : CX := cxI ["_law_place", "_law_letter", "_law_what", "_law_due", "_law_told"] [] false
theorem sc22 : FnScope c22.N ["_law_place", "_law_letter", "_law_what"] (defScope (topS 44)) := ⟨rfl, rfl, rfl, by decide +kernel, rfl, by decide +kernel, by decide +kernel⟩
theorem bd22 : bodyC c22 (defScope (topS 44)) (defBody (topS 44)) = some b22 := by kernel_rfl
/-- law -/
def b23 : CSs := (ss [
  (.set 1 (.call 17 (cs [(.var 0)]))),
  (.for (.nm 2) (.rng (cs [(.kst (.int 6))])) (ss [
    (.set 3 (.call 19 (cs [(.var 1), (.op .add (cs [(.kst (.int 2)), (.call 18 (cs [(.var 1), (.kst (.int 12))]))]))]))),
    (.setO 4 (.lst (cs []))),
    (.for (.nm 5) (.rng (cs [(.kst (.int 6))])) (ss [
      (.set 6 (.tup (cs [(.op .idx (cs [(.peek 3), (.call 18 (cs [(.var 1), (.op .len (cs [(.peek 3)]))]))])), (.op .idx (cs [(.peek 3), (.call 18 (cs [(.var 1), (.op .len (cs [(.peek 3)]))]))]))]))),
      (.setT [(.nm 7), (.nm 8)] (.call 20 (cs [(.var 1), (.var 3)]))),
      (.set 9 (.op .repr (cs [(.lst (cs [(.var 6), (.var 7), (.var 8)]))]))),
      (.ite (.or (.not (.call 22 (cs [(.var 6), (.var 7), (.var 8)]))) (.op .ne (cs [(.op .repr (cs [(.lst (cs [(.var 6), (.var 7), (.var 8)]))])), (.peek 9)]))) (ss [
        (.ret (.kst (.bool false)))]) (ss [])),
      (.expr (.mut 4 .app (cs [(.tup (cs [(.var 6), (.var 7), (.var 8)]))])))])),
    (.for (.nm 10) (.slot 4) (ss [
      (.for (.nm 11) (.slot 4) (ss [
        (.set 12 (.lst (cs [(.op .eq (cs [(.call 10 (cs [(.op .idx (cs [(.peek 10), (.kst (.int 0))]))])), (.call 10 (cs [(.op .idx (cs [(.peek 11), (.kst (.int 0))]))]))])), (.op .eq (cs [(.call 15 (cs [(.op .idx (cs [(.peek 10), (.kst (.int 2))]))])), (.call 15 (cs [(.op .idx (cs [(.peek 11), (.kst (.int 2))]))]))]))]))),
        (.ite (.op .ne (cs [(.peek 12), (.lst (cs [(.op .eq (cs [(.op .idx (cs [(.peek 10), (.kst (.int 0))])), (.op .idx (cs [(.peek 11), (.kst (.int 0))]))])), (.op .eq (cs [(.op .idx (cs [(.peek 10), (.kst (.int 2))])), (.op .idx (cs [(.peek 11), (.kst (.int 2))]))]))]))])) (ss [
          (.ret (.kst (.bool false)))]) (ss [])),
        (.ite (.op .ne (cs [(.op .eq (cs [(.call 12 (cs [(.op .idx (cs [(.peek 10), (.kst (.int 1))]))])), (.call 12 (cs [(.op .idx (cs [(.peek 11), (.kst (.int 1))]))]))])), (.op .eq (cs [(.op .idx (cs [(.peek 10), (.kst (.int 1))])), (.op .idx (cs [(.peek 11), (.kst (.int 1))]))]))])) (ss [
          (.ret (.kst (.bool false)))]) (ss []))]))]))])),
  (.ret (.kst (.bool true)))])
def c23 : CX := cxI ["_law_script", "_law_pot_here", "_law_lap", "_law_names_here", "_law_some", "_law_turn", "_law_place", "_law_letter", "_law_what", "_law_kept", "_law_one", "_law_other", "_law_alike"] ["_law_some"] false
theorem sc23 : FnScope c23.N ["_law_script"] (defScope (topS 45)) := ⟨rfl, rfl, rfl, by decide +kernel, rfl, by decide +kernel, by decide +kernel⟩
theorem bd23 : bodyC c23 (defScope (topS 45)) (defBody (topS 45)) = some b23 := by kernel_rfl
def tab : List FunI := [⟨1, 1, b0⟩, ⟨2, 1, b1⟩, ⟨2, 1, b2⟩, ⟨2, 1, b3⟩, ⟨2, 2, b4⟩, ⟨4, 1, b5⟩, ⟨1, 1, b6⟩, ⟨2, 1, b7⟩, ⟨2, 1, b8⟩, ⟨1, 1, b9⟩, ⟨1, 1, b10⟩, ⟨2, 1, b11⟩, ⟨1, 1, b12⟩, ⟨2, 1, b13⟩, ⟨1, 1, b14⟩, ⟨2, 1, b15⟩, ⟨7, 1, b16⟩, ⟨4, 1, b17⟩, ⟨4, 2, b18⟩, ⟨5, 2, b19⟩, ⟨7, 2, b20⟩, ⟨3, 1, b21⟩, ⟨5, 3, b22⟩, ⟨13, 1, b23⟩]
def consts : List D := [(.str "abcdefghijklmnopqrstuvwxyz"), (.int 8), (.str "in"), (.str "out"), (.str "clear"), (.str "barred"), (.str "word"), (.tuple [(.str "open")]), (.tuple [(.str "heard")]), (.tuple [(.str "chair")]), (.tuple [(.str "back")]), (.str "0123456789"), (.int 9)]
theorem all_mk {l : PySem.W.OpenLaw} {w : World} {K : PySem.W.Frag} {h : Heap} {mg : Str → Option Value} {fa f0 f1 f2 f3 f4 f5 f6 f7 f8 f9 f10 f11 f12 f13 f14 f15 f16 f17 f18 f19 f20 f21 f22 f23 : Addr} (X : K.In h) (G : h.Ns mainGlobals mg) (hfa : mg "law" = some (.ref fa))
    {od0 an0 : Option Addr} {sl0 : Array (Option Value)} {oc0 kV0 dc0 pm0 cd0 ct0 : Value}
    {od1 an1 : Option Addr} {sl1 : Array (Option Value)} {oc1 kV1 dc1 pm1 cd1 ct1 : Value}
    {od2 an2 : Option Addr} {sl2 : Array (Option Value)} {oc2 kV2 dc2 pm2 cd2 ct2 : Value}
    {od3 an3 : Option Addr} {sl3 : Array (Option Value)} {oc3 kV3 dc3 pm3 cd3 ct3 : Value}
    {od4 an4 : Option Addr} {sl4 : Array (Option Value)} {oc4 kV4 dc4 pm4 cd4 ct4 : Value}
    {od5 an5 : Option Addr} {sl5 : Array (Option Value)} {oc5 kV5 dc5 pm5 cd5 ct5 : Value}
    {od6 an6 : Option Addr} {sl6 : Array (Option Value)} {oc6 kV6 dc6 pm6 cd6 ct6 : Value}
    {od7 an7 : Option Addr} {sl7 : Array (Option Value)} {oc7 kV7 dc7 pm7 cd7 ct7 : Value}
    {od8 an8 : Option Addr} {sl8 : Array (Option Value)} {oc8 kV8 dc8 pm8 cd8 ct8 : Value}
    {od9 an9 : Option Addr} {sl9 : Array (Option Value)} {oc9 kV9 dc9 pm9 cd9 ct9 : Value}
    {od10 an10 : Option Addr} {sl10 : Array (Option Value)} {oc10 kV10 dc10 pm10 cd10 ct10 : Value}
    {od11 an11 : Option Addr} {sl11 : Array (Option Value)} {oc11 kV11 dc11 pm11 cd11 ct11 : Value}
    {od12 an12 : Option Addr} {sl12 : Array (Option Value)} {oc12 kV12 dc12 pm12 cd12 ct12 : Value}
    {od13 an13 : Option Addr} {sl13 : Array (Option Value)} {oc13 kV13 dc13 pm13 cd13 ct13 : Value}
    {od14 an14 : Option Addr} {sl14 : Array (Option Value)} {oc14 kV14 dc14 pm14 cd14 ct14 : Value}
    {od15 an15 : Option Addr} {sl15 : Array (Option Value)} {oc15 kV15 dc15 pm15 cd15 ct15 : Value}
    {od16 an16 : Option Addr} {sl16 : Array (Option Value)} {oc16 kV16 dc16 pm16 cd16 ct16 : Value}
    {od17 an17 : Option Addr} {sl17 : Array (Option Value)} {oc17 kV17 dc17 pm17 cd17 ct17 : Value}
    {od18 an18 : Option Addr} {sl18 : Array (Option Value)} {oc18 kV18 dc18 pm18 cd18 ct18 : Value}
    {od19 an19 : Option Addr} {sl19 : Array (Option Value)} {oc19 kV19 dc19 pm19 cd19 ct19 : Value}
    {od20 an20 : Option Addr} {sl20 : Array (Option Value)} {oc20 kV20 dc20 pm20 cd20 ct20 : Value}
    {od21 an21 : Option Addr} {sl21 : Array (Option Value)} {oc21 kV21 dc21 pm21 cd21 ct21 : Value}
    {od22 an22 : Option Addr} {sl22 : Array (Option Value)} {oc22 kV22 dc22 pm22 cd22 ct22 : Value}
    {od23 an23 : Option Addr} {sl23 : Array (Option Value)} {oc23 kV23 dc23 pm23 cd23 ct23 : Value}
    (a0 : PySem.W.nsIn K mainGlobals "is_count" = some (some (.ref f0))) (l0 : K.lookup f0 = some ⟨oc0, od0, .func (PySem.W.fnOf "is_count" "is_count" (defArgs (topS 6)) (defBody (topS 6)) (defScope (topS 6)) .none kV0 dc0 pm0 an0 cd0 ct0), sl0⟩) (c0 : PySem.W.codeIn K cd0 "is_count" = true) (k0 : PySem.W.keepIn K (.ref f0) = true)
    (a1 : PySem.W.nsIn K mainGlobals "is_name" = some (some (.ref f1))) (l1 : K.lookup f1 = some ⟨oc1, od1, .func (PySem.W.fnOf "is_name" "is_name" (defArgs (topS 7)) (defBody (topS 7)) (defScope (topS 7)) .none kV1 dc1 pm1 an1 cd1 ct1), sl1⟩) (c1 : PySem.W.codeIn K cd1 "is_name" = true) (k1 : PySem.W.keepIn K (.ref f1) = true)
    (a2 : PySem.W.nsIn K mainGlobals "is_place" = some (some (.ref f2))) (l2 : K.lookup f2 = some ⟨oc2, od2, .func (PySem.W.fnOf "is_place" "is_place" (defArgs (topS 8)) (defBody (topS 8)) (defScope (topS 8)) .none kV2 dc2 pm2 an2 cd2 ct2), sl2⟩) (c2 : PySem.W.codeIn K cd2 "is_place" = true) (k2 : PySem.W.keepIn K (.ref f2) = true)
    (a3 : PySem.W.nsIn K mainGlobals "is_letter" = some (some (.ref f3))) (l3 : K.lookup f3 = some ⟨oc3, od3, .func (PySem.W.fnOf "is_letter" "is_letter" (defArgs (topS 19)) (defBody (topS 19)) (defScope (topS 19)) .none kV3 dc3 pm3 an3 cd3 ct3), sl3⟩) (c3 : PySem.W.codeIn K cd3 "is_letter" = true) (k3 : PySem.W.keepIn K (.ref f3) = true)
    (a4 : PySem.W.nsIn K mainGlobals "is_kind" = some (some (.ref f4))) (l4 : K.lookup f4 = some ⟨oc4, od4, .func (PySem.W.fnOf "is_kind" "is_kind" (defArgs (topS 22)) (defBody (topS 22)) (defScope (topS 22)) .none kV4 dc4 pm4 an4 cd4 ct4), sl4⟩) (c4 : PySem.W.codeIn K cd4 "is_kind" = true) (k4 : PySem.W.keepIn K (.ref f4) = true)
    (a5 : PySem.W.nsIn K mainGlobals "is_what" = some (some (.ref f5))) (l5 : K.lookup f5 = some ⟨oc5, od5, .func (PySem.W.fnOf "is_what" "is_what" (defArgs (topS 23)) (defBody (topS 23)) (defScope (topS 23)) .none kV5 dc5 pm5 an5 cd5 ct5), sl5⟩) (c5 : PySem.W.codeIn K cd5 "is_what" = true) (k5 : PySem.W.keepIn K (.ref f5) = true)
    (a6 : PySem.W.nsIn K mainGlobals "need_text" = some (some (.ref f6))) (l6 : K.lookup f6 = some ⟨oc6, od6, .func (PySem.W.fnOf "need_text" "need_text" (defArgs (topS 27)) (defBody (topS 27)) (defScope (topS 27)) .none kV6 dc6 pm6 an6 cd6 ct6), sl6⟩) (c6 : PySem.W.codeIn K cd6 "need_text" = true) (k6 : PySem.W.keepIn K (.ref f6) = true)
    (a7 : PySem.W.nsIn K mainGlobals "number_shown" = some (some (.ref f7))) (l7 : K.lookup f7 = some ⟨oc7, od7, .func (PySem.W.fnOf "number_shown" "number_shown" (defArgs (topS 28)) (defBody (topS 28)) (defScope (topS 28)) .none kV7 dc7 pm7 an7 cd7 ct7), sl7⟩) (c7 : PySem.W.codeIn K cd7 "number_shown" = true) (k7 : PySem.W.keepIn K (.ref f7) = true)
    (a8 : PySem.W.nsIn K mainGlobals "number_in" = some (some (.ref f8))) (l8 : K.lookup f8 = some ⟨oc8, od8, .func (PySem.W.fnOf "number_in" "number_in" (defArgs (topS 29)) (defBody (topS 29)) (defScope (topS 29)) .none kV8 dc8 pm8 an8 cd8 ct8), sl8⟩) (c8 : PySem.W.codeIn K cd8 "number_in" = true) (k8 : PySem.W.keepIn K (.ref f8) = true)
    (a9 : PySem.W.nsIn K mainGlobals "words_in" = some (some (.ref f9))) (l9 : K.lookup f9 = some ⟨oc9, od9, .func (PySem.W.fnOf "words_in" "words_in" (defArgs (topS 30)) (defBody (topS 30)) (defScope (topS 30)) .none kV9 dc9 pm9 an9 cd9 ct9), sl9⟩) (c9 : PySem.W.codeIn K cd9 "words_in" = true) (k9 : PySem.W.keepIn K (.ref f9) = true)
    (a10 : PySem.W.nsIn K mainGlobals "show_place" = some (some (.ref f10))) (l10 : K.lookup f10 = some ⟨oc10, od10, .func (PySem.W.fnOf "show_place" "show_place" (defArgs (topS 31)) (defBody (topS 31)) (defScope (topS 31)) .none kV10 dc10 pm10 an10 cd10 ct10), sl10⟩) (c10 : PySem.W.codeIn K cd10 "show_place" = true) (k10 : PySem.W.keepIn K (.ref f10) = true)
    (a11 : PySem.W.nsIn K mainGlobals "read_place" = some (some (.ref f11))) (l11 : K.lookup f11 = some ⟨oc11, od11, .func (PySem.W.fnOf "read_place" "read_place" (defArgs (topS 32)) (defBody (topS 32)) (defScope (topS 32)) .none kV11 dc11 pm11 an11 cd11 ct11), sl11⟩) (c11 : PySem.W.codeIn K cd11 "read_place" = true) (k11 : PySem.W.keepIn K (.ref f11) = true)
    (a12 : PySem.W.nsIn K mainGlobals "show_letter" = some (some (.ref f12))) (l12 : K.lookup f12 = some ⟨oc12, od12, .func (PySem.W.fnOf "show_letter" "show_letter" (defArgs (topS 33)) (defBody (topS 33)) (defScope (topS 33)) .none kV12 dc12 pm12 an12 cd12 ct12), sl12⟩) (c12 : PySem.W.codeIn K cd12 "show_letter" = true) (k12 : PySem.W.keepIn K (.ref f12) = true)
    (a13 : PySem.W.nsIn K mainGlobals "read_letter" = some (some (.ref f13))) (l13 : K.lookup f13 = some ⟨oc13, od13, .func (PySem.W.fnOf "read_letter" "read_letter" (defArgs (topS 34)) (defBody (topS 34)) (defScope (topS 34)) .none kV13 dc13 pm13 an13 cd13 ct13), sl13⟩) (c13 : PySem.W.codeIn K cd13 "read_letter" = true) (k13 : PySem.W.keepIn K (.ref f13) = true)
    (a14 : PySem.W.nsIn K mainGlobals "part_shown" = some (some (.ref f14))) (l14 : K.lookup f14 = some ⟨oc14, od14, .func (PySem.W.fnOf "part_shown" "part_shown" (defArgs (topS 35)) (defBody (topS 35)) (defScope (topS 35)) .none kV14 dc14 pm14 an14 cd14 ct14), sl14⟩) (c14 : PySem.W.codeIn K cd14 "part_shown" = true) (k14 : PySem.W.keepIn K (.ref f14) = true)
    (a15 : PySem.W.nsIn K mainGlobals "show_what" = some (some (.ref f15))) (l15 : K.lookup f15 = some ⟨oc15, od15, .func (PySem.W.fnOf "show_what" "show_what" (defArgs (topS 36)) (defBody (topS 36)) (defScope (topS 36)) .none kV15 dc15 pm15 an15 cd15 ct15), sl15⟩) (c15 : PySem.W.codeIn K cd15 "show_what" = true) (k15 : PySem.W.keepIn K (.ref f15) = true)
    (a16 : PySem.W.nsIn K mainGlobals "read_what" = some (some (.ref f16))) (l16 : K.lookup f16 = some ⟨oc16, od16, .func (PySem.W.fnOf "read_what" "read_what" (defArgs (topS 37)) (defBody (topS 37)) (defScope (topS 37)) .none kV16 dc16 pm16 an16 cd16 ct16), sl16⟩) (c16 : PySem.W.codeIn K cd16 "read_what" = true) (k16 : PySem.W.keepIn K (.ref f16) = true)
    (a17 : PySem.W.nsIn K mainGlobals "_law_pot" = some (some (.ref f17))) (l17 : K.lookup f17 = some ⟨oc17, od17, .func (PySem.W.fnOf "_law_pot" "_law_pot" (defArgs (topS 39)) (defBody (topS 39)) (defScope (topS 39)) .none kV17 dc17 pm17 an17 cd17 ct17), sl17⟩) (c17 : PySem.W.codeIn K cd17 "_law_pot" = true) (k17 : PySem.W.keepIn K (.ref f17) = true)
    (a18 : PySem.W.nsIn K mainGlobals "_law_scoop" = some (some (.ref f18))) (l18 : K.lookup f18 = some ⟨oc18, od18, .func (PySem.W.fnOf "_law_scoop" "_law_scoop" (defArgs (topS 40)) (defBody (topS 40)) (defScope (topS 40)) .none kV18 dc18 pm18 an18 cd18 ct18), sl18⟩) (c18 : PySem.W.codeIn K cd18 "_law_scoop" = true) (k18 : PySem.W.keepIn K (.ref f18) = true)
    (a19 : PySem.W.nsIn K mainGlobals "_law_names" = some (some (.ref f19))) (l19 : K.lookup f19 = some ⟨oc19, od19, .func (PySem.W.fnOf "_law_names" "_law_names" (defArgs (topS 41)) (defBody (topS 41)) (defScope (topS 41)) .none kV19 dc19 pm19 an19 cd19 ct19), sl19⟩) (c19 : PySem.W.codeIn K cd19 "_law_names" = true) (k19 : PySem.W.keepIn K (.ref f19) = true)
    (a20 : PySem.W.nsIn K mainGlobals "_law_line" = some (some (.ref f20))) (l20 : K.lookup f20 = some ⟨oc20, od20, .func (PySem.W.fnOf "_law_line" "_law_line" (defArgs (topS 42)) (defBody (topS 42)) (defScope (topS 42)) .none kV20 dc20 pm20 an20 cd20 ct20), sl20⟩) (c20 : PySem.W.codeIn K cd20 "_law_line" = true) (k20 : PySem.W.keepIn K (.ref f20) = true)
    (a21 : PySem.W.nsIn K mainGlobals "_law_what_text" = some (some (.ref f21))) (l21 : K.lookup f21 = some ⟨oc21, od21, .func (PySem.W.fnOf "_law_what_text" "_law_what_text" (defArgs (topS 43)) (defBody (topS 43)) (defScope (topS 43)) .none kV21 dc21 pm21 an21 cd21 ct21), sl21⟩) (c21 : PySem.W.codeIn K cd21 "_law_what_text" = true) (k21 : PySem.W.keepIn K (.ref f21) = true)
    (a22 : PySem.W.nsIn K mainGlobals "_law_right" = some (some (.ref f22))) (l22 : K.lookup f22 = some ⟨oc22, od22, .func (PySem.W.fnOf "_law_right" "_law_right" (defArgs (topS 44)) (defBody (topS 44)) (defScope (topS 44)) .none kV22 dc22 pm22 an22 cd22 ct22), sl22⟩) (c22 : PySem.W.codeIn K cd22 "_law_right" = true) (k22 : PySem.W.keepIn K (.ref f22) = true)
    (a23 : PySem.W.nsIn K mainGlobals "law" = some (some (.ref f23))) (l23 : K.lookup f23 = some ⟨oc23, od23, .func (PySem.W.fnOf "law" "law" (defArgs (topS 45)) (defBody (topS 45)) (defScope (topS 45)) .none kV23 dc23 pm23 an23 cd23 ct23), sl23⟩) (c23 : PySem.W.codeIn K cd23 "law" = true) (k23 : PySem.W.keepIn K (.ref f23) = true)
    {t0 : Tok} (g0 : PySem.W.nsIn K mainGlobals "LETTERS" = some (some (Value.str "abcdefghijklmnopqrstuvwxyz" t0)))
    {t1 : Tok} (g1 : PySem.W.nsIn K mainGlobals "MOST_LETTERS" = some (some (Value.int 8 t1)))
    {t2 : Tok} (g2 : PySem.W.nsIn K mainGlobals "IN" = some (some (Value.str "in" t2)))
    {t3 : Tok} (g3 : PySem.W.nsIn K mainGlobals "OUT" = some (some (Value.str "out" t3)))
    {t4 : Tok} (g4 : PySem.W.nsIn K mainGlobals "CLEAR" = some (some (Value.str "clear" t4)))
    {t5 : Tok} (g5 : PySem.W.nsIn K mainGlobals "BARRED" = some (some (Value.str "barred" t5)))
    {t6 : Tok} (g6 : PySem.W.nsIn K mainGlobals "WORD" = some (some (Value.str "word" t6)))
    {u7 : Addr} {ud7 : Option Addr} {ui7 : Array Value} {un7 : Nat} {us7 : Array (Option Value)} (g7 : PySem.W.nsIn K mainGlobals "OPEN" = some (some (.ref u7))) (gl7 : K.lookup u7 = some ⟨.type "tuple", ud7, .seq ui7 un7, us7⟩) (ge7 : SVals ["open"] ui7.toList) (gz7 : ui7.size ≤ sizeLine)
    {u8 : Addr} {ud8 : Option Addr} {ui8 : Array Value} {un8 : Nat} {us8 : Array (Option Value)} (g8 : PySem.W.nsIn K mainGlobals "HEARD" = some (some (.ref u8))) (gl8 : K.lookup u8 = some ⟨.type "tuple", ud8, .seq ui8 un8, us8⟩) (ge8 : SVals ["heard"] ui8.toList) (gz8 : ui8.size ≤ sizeLine)
    {u9 : Addr} {ud9 : Option Addr} {ui9 : Array Value} {un9 : Nat} {us9 : Array (Option Value)} (g9 : PySem.W.nsIn K mainGlobals "CHAIR" = some (some (.ref u9))) (gl9 : K.lookup u9 = some ⟨.type "tuple", ud9, .seq ui9 un9, us9⟩) (ge9 : SVals ["chair"] ui9.toList) (gz9 : ui9.size ≤ sizeLine)
    {u10 : Addr} {ud10 : Option Addr} {ui10 : Array Value} {un10 : Nat} {us10 : Array (Option Value)} (g10 : PySem.W.nsIn K mainGlobals "BACK" = some (some (.ref u10))) (gl10 : K.lookup u10 = some ⟨.type "tuple", ud10, .seq ui10 un10, us10⟩) (ge10 : SVals ["back"] ui10.toList) (gz10 : ui10.size ≤ sizeLine)
    {t11 : Tok} (g11 : PySem.W.nsIn K mainGlobals "FIGURES" = some (some (Value.str "0123456789" t11)))
    {t12 : Tok} (g12 : PySem.W.nsIn K mainGlobals "MOST_FIGURES" = some (some (Value.int 9 t12)))
    {dd0 : Addr} {ed0 : Array DictEntry} {nd0 : Nat} (da0 : PySem.W.nsIn K mainGlobals "WHATS" = some (some (.ref dd0))) (dl0 : K.lookup dd0 = some ⟨.type "dict", none, .dict ed0 nd0, #[]⟩) (dk0 : PySem.W.KeysLit w.params ed0.toList) (de0 : DEs ed0.toList [("wish", ""), ("unwish", ""), ("join", "n"), ("part", "n"), ("put", "nc"), ("out", "n"), ("room", "c"), ("hear", "nl")]) (dm0 : (dd0 == sysModules) = false)
    (z0 : PySem.W.nsIn K mainGlobals "abs" = some none)
    (z1 : PySem.W.nsIn K mainGlobals "all" = some none)
    (z2 : PySem.W.nsIn K mainGlobals "bool" = some none)
    (z3 : PySem.W.nsIn K mainGlobals "int" = some none)
    (z4 : PySem.W.nsIn K mainGlobals "isinstance" = some none)
    (z5 : PySem.W.nsIn K mainGlobals "len" = some none)
    (z6 : PySem.W.nsIn K mainGlobals "list" = some none)
    (z7 : PySem.W.nsIn K mainGlobals "max" = some none)
    (z8 : PySem.W.nsIn K mainGlobals "range" = some none)
    (z9 : PySem.W.nsIn K mainGlobals "repr" = some none)
    (z10 : PySem.W.nsIn K mainGlobals "str" = some none)
    (z11 : PySem.W.nsIn K mainGlobals "tuple" = some none)
    (z12 : PySem.W.nsIn K mainGlobals "zip" = some none)
    {e0 : Addr} (ea0 : PySem.W.nsIn K mainGlobals "ChairError" = some (some (.ref e0))) (ex0 : PySem.W.excIn K e0 [.type "ValueError", .type "Exception", .type "BaseException", .type "object"] "ValueError.__new__" = true) (ek0 : PySem.W.keepIn K (.ref e0) = true) (es0 : PySem.W.subIn K (.ref e0) (.type "BaseException") = some true) (et0 : PySem.W.typeIn K (.ref e0) = some (.type "type"))
    {e1 : Addr} (ea1 : PySem.W.nsIn K mainGlobals "NoText" = some (some (.ref e1))) (ex1 : PySem.W.excIn K e1 [.type "ValueError", .type "Exception", .type "BaseException", .type "object"] "ValueError.__new__" = true) (ek1 : PySem.W.keepIn K (.ref e1) = true) (es1 : PySem.W.subIn K (.ref e1) (.type "BaseException") = some true) (et1 : PySem.W.typeIn K (.ref e1) = some (.type "type"))
    : ∃ fd : FuncData, (∀ (s : Shared) (v : Value), BindsTo s fd ⟨[v], []⟩ [("_law_script", v)]) ∧ ∀ base : Heap, K.In base → base.Ns mainGlobals mg → FnG l.prog w K mg base (L2.CX l.prog w) 10 fa fd ["_law_script"] (spF K (exK K exnames) (callF tab consts 10 23)) := by
  have e := hfa.symm.trans (PySem.W.mg_of X G a23)
  cases e
  have F0 := fun_mk (st := topS 6) l0 c0 k0
  have B0 := F0.binds (ps := ["thing"]) fun _ _ _ _ _ _ us hl => match us, hl with | [_], _ => rfl
  have F1 := fun_mk (st := topS 7) l1 c1 k1
  have B1 := F1.binds (ps := ["thing"]) fun _ _ _ _ _ _ us hl => match us, hl with | [_], _ => rfl
  have F2 := fun_mk (st := topS 8) l2 c2 k2
  have B2 := F2.binds (ps := ["thing"]) fun _ _ _ _ _ _ us hl => match us, hl with | [_], _ => rfl
  have F3 := fun_mk (st := topS 19) l3 c3 k3
  have B3 := F3.binds (ps := ["thing"]) fun _ _ _ _ _ _ us hl => match us, hl with | [_], _ => rfl
  have F4 := fun_mk (st := topS 22) l4 c4 k4
  have B4 := F4.binds (ps := ["thing", "kind"]) fun _ _ _ _ _ _ us hl => match us, hl with | [_, _], _ => rfl
  have F5 := fun_mk (st := topS 23) l5 c5 k5
  have B5 := F5.binds (ps := ["thing"]) fun _ _ _ _ _ _ us hl => match us, hl with | [_], _ => rfl
  have F6 := fun_mk (st := topS 27) l6 c6 k6
  have B6 := F6.binds (ps := ["good"]) fun _ _ _ _ _ _ us hl => match us, hl with | [_], _ => rfl
  have F7 := fun_mk (st := topS 28) l7 c7 k7
  have B7 := F7.binds (ps := ["number"]) fun _ _ _ _ _ _ us hl => match us, hl with | [_], _ => rfl
  have F8 := fun_mk (st := topS 29) l8 c8 k8
  have B8 := F8.binds (ps := ["word"]) fun _ _ _ _ _ _ us hl => match us, hl with | [_], _ => rfl
  have F9 := fun_mk (st := topS 30) l9 c9 k9
  have B9 := F9.binds (ps := ["text"]) fun _ _ _ _ _ _ us hl => match us, hl with | [_], _ => rfl
  have F10 := fun_mk (st := topS 31) l10 c10 k10
  have B10 := F10.binds (ps := ["place"]) fun _ _ _ _ _ _ us hl => match us, hl with | [_], _ => rfl
  have F11 := fun_mk (st := topS 32) l11 c11 k11
  have B11 := F11.binds (ps := ["text"]) fun _ _ _ _ _ _ us hl => match us, hl with | [_], _ => rfl
  have F12 := fun_mk (st := topS 33) l12 c12 k12
  have B12 := F12.binds (ps := ["letter"]) fun _ _ _ _ _ _ us hl => match us, hl with | [_], _ => rfl
  have F13 := fun_mk (st := topS 34) l13 c13 k13
  have B13 := F13.binds (ps := ["text"]) fun _ _ _ _ _ _ us hl => match us, hl with | [_], _ => rfl
  have F14 := fun_mk (st := topS 35) l14 c14 k14
  have B14 := F14.binds (ps := ["part"]) fun _ _ _ _ _ _ us hl => match us, hl with | [_], _ => rfl
  have F15 := fun_mk (st := topS 36) l15 c15 k15
  have B15 := F15.binds (ps := ["what"]) fun _ _ _ _ _ _ us hl => match us, hl with | [_], _ => rfl
  have F16 := fun_mk (st := topS 37) l16 c16 k16
  have B16 := F16.binds (ps := ["text"]) fun _ _ _ _ _ _ us hl => match us, hl with | [_], _ => rfl
  have F17 := fun_mk (st := topS 39) l17 c17 k17
  have B17 := F17.binds (ps := ["_law_script"]) fun _ _ _ _ _ _ us hl => match us, hl with | [_], _ => rfl
  have F18 := fun_mk (st := topS 40) l18 c18 k18
  have B18 := F18.binds (ps := ["_law_pot_here", "_law_many"]) fun _ _ _ _ _ _ us hl => match us, hl with | [_, _], _ => rfl
  have F19 := fun_mk (st := topS 41) l19 c19 k19
  have B19 := F19.binds (ps := ["_law_pot_here", "_law_many"]) fun _ _ _ _ _ _ us hl => match us, hl with | [_, _], _ => rfl
  have F20 := fun_mk (st := topS 42) l20 c20 k20
  have B20 := F20.binds (ps := ["_law_pot_here", "_law_guests"]) fun _ _ _ _ _ _ us hl => match us, hl with | [_, _], _ => rfl
  have F21 := fun_mk (st := topS 43) l21 c21 k21
  have B21 := F21.binds (ps := ["_law_what"]) fun _ _ _ _ _ _ us hl => match us, hl with | [_], _ => rfl
  have F22 := fun_mk (st := topS 44) l22 c22 k22
  have B22 := F22.binds (ps := ["_law_place", "_law_letter", "_law_what"]) fun _ _ _ _ _ _ us hl => match us, hl with | [_, _, _], _ => rfl
  have F23 := fun_mk (st := topS 45) l23 c23 k23
  have B23 := F23.binds (ps := ["_law_script"]) fun _ _ _ _ _ _ us hl => match us, hl with | [_], _ => rfl
  let D : List DRow := [⟨"is_count", f0, (PySem.W.fnOf "is_count" "is_count" (defArgs (topS 6)) (defBody (topS 6)) (defScope (topS 6)) .none kV0 dc0 pm0 an0 cd0 ct0), ["thing"], K55.c0, topS 6, ⟨1, 1, b0⟩⟩, ⟨"is_name", f1, (PySem.W.fnOf "is_name" "is_name" (defArgs (topS 7)) (defBody (topS 7)) (defScope (topS 7)) .none kV1 dc1 pm1 an1 cd1 ct1), ["thing"], K55.c1, topS 7, ⟨2, 1, b1⟩⟩, ⟨"is_place", f2, (PySem.W.fnOf "is_place" "is_place" (defArgs (topS 8)) (defBody (topS 8)) (defScope (topS 8)) .none kV2 dc2 pm2 an2 cd2 ct2), ["thing"], K55.c2, topS 8, ⟨2, 1, b2⟩⟩, ⟨"is_letter", f3, (PySem.W.fnOf "is_letter" "is_letter" (defArgs (topS 19)) (defBody (topS 19)) (defScope (topS 19)) .none kV3 dc3 pm3 an3 cd3 ct3), ["thing"], K55.c3, topS 19, ⟨2, 1, b3⟩⟩, ⟨"is_kind", f4, (PySem.W.fnOf "is_kind" "is_kind" (defArgs (topS 22)) (defBody (topS 22)) (defScope (topS 22)) .none kV4 dc4 pm4 an4 cd4 ct4), ["thing", "kind"], K55.c4, topS 22, ⟨2, 2, b4⟩⟩, ⟨"is_what", f5, (PySem.W.fnOf "is_what" "is_what" (defArgs (topS 23)) (defBody (topS 23)) (defScope (topS 23)) .none kV5 dc5 pm5 an5 cd5 ct5), ["thing"], K55.c5, topS 23, ⟨4, 1, b5⟩⟩, ⟨"need_text", f6, (PySem.W.fnOf "need_text" "need_text" (defArgs (topS 27)) (defBody (topS 27)) (defScope (topS 27)) .none kV6 dc6 pm6 an6 cd6 ct6), ["good"], K55.c6, topS 27, ⟨1, 1, b6⟩⟩, ⟨"number_shown", f7, (PySem.W.fnOf "number_shown" "number_shown" (defArgs (topS 28)) (defBody (topS 28)) (defScope (topS 28)) .none kV7 dc7 pm7 an7 cd7 ct7), ["number"], K55.c7, topS 28, ⟨2, 1, b7⟩⟩, ⟨"number_in", f8, (PySem.W.fnOf "number_in" "number_in" (defArgs (topS 29)) (defBody (topS 29)) (defScope (topS 29)) .none kV8 dc8 pm8 an8 cd8 ct8), ["word"], K55.c8, topS 29, ⟨2, 1, b8⟩⟩, ⟨"words_in", f9, (PySem.W.fnOf "words_in" "words_in" (defArgs (topS 30)) (defBody (topS 30)) (defScope (topS 30)) .none kV9 dc9 pm9 an9 cd9 ct9), ["text"], K55.c9, topS 30, ⟨1, 1, b9⟩⟩, ⟨"show_place", f10, (PySem.W.fnOf "show_place" "show_place" (defArgs (topS 31)) (defBody (topS 31)) (defScope (topS 31)) .none kV10 dc10 pm10 an10 cd10 ct10), ["place"], K55.c10, topS 31, ⟨1, 1, b10⟩⟩, ⟨"read_place", f11, (PySem.W.fnOf "read_place" "read_place" (defArgs (topS 32)) (defBody (topS 32)) (defScope (topS 32)) .none kV11 dc11 pm11 an11 cd11 ct11), ["text"], K55.c11, topS 32, ⟨2, 1, b11⟩⟩, ⟨"show_letter", f12, (PySem.W.fnOf "show_letter" "show_letter" (defArgs (topS 33)) (defBody (topS 33)) (defScope (topS 33)) .none kV12 dc12 pm12 an12 cd12 ct12), ["letter"], K55.c12, topS 33, ⟨1, 1, b12⟩⟩, ⟨"read_letter", f13, (PySem.W.fnOf "read_letter" "read_letter" (defArgs (topS 34)) (defBody (topS 34)) (defScope (topS 34)) .none kV13 dc13 pm13 an13 cd13 ct13), ["text"], K55.c13, topS 34, ⟨2, 1, b13⟩⟩, ⟨"part_shown", f14, (PySem.W.fnOf "part_shown" "part_shown" (defArgs (topS 35)) (defBody (topS 35)) (defScope (topS 35)) .none kV14 dc14 pm14 an14 cd14 ct14), ["part"], K55.c14, topS 35, ⟨1, 1, b14⟩⟩, ⟨"show_what", f15, (PySem.W.fnOf "show_what" "show_what" (defArgs (topS 36)) (defBody (topS 36)) (defScope (topS 36)) .none kV15 dc15 pm15 an15 cd15 ct15), ["what"], K55.c15, topS 36, ⟨2, 1, b15⟩⟩, ⟨"read_what", f16, (PySem.W.fnOf "read_what" "read_what" (defArgs (topS 37)) (defBody (topS 37)) (defScope (topS 37)) .none kV16 dc16 pm16 an16 cd16 ct16), ["text"], K55.c16, topS 37, ⟨7, 1, b16⟩⟩, ⟨"_law_pot", f17, (PySem.W.fnOf "_law_pot" "_law_pot" (defArgs (topS 39)) (defBody (topS 39)) (defScope (topS 39)) .none kV17 dc17 pm17 an17 cd17 ct17), ["_law_script"], K55.c17, topS 39, ⟨4, 1, b17⟩⟩, ⟨"_law_scoop", f18, (PySem.W.fnOf "_law_scoop" "_law_scoop" (defArgs (topS 40)) (defBody (topS 40)) (defScope (topS 40)) .none kV18 dc18 pm18 an18 cd18 ct18), ["_law_pot_here", "_law_many"], K55.c18, topS 40, ⟨4, 2, b18⟩⟩, ⟨"_law_names", f19, (PySem.W.fnOf "_law_names" "_law_names" (defArgs (topS 41)) (defBody (topS 41)) (defScope (topS 41)) .none kV19 dc19 pm19 an19 cd19 ct19), ["_law_pot_here", "_law_many"], K55.c19, topS 41, ⟨5, 2, b19⟩⟩, ⟨"_law_line", f20, (PySem.W.fnOf "_law_line" "_law_line" (defArgs (topS 42)) (defBody (topS 42)) (defScope (topS 42)) .none kV20 dc20 pm20 an20 cd20 ct20), ["_law_pot_here", "_law_guests"], K55.c20, topS 42, ⟨7, 2, b20⟩⟩, ⟨"_law_what_text", f21, (PySem.W.fnOf "_law_what_text" "_law_what_text" (defArgs (topS 43)) (defBody (topS 43)) (defScope (topS 43)) .none kV21 dc21 pm21 an21 cd21 ct21), ["_law_what"], K55.c21, topS 43, ⟨3, 1, b21⟩⟩, ⟨"_law_right", f22, (PySem.W.fnOf "_law_right" "_law_right" (defArgs (topS 44)) (defBody (topS 44)) (defScope (topS 44)) .none kV22 dc22 pm22 an22 cd22 ct22), ["_law_place", "_law_letter", "_law_what"], K55.c22, topS 44, ⟨5, 3, b22⟩⟩, ⟨"law", fa, (PySem.W.fnOf "law" "law" (defArgs (topS 45)) (defBody (topS 45)) (defScope (topS 45)) .none kV23 dc23 pm23 an23 cd23 ct23), ["_law_script"], K55.c23, topS 45, ⟨13, 1, b23⟩⟩]
  have ok : ∀ j r, D[j]? = some r → DOk K mg tab names globs excs blts dicts j r := fun j r hr => by
    match j, hr with
    | 0, hr => cases hr; exact ⟨F0, sc0, PySem.W.mg_of X G a0, B0, rfl, rfl, rfl, bd0, rfl, rfl, rfl, rfl, rfl⟩
    | 1, hr => cases hr; exact ⟨F1, sc1, PySem.W.mg_of X G a1, B1, rfl, rfl, rfl, bd1, rfl, rfl, rfl, rfl, rfl⟩
    | 2, hr => cases hr; exact ⟨F2, sc2, PySem.W.mg_of X G a2, B2, rfl, rfl, rfl, bd2, rfl, rfl, rfl, rfl, rfl⟩
    | 3, hr => cases hr; exact ⟨F3, sc3, PySem.W.mg_of X G a3, B3, rfl, rfl, rfl, bd3, rfl, rfl, rfl, rfl, rfl⟩
    | 4, hr => cases hr; exact ⟨F4, sc4, PySem.W.mg_of X G a4, B4, rfl, rfl, rfl, bd4, rfl, rfl, rfl, rfl, rfl⟩
    | 5, hr => cases hr; exact ⟨F5, sc5, PySem.W.mg_of X G a5, B5, rfl, rfl, rfl, bd5, rfl, rfl, rfl, rfl, rfl⟩
    | 6, hr => cases hr; exact ⟨F6, sc6, PySem.W.mg_of X G a6, B6, rfl, rfl, rfl, bd6, rfl, rfl, rfl, rfl, rfl⟩
    | 7, hr => cases hr; exact ⟨F7, sc7, PySem.W.mg_of X G a7, B7, rfl, rfl, rfl, bd7, rfl, rfl, rfl, rfl, rfl⟩
    | 8, hr => cases hr; exact ⟨F8, sc8, PySem.W.mg_of X G a8, B8, rfl, rfl, rfl, bd8, rfl, rfl, rfl, rfl, rfl⟩
    | 9, hr => cases hr; exact ⟨F9, sc9, PySem.W.mg_of X G a9, B9, rfl, rfl, rfl, bd9, rfl, rfl, rfl, rfl, rfl⟩
    | 10, hr => cases hr; exact ⟨F10, sc10, PySem.W.mg_of X G a10, B10, rfl, rfl, rfl, bd10, rfl, rfl, rfl, rfl, rfl⟩
    | 11, hr => cases hr; exact ⟨F11, sc11, PySem.W.mg_of X G a11, B11, rfl, rfl, rfl, bd11, rfl, rfl, rfl, rfl, rfl⟩
    | 12, hr => cases hr; exact ⟨F12, sc12, PySem.W.mg_of X G a12, B12, rfl, rfl, rfl, bd12, rfl, rfl, rfl, rfl, rfl⟩
    | 13, hr => cases hr; exact ⟨F13, sc13, PySem.W.mg_of X G a13, B13, rfl, rfl, rfl, bd13, rfl, rfl, rfl, rfl, rfl⟩
    | 14, hr => cases hr; exact ⟨F14, sc14, PySem.W.mg_of X G a14, B14, rfl, rfl, rfl, bd14, rfl, rfl, rfl, rfl, rfl⟩
    | 15, hr => cases hr; exact ⟨F15, sc15, PySem.W.mg_of X G a15, B15, rfl, rfl, rfl, bd15, rfl, rfl, rfl, rfl, rfl⟩
    | 16, hr => cases hr; exact ⟨F16, sc16, PySem.W.mg_of X G a16, B16, rfl, rfl, rfl, bd16, rfl, rfl, rfl, rfl, rfl⟩
    | 17, hr => cases hr; exact ⟨F17, sc17, PySem.W.mg_of X G a17, B17, rfl, rfl, rfl, bd17, rfl, rfl, rfl, rfl, rfl⟩
    | 18, hr => cases hr; exact ⟨F18, sc18, PySem.W.mg_of X G a18, B18, rfl, rfl, rfl, bd18, rfl, rfl, rfl, rfl, rfl⟩
    | 19, hr => cases hr; exact ⟨F19, sc19, PySem.W.mg_of X G a19, B19, rfl, rfl, rfl, bd19, rfl, rfl, rfl, rfl, rfl⟩
    | 20, hr => cases hr; exact ⟨F20, sc20, PySem.W.mg_of X G a20, B20, rfl, rfl, rfl, bd20, rfl, rfl, rfl, rfl, rfl⟩
    | 21, hr => cases hr; exact ⟨F21, sc21, PySem.W.mg_of X G a21, B21, rfl, rfl, rfl, bd21, rfl, rfl, rfl, rfl, rfl⟩
    | 22, hr => cases hr; exact ⟨F22, sc22, PySem.W.mg_of X G a22, B22, rfl, rfl, rfl, bd22, rfl, rfl, rfl, rfl, rfl⟩
    | 23, hr => cases hr; exact ⟨F23, sc23, PySem.W.mg_of X G a23, B23, rfl, rfl, rfl, bd23, rfl, rfl, rfl, rfl, rfl⟩
    | n + 24, hr => cases hr
  refine ⟨_, fun s v => ?_, fun base _ _ => lev (D := D) ok (fun p hp => ?_) (fun x hx => ?_) (fun p hp => ?_) (fun p hp => ?_) (fun p hp => ?_) 10 23 _ rfl⟩
  · exact .of_eq rfl
  · simp only [names, List.mem_cons, List.not_mem_nil, or_false] at hp
    rcases hp with rfl | rfl | rfl | rfl | rfl | rfl | rfl | rfl | rfl | rfl | rfl | rfl | rfl | rfl | rfl | rfl | rfl | rfl | rfl | rfl | rfl | rfl | rfl | rfl <;> exact ⟨_, rfl, rfl⟩
  · simp only [blts, List.mem_cons, List.not_mem_nil, or_false] at hx
    rcases hx with rfl | rfl | rfl | rfl | rfl | rfl | rfl | rfl | rfl | rfl | rfl | rfl | rfl
    · exact PySem.W.mg_none_of X G z0
    · exact PySem.W.mg_none_of X G z1
    · exact PySem.W.mg_none_of X G z2
    · exact PySem.W.mg_none_of X G z3
    · exact PySem.W.mg_none_of X G z4
    · exact PySem.W.mg_none_of X G z5
    · exact PySem.W.mg_none_of X G z6
    · exact PySem.W.mg_none_of X G z7
    · exact PySem.W.mg_none_of X G z8
    · exact PySem.W.mg_none_of X G z9
    · exact PySem.W.mg_none_of X G z10
    · exact PySem.W.mg_none_of X G z11
    · exact PySem.W.mg_none_of X G z12
  · simp only [globs, List.mem_cons, List.not_mem_nil, or_false] at hp
    rcases hp with rfl | rfl | rfl | rfl | rfl | rfl | rfl | rfl | rfl | rfl | rfl | rfl | rfl
    · exact ⟨_, .str "abcdefghijklmnopqrstuvwxyz", _, PySem.W.mg_of X G g0, ⟨t0, rfl⟩, rfl, fun _ _ => .str _⟩
    · exact ⟨_, .int 8, _, PySem.W.mg_of X G g1, ⟨t1, rfl⟩, rfl, fun _ _ => .int _⟩
    · exact ⟨_, .str "in", _, PySem.W.mg_of X G g2, ⟨t2, rfl⟩, rfl, fun _ _ => .str _⟩
    · exact ⟨_, .str "out", _, PySem.W.mg_of X G g3, ⟨t3, rfl⟩, rfl, fun _ _ => .str _⟩
    · exact ⟨_, .str "clear", _, PySem.W.mg_of X G g4, ⟨t4, rfl⟩, rfl, fun _ _ => .str _⟩
    · exact ⟨_, .str "barred", _, PySem.W.mg_of X G g5, ⟨t5, rfl⟩, rfl, fun _ _ => .str _⟩
    · exact ⟨_, .str "word", _, PySem.W.mg_of X G g6, ⟨t6, rfl⟩, rfl, fun _ _ => .str _⟩
    · exact ⟨_, .ref u7, _, PySem.W.mg_of X G g7, rfl, rfl, ktup_strs gl7 ge7 gz7⟩
    · exact ⟨_, .ref u8, _, PySem.W.mg_of X G g8, rfl, rfl, ktup_strs gl8 ge8 gz8⟩
    · exact ⟨_, .ref u9, _, PySem.W.mg_of X G g9, rfl, rfl, ktup_strs gl9 ge9 gz9⟩
    · exact ⟨_, .ref u10, _, PySem.W.mg_of X G g10, rfl, rfl, ktup_strs gl10 ge10 gz10⟩
    · exact ⟨_, .str "0123456789", _, PySem.W.mg_of X G g11, ⟨t11, rfl⟩, rfl, fun _ _ => .str _⟩
    · exact ⟨_, .int 9, _, PySem.W.mg_of X G g12, ⟨t12, rfl⟩, rfl, fun _ _ => .int _⟩
  · simp only [excs, List.mem_cons, List.not_mem_nil, or_false] at hp
    rcases hp with rfl | rfl
    · exact exF_mk (exK_at rfl ea0) (PySem.W.mg_of X G ea0) ex0 ek0 es0 et0
    · exact exF_mk (exK_at rfl ea1) (PySem.W.mg_of X G ea1) ex1 ek1 es1 et1
  · simp only [dicts, List.mem_cons, List.not_mem_nil, or_false] at hp
    rcases hp with rfl
    · exact ⟨_, PySem.W.mg_of X G da0, _, _, dl0, dk0, dm0, de0⟩
end K55
end
section
set_option Elab.async false
set_option linter.all false
set_option maxRecDepth 100000
set_option maxHeartbeats 4000000
set_option autoImplicit false
/-! K55P: what the writers and readers tell -/
namespace K55
open PySem EV
open PySem.Spec L2 in
theorem T : WhT tab consts 0 1 3 4 5 0 1 2 3 4 5 6 7 8 9 10 := ⟨rfl, rfl, rfl, rfl, rfl, rfl, rfl, rfl, rfl, rfl, rfl, rfl, rfl, rfl, rfl, rfl⟩
theorem t2 : tab[2]? = some ⟨2, 1, b2⟩ := rfl
theorem t6 : tab[6]? = some ⟨1, 1, b6⟩ := rfl
theorem t7 : tab[7]? = some ⟨2, 1, b7⟩ := rfl
theorem t8 : tab[8]? = some ⟨2, 1, b8⟩ := rfl
theorem t9 : tab[9]? = some ⟨1, 1, b9⟩ := rfl
theorem t10 : tab[10]? = some ⟨1, 1, b10⟩ := rfl
theorem t11 : tab[11]? = some ⟨2, 1, b11⟩ := rfl
theorem t12 : tab[12]? = some ⟨1, 1, b12⟩ := rfl
theorem t13 : tab[13]? = some ⟨2, 1, b13⟩ := rfl
theorem t14 : tab[14]? = some ⟨1, 1, b14⟩ := rfl
theorem t15 : tab[15]? = some ⟨2, 1, b15⟩ := rfl
theorem t16 : tab[16]? = some ⟨7, 1, b16⟩ := rfl
theorem t17 : tab[17]? = some ⟨4, 1, bPotA⟩ := rfl
theorem t18 : tab[18]? = some ⟨4, 2, bScoop⟩ := rfl
theorem t19 : tab[19]? = some ⟨5, 2, bNames 18⟩ := rfl
theorem t20 : tab[20]? = some ⟨7, 2, b20⟩ := rfl
theorem t21 : tab[21]? = some ⟨3, 1, b21⟩ := rfl
theorem t22 : tab[22]? = some ⟨5, 3, b22⟩ := rfl
theorem t23 : tab[23]? = some ⟨13, 1, b23⟩ := rfl
theorem cg11 : consts[11]? = some (.str figs) := rfl
theorem cg12 : consts[12]? = some (.int 9) := rfl
section
variable {k : Nat} {hp : List D}
theorem nt : callF tab consts (k + 1) 6 [.d (.bool true)] hp = .ok (.d .none) hp := by
  rw [callF, t6]
  simp [noPk, b6]
/-! ### places -/
theorem place_call {a b : Str} (ha : a ∈ baseS) (hb : b ∈ baseS) : callF tab consts (k + 2) 2 [.d (.tuple [.str a, .str b])] hp = .ok (.d (.bool true)) hp := by
  have e1 := name_call (k := k) (hp := hp) T.t1 T.cg0 T.cg1 (nm_sm (base_fin a ha).1)
  have e2 := name_call (k := k) (hp := hp) T.t1 T.cg0 T.cg1 (nm_sm (base_fin b hb).1)
  rw [(base_fin a ha).1] at e1
  rw [(base_fin b hb).1] at e2
  rw [callF, t2]
  simp [noPk, b2, isTy, d_eqi, lcLoop, lcTurn, e1, e2, lim, fAll, bools?]
theorem show_place {a b : Str} (ha : a ∈ baseS) (hb : b ∈ baseS) : callF tab consts (k + 3) 10 [.d (.tuple [.str a, .str b])] hp = .ok (.d (.str (placeT a b))) hp := by
  have e1 := place_call (k := k) (hp := hp) ha hb
  have e2 := nt (k := k + 1) (hp := hp)
  obtain ⟨f1, _, _, f4⟩ := place_fin a ha b hb
  have j : fJoin [.str ".", .tuple [.str a, .str b]] = some (.str (placeT a b)) := (d_joinT (ys := [a, b]) f4).trans (by rw [f1])
  rw [callF, t10]
  simp [noPk, b10, e1, e2, mty, j]
theorem sep_dot : ((Str.length ".") == 0) = false := by decide
theorem sep_sp : ((Str.length " ") == 0) = false := by decide
theorem read_place {a b : Str} (ha : a ∈ baseS) (hb : b ∈ baseS) : callF tab consts (k + 3) 11 [.d (.str (placeT a b))] hp = .ok (.d (.tuple [.str a, .str b])) hp := by
  have e1 := place_call (k := k) (hp := hp) ha hb
  have e2 := nt (k := k + 1) (hp := hp)
  obtain ⟨_, f2, f3, _⟩ := place_fin a ha b hb
  have j : fSplit [.str (placeT a b), .str "."] = some (.list [.str a, .str b]) := d_split f2 (by omega) sep_dot
  have o : fOfTuple [.list [.str a, .str b]] = some (.tuple [.str a, .str b]) := rfl
  rw [callF, t11]
  simp [noPk, b11, isTy, e1, e2, mty, j, o]
/-! ### letters -/
theorem show_letter {l : List Str} (hl : l ∈ lets) : callF tab consts (k + 2) 12 [.d (.tuple (l.map .str))] hp = .ok (.d (.str (Txt.join " " l))) hp := by
  have e1 := letter_call (k := k) (hp := hp) T (.tuple (l.map .str))
  rw [lets_lt l hl] at e1
  have e2 := nt (k := k) (hp := hp)
  have j := d_joinT (sep := " ") (ys := l) (lets_fin l hl).2.2.1
  rw [callF, t12]
  simp [noPk, b12, e1, e2, mty, j]
theorem words_call {z : Str} {ws : List Str} (h : Txt.split z " " = ws) (hz : z.length ≤ 1000) : callF tab consts (k + 2) 9 [.d (.str z)] hp = .ok (.d (.list (ws.map .str))) hp := by
  have e2 := nt (k := k) (hp := hp)
  have j := d_split (sep := " ") h hz sep_sp
  rw [callF, t9]
  simp [noPk, b9, isTy, e2, mty, j]
theorem read_letter {l : List Str} (hl : l ∈ lets) : callF tab consts (k + 3) 13 [.d (.str (Txt.join " " l))] hp = .ok (.d (.tuple (l.map .str))) hp := by
  obtain ⟨f1, f2, _⟩ := lets_fin l hl
  have e0 := words_call (k := k) (hp := hp) f1 (by omega)
  have e1 := letter_call (k := k + 1) (hp := hp) T (.tuple (l.map .str))
  rw [lets_lt l hl] at e1
  have e2 := nt (k := k + 1) (hp := hp)
  have o : fOfTuple [.list (l.map PyData.str)] = some (.tuple (l.map .str)) := rfl
  rw [callF, t13]
  simp [noPk, b13, e0, e1, e2, o]
/-! ### deeds -/
def okP : Part → Prop
  | .nm _ => True
  | .num n => Nf n
  | .let l => l ∈ lets
theorem d_str1 {n : Nat} (h : Nf n) : fStr1 [.int n] = some (.str (numT n)) := if_pos h.lg
theorem number_shown {n : Nat} (h : Nf n) : callF tab consts (k + 2) 7 [.d (.int n)] hp = .ok (.d (.str (numT n))) hp := by
  have e2 := nt (k := k) (hp := hp)
  have f := d_str1 h
  have g := d_lens (z := numT n) (lim_ge (by have := h.hi; omega))
  have q : ((numT n).length : Int) ≤ 9 := by have := h.hi; omega
  rw [callF, t7]
  simp [noPk, b7, f, g, cg12, q, e2]
theorem part_shown {p : Part} (h : okP p) : callF tab consts (k + 3) 14 [.d p.d] hp = .ok (.d (.str p.one)) hp := by
  rw [callF, t14]
  cases p with
  | nm z => simp [noPk, b14, Part.d, Part.one, isTy]
  | num n =>
    have e := number_shown (k := k) (hp := hp) h
    simp [noPk, b14, Part.d, Part.one, isTy, e]
  | «let» l =>
    have e := show_letter (k := k) (hp := hp) h
    simp [noPk, b14, Part.d, Part.one, isTy, e]
theorem lc_parts {turn : D → Ste → Res (Option D)} {s : Ste} : ∀ (ps : List Part) (acc : List D), (∀ p ∈ ps, turn p.d s = .ok (some (.str p.one)) s) → lcLoop turn (ps.map Part.d) acc s = .ok (acc ++ (ps.map Part.one).map .str) s
  | [], acc, _ => by simp [lcLoop]
  | p :: ps, acc, h => by
    rw [List.map_cons, lcLoop, h p List.mem_cons_self]
    simp only [Res.bind]
    rw [lc_parts ps _ fun q hq => h q (List.mem_cons_of_mem _ hq)]
    simp
theorem wf_sm {ps : List Part} (w : Wf ps) : ∀ xs, whatD ps = .tuple xs → ∀ y ∈ xs, Sm y := fun xs e y hy => by
  have := w.ok
  rw [e] at this
  exact ok_sm ((ok_tup.mp this).2 y hy)
theorem what_ok {ps : List Part} (w : Wf ps) : callF tab consts (k + 3) 5 [.d (whatD ps)] hp = .ok (.d (.bool true)) hp := by
  have e := what_call (k := k) (hp := hp) T (wf_sm w)
  rw [w.wh] at e
  exact e
theorem show_what {ps : List Part} (w : Wf ps) (h : ∀ p ∈ ps, okP p) : callF tab consts (k + 4) 15 [.d (whatD ps)] hp = .ok (.d (.str (whatT ps))) hp := by
  have e1 := what_ok (k := k) (hp := hp) w
  have e2 := nt (k := k + 2) (hp := hp)
  have lp : lcLoop (lcTurn ⟨consts, callF tab consts (k + 3)⟩ [1] (.nm 1) .nil (.call 14 (.cons (.var 1) .nil))) (ps.map Part.d) [] ⟨[.v (.d (whatD ps)), .non], hp⟩ = .ok ((ps.map Part.one).map .str) ⟨[.v (.d (whatD ps)), .non], hp⟩ := by
    rw [lc_parts ps [] fun p hp' => by
      have e := part_shown (k := k) (hp := hp) (h p hp')
      simp [lcTurn, e]]
    rfl
  have j := d_joinL (sep := " ") w.s1
  rw [w.one] at j
  have ln : ((ps.map Part.one).map PyData.str).length ≤ 1000000 := by
    have := w.s1
    have q : Str.length " " = 1 := by decide
    rw [q] at this
    rw [List.length_map]
    omega
  have ln : ps.length ≤ 1000000 := by simpa using ln
  have e0 : whatD ps = .tuple (ps.map Part.d) := rfl
  rw [callF, t15]
  rw [e0] at lp e1 ⊢
  simp only [List.map_map] at lp j
  simp [noPk, b15, e1, e2, lp, mty, j, lim, ln]
theorem flat_len {p : Part} (h : okP p) : p.flat.length ≤ 2 := by
  cases p with
  | nm z => show 1 ≤ 2; omega
  | num n => show 1 ≤ 2; omega
  | «let» l => exact (lets_fin l h).2.2.2.2.2.2
def wBody : CSs := ss [
    (.expr (.extF 1 (.ite (.op (.isinst .tuple) (cs [(.peek 2)])) (.op .ofList (cs [(.peek 2)])) (.lst (cs [(.op .str1 (cs [(.peek 2)]))])))))]
theorem wt_loop {x : D} : ∀ (ps : List Part) (acc : List Str) (s2 : Slot), Slot.open (some s2) = true → (∀ p ∈ ps, okP p) → acc.length + 2 * ps.length ≤ 1000 → ∃ t2, Slot.open (some t2) = true ∧
    forLoop (EV.forTurn ⟨consts, callF tab consts k⟩ (.nm 2) wBody) (ps.map Part.d) ⟨[.v (.d x), .own (.list (acc.map .str)), s2], hp⟩ = .nx ⟨[.v (.d x), .own (.list ((acc ++ (ps.map Part.flat).flatten).map .str)), t2], hp⟩
  | [], acc, s2, o, _, _ => ⟨s2, o, by simp [forLoop]⟩
  | p :: ps, acc, s2, o, h, hn => by
    rw [List.length_cons] at hn
    have hp' := h p List.mem_cons_self
    have fl := flat_len hp'
    obtain ⟨t2, p2, e⟩ := wt_loop ps (acc ++ p.flat) (.v (.d p.d)) rfl (fun q hq => h q (List.mem_cons_of_mem _ hq)) (by rw [List.length_append]; omega)
    refine ⟨t2, p2, ?_⟩
    have al : acc.length ≤ 1000 := by omega
    rw [List.map_cons, forLoop]
    have tn : EV.forTurn ⟨consts, callF tab consts k⟩ (.nm 2) wBody p.d ⟨[.v (.d x), .own (.list (acc.map .str)), s2], hp⟩ = .nx ⟨[.v (.d x), .own (.list ((acc ++ p.flat).map .str)), .v (.d p.d)], hp⟩ := by
      cases p with
      | nm z =>
        have l1 : acc.length + 1 < 1000000 := by omega
        have f : fStr1 [.str z] = some (.str z) := rfl
        simp [-bi_nm, bi_open, EV.forTurn, wBody, o, Part.d, Part.flat, isTy, f, Ste.cell, cellOk, lim, l1]
      | num n =>
        have l1 : acc.length + 1 < 1000000 := by omega
        have f := d_str1 hp'
        simp [-bi_nm, bi_open, EV.forTurn, wBody, o, Part.d, Part.flat, isTy, f, Ste.cell, cellOk, lim, l1]
      | «let» l =>
        have fl : l.length ≤ 2 := fl
        have l1 : acc.length + l.length < 1000000 := by omega
        have f : fOfList [.tuple (l.map PyData.str)] = some (.list (l.map .str)) := rfl
        simp [-bi_nm, bi_open, EV.forTurn, wBody, o, Part.d, Part.flat, isTy, f, Ste.cell, cellOk, lim, l1]
    rw [tn]
    simp only [List.append_assoc] at e
    simpa using e
theorem what_text {ps : List Part} (h : ∀ p ∈ ps, okP p) (hl : ps.length ≤ 10) (w : (((ps.map Part.flat).flatten).map (·.length)).sum + ((ps.map Part.flat).flatten).length * (Str.length " ") ≤ 1000) : callF tab consts (k + 1) 21 [.d (whatD ps)] hp = .ok (.d (.str (whatT ps))) hp := by
  obtain ⟨t2, _, e⟩ := wt_loop (k := k) (hp := hp) (x := whatD ps) ps [] .non rfl h (by simp; omega)
  have j := d_joinL (sep := " ") w
  simp only [wBody, cs_cons, cs_nil, ss_cons, ss_nil, List.map_nil, List.nil_append] at e
  rw [callF, t21]
  have e0 : whatD ps = .tuple (ps.map Part.d) := rfl
  rw [e0] at e ⊢
  unfold whatT
  generalize (List.map Part.flat ps).flatten = W at e j ⊢
  simp [noPk, b21, e, mty, j]
end
end K55
end
section
set_option Elab.async false
set_option linter.all false
set_option maxRecDepth 100000
set_option maxHeartbeats 4000000
set_option autoImplicit false
/-! K55Q: readers; what the law draws -/
namespace K55
open PySem EV
section
variable {k : Nat} {hp : List D}
theorem number_in {n : Nat} (h : Nf n) : callF tab consts (k + 2) 8 [.d (.str (numT n))] hp = .ok (.d (.int n)) hp := by
  obtain ⟨c, r, hc, h0⟩ := h.hd
  have hl : (numT n).length ≤ 1000 := by have := h.hi; omega
  have hl2 : (numT n).length ≤ lim := lim_ge hl
  have e2 := nt (k := k) (hp := hp)
  have hi := h.hi
  have q1 : (1 : Int) ≤ (numT n).length := by have := h.lo; omega
  have q2 : ((numT n).length : Int) ≤ 9 := by omega
  have f1 : fInt [.str (numT n)] = some (.int n) := by
    show (if (numT n).length ≤ 640 then (PySem.intText? (numT n)).map PyData.int else none) = _
    rw [if_pos (by omega), h.it]
    rfl
  have f2 := d_ix0 hc hl
  have fg := h.fig
  have fl := d_lens hl2
  have hs : (numT n).cps.size ≤ 1000000 := hl2
  generalize numT n = w at *
  have lp : lcLoop (lcTurn ⟨consts, callF tab consts (k + 1)⟩ [1] (.nm 1) .nil (.op .in_ (.cons (.peek 1) (.cons (.glob 11) .nil)))) (w.cps.toList.map fun c => .str ⟨#[c]⟩) [] ⟨[.v (.d (.str w)), .non], hp⟩ = .ok ((w.cps.toList.map fun c => PyData.bool (decide (c ∈ figs.cps.toList)))) ⟨[.v (.d (.str w)), .non], hp⟩ := by
    rw [lcLoop_map (f := fun d => match d with | .str y => .bool (decide (∀ c ∈ y.cps.toList, c ∈ figs.cps.toList)) | d => d)]
    · simp
    · intro x hx
      obtain ⟨c, _, rfl⟩ := List.mem_map.mp hx
      simp [lcTurn, cg11, d_in1]
  have al := d_allb (f := fun c => decide (c ∈ figs.cps.toList)) w.cps.toList
  rw [fg] at al
  rw [callF, t8]
  cases c0 : (w == ("0" : Str)) with
  | true => simp [-Array.mem_toList_iff, noPk, b8, fl, cg12, q1, q2, lp, hs, al, e2, d_eqs, c0, f1, lim]
  | false =>
    rw [c0, Bool.false_or] at h0
    simp [-Array.mem_toList_iff, noPk, b8, fl, cg12, q1, q2, lp, hs, al, e2, d_eqs, d_nes, c0, f1, f2, h0, lim]
theorem sl2 (a b : D) (r : List D) : cut (a :: b :: r) none (some 2) = [a, b] := (cut_to (a :: b :: r) (i := 2)).trans rfl
theorem sl2r (a b : D) (r : List D) : cut (a :: b :: r) (some 2) none = r := (cut_from (a :: b :: r) (i := 2)).trans rfl
theorem k0 : (("" : Str) == "nl") = false ∧ (("n" : Str) == "nl") = false ∧ (("c" : Str) == "nl") = false ∧ (("nc" : Str) == "nl") = false ∧ (("nl" : Str) == "nl") = true ∧ (("n" : Str) == "c") = false ∧ (("c" : Str) == "c") = true ∧ (("l" : Str) == "c") = false := by decide
theorem r0 {z t : Str} (hd : fDin whats false [.str z] = some (.bool true)) (ha : fDat whats [.str z] = some (.str "")) (e0 : callF tab consts (k + 3) 9 [.d (.str t)] hp = .ok (.d (.list [.str z])) hp) (e1 : callF tab consts (k + 3) 5 [.d (.tuple [.str z])] hp = .ok (.d (.bool true)) hp) :
    callF tab consts (k + 4) 16 [.d (.str t)] hp = .ok (.d (.tuple [.str z])) hp := by
  have e2 := nt (k := k + 2) (hp := hp)
  have o : fOfTuple [.list []] = some (.tuple []) := rfl
  simp only [whats] at hd ha
  rw [callF, t16]
  simp [-seq_s, noPk, b16, e0, nth0, hd, ha, e2, d_eqs, k0, d_eqi, w_nil, fSlice, part?, cut1, lcLoop, lcTurn, lim, o, fAdd, e1]
theorem r1 {z t a : Str} (hd : fDin whats false [.str z] = some (.bool true)) (ha : fDat whats [.str z] = some (.str "n")) (e0 : callF tab consts (k + 3) 9 [.d (.str t)] hp = .ok (.d (.list [.str z, .str a])) hp) (e1 : callF tab consts (k + 3) 5 [.d (.tuple [.str z, .str a])] hp = .ok (.d (.bool true)) hp) :
    callF tab consts (k + 4) 16 [.d (.str t)] hp = .ok (.d (.tuple [.str z, .str a])) hp := by
  have e2 := nt (k := k + 2) (hp := hp)
  have o : fOfTuple [.list [.str a]] = some (.tuple [.str a]) := rfl
  simp only [whats] at hd ha
  rw [callF, t16]
  simp [-seq_s, noPk, b16, e0, nth0, hd, ha, e2, d_eqs, k0, d_eqi, w_n, fSlice, part?, cut1, lcLoop, lcTurn, lim, o, fAdd, e1]
theorem r2 {z t a w : Str} {n : Int} (hd : fDin whats false [.str z] = some (.bool true)) (ha : fDat whats [.str z] = some (.str "nc")) (e0 : callF tab consts (k + 3) 9 [.d (.str t)] hp = .ok (.d (.list [.str z, .str a, .str w])) hp) (e1 : callF tab consts (k + 3) 5 [.d (.tuple [.str z, .str a, .int n])] hp = .ok (.d (.bool true)) hp)
    (e3 : callF tab consts (k + 3) 8 [.d (.str w)] hp = .ok (.d (.int n)) hp) : callF tab consts (k + 4) 16 [.d (.str t)] hp = .ok (.d (.tuple [.str z, .str a, .int n])) hp := by
  have e2 := nt (k := k + 2) (hp := hp)
  have o : fOfTuple [.list [.str a, .int n]] = some (.tuple [.str a, .int n]) := rfl
  simp only [whats] at hd ha
  rw [callF, t16]
  simp [-seq_s, noPk, b16, e0, nth0, hd, ha, e2, d_eqs, k0, d_eqi, w_nc, fSlice, part?, cut1, lcLoop, lcTurn, lim, o, fAdd, e1, e3]
theorem r3 {z t w : Str} {n : Int} (hd : fDin whats false [.str z] = some (.bool true)) (ha : fDat whats [.str z] = some (.str "c")) (e0 : callF tab consts (k + 3) 9 [.d (.str t)] hp = .ok (.d (.list [.str z, .str w])) hp) (e1 : callF tab consts (k + 3) 5 [.d (.tuple [.str z, .int n])] hp = .ok (.d (.bool true)) hp)
    (e3 : callF tab consts (k + 3) 8 [.d (.str w)] hp = .ok (.d (.int n)) hp) : callF tab consts (k + 4) 16 [.d (.str t)] hp = .ok (.d (.tuple [.str z, .int n])) hp := by
  have e2 := nt (k := k + 2) (hp := hp)
  have o : fOfTuple [.list [.int n]] = some (.tuple [.int n]) := rfl
  simp only [whats] at hd ha
  rw [callF, t16]
  simp [-seq_s, noPk, b16, e0, nth0, hd, ha, e2, d_eqs, k0, d_eqi, w_c, fSlice, part?, cut1, lcLoop, lcTurn, lim, o, fAdd, e1, e3]
theorem r4 {z t a : Str} {l : List D} (hd : fDin whats false [.str z] = some (.bool true)) (ha : fDat whats [.str z] = some (.str "nl")) (e0 : callF tab consts (k + 3) 9 [.d (.str t)] hp = .ok (.d (.list (.str z :: .str a :: l))) hp) (e1 : callF tab consts (k + 3) 5 [.d (.tuple [.str z, .str a, .tuple l])] hp = .ok (.d (.bool true)) hp) :
    callF tab consts (k + 4) 16 [.d (.str t)] hp = .ok (.d (.tuple [.str z, .str a, .tuple l])) hp := by
  have e2 := nt (k := k + 2) (hp := hp)
  have o : fOfTuple [.list [.str a, .tuple l]] = some (.tuple [.str a, .tuple l]) := rfl
  have o2 : fOfTuple [.list l] = some (.tuple l) := rfl
  simp only [whats] at hd ha
  rw [callF, t16]
  simp [-seq_s, noPk, b16, e0, nth0, hd, ha, e2, d_eqs, k0, d_eqi, w_nl, fSlice, part?, cut1, sl2, sl2r, lcLoop, lcTurn, lim, o, o2, fAdd, e1]
theorem read_what {ps : List Part} (g : GoodW ps) : callF tab consts (k + 4) 16 [.d (.str (whatT ps))] hp = .ok (.d (whatD ps)) hp := by
  have w := g.wf
  have e0 := words_call (k := k + 1) (hp := hp) w.spl (by have := w.len; omega)
  have e1 := what_ok (k := k) (hp := hp) w
  cases g with
  | w0 hz =>
    refine r0 (t := whatT _) ?_ ?_ e0 e1
    · simp only [List.mem_cons, List.not_mem_nil, or_false] at hz; rcases hz with rfl | rfl <;> kernel_rfl
    · simp only [List.mem_cons, List.not_mem_nil, or_false] at hz; rcases hz with rfl | rfl <;> kernel_rfl
  | w1 hz ha =>
    refine r1 (t := whatT _) ?_ ?_ e0 e1
    · simp only [List.mem_cons, List.not_mem_nil, or_false] at hz; rcases hz with rfl | rfl | rfl <;> kernel_rfl
    · simp only [List.mem_cons, List.not_mem_nil, or_false] at hz; rcases hz with rfl | rfl | rfl <;> kernel_rfl
  | w2 ha hn => exact r2 (t := whatT _) (by kernel_rfl) (by kernel_rfl) e0 e1 (number_in (k := k + 1) (nf_of hn))
  | w3 hn => exact r3 (t := whatT _) (by kernel_rfl) (by kernel_rfl) e0 e1 (number_in (k := k + 1) (nf_of hn))
  | @w4 a l ha hl =>
    have e0' : callF tab consts (k + 3) 9 [.d (.str (whatT [.nm "hear", .nm a, .let l]))] hp = .ok (.d (.list (.str "hear" :: .str a :: l.map .str))) hp := by
      rw [e0]
      simp [Part.flat]
    exact r4 (t := whatT _) (by kernel_rfl) (by kernel_rfl) e0' e1
theorem flat_one : ∀ l : List Str, (l.map fun z => [z]).flatten = l
  | [] => rfl
  | x :: r => by rw [List.map_cons, List.flatten_cons, flat_one r]; rfl
theorem letter_text {l : List Str} (hl : l ∈ lets) : callF tab consts (k + 1) 21 [.d (.tuple (l.map .str))] hp = .ok (.d (.str (Txt.join " " l))) hp := by
  have f := lets_fin l hl
  have ff : (((l.map Part.nm).map Part.flat).flatten) = l := by
    rw [List.map_map]
    exact flat_one l
  have e := what_text (k := k) (hp := hp) (ps := l.map Part.nm) (fun p hp => by obtain ⟨z, _, rfl⟩ := List.mem_map.mp hp; trivial) (by rw [List.length_map]; have := f.2.2.2.2.2.2; omega) (by rw [ff]; exact f.2.2.1)
  have e0 : whatD (l.map Part.nm) = .tuple (l.map .str) := by
    unfold whatD
    rw [List.map_map]
    rfl
  rw [e0] at e
  rw [e, whatT, ff]
end
theorem okp_of {ps : List Part} (g : GoodW ps) : ∀ p ∈ ps, okP p := fun p hp => by
  cases g with
  | w0 hz => simp only [List.mem_cons, List.not_mem_nil, or_false] at hp; subst hp; trivial
  | w1 hz ha => simp only [List.mem_cons, List.not_mem_nil, or_false] at hp; rcases hp with rfl | rfl <;> trivial
  | w2 ha hn => simp only [List.mem_cons, List.not_mem_nil, or_false] at hp; rcases hp with rfl | rfl | rfl; trivial; trivial; exact nf_of hn
  | w3 hn => simp only [List.mem_cons, List.not_mem_nil, or_false] at hp; rcases hp with rfl | rfl; trivial; exact nf_of hn
  | w4 ha hl => simp only [List.mem_cons, List.not_mem_nil, or_false] at hp; rcases hp with rfl | rfl | rfl; trivial; trivial; exact hl
theorem len_of {ps : List Part} (g : GoodW ps) : ps.length ≤ 3 := by cases g <;> simp
/-- a drawn place, letter, deed -/
structure Tri (a b : Str) (l : List Str) (ps : List Part) : Prop where
  a : a ∈ baseS
  b : b ∈ baseS
  l : l ∈ lets
  w : GoodW ps
def plD (a b : Str) : D := .tuple [.str a, .str b]
def ltD (l : List Str) : D := .tuple (l.map .str)
theorem tri_repr {a b : Str} {l : List Str} {ps : List Part} (t : Tri a b l ps) : ∃ z, fRepr [.list [plD a b, ltD l, whatD ps]] = some (.str z) := by
  have fa := (base_fin a t.a).2.1
  have fb := (base_fin b t.b).2.1
  have fl := (lets_fin l t.l).2.2.2
  have w := t.w.wf
  have w1 : wt (ltD l) ≤ 100 := fl.2.1
  have w2 := w.wt
  have d1 : (ltD l).depth ≤ 1 := fl.2.2.1
  have d2 := w.dp
  refine ⟨_, d_repr (l := 3) (ok_list.mpr ⟨by simp, fun y hy => ?_⟩) ?_ ?_⟩
  · simp only [List.mem_cons, List.not_mem_nil, or_false] at hy
    rcases hy with rfl | rfl | rfl
    · refine ok_tup.mpr ⟨by simp, fun z hz => ?_⟩
      simp only [List.mem_cons, List.not_mem_nil, or_false] at hz
      rcases hz with rfl | rfl
      · exact fa
      · exact fb
    · exact fl.1
    · exact w.ok
  · simp only [PyData.depth, PyData.depthAll, plD]; omega
  · simp only [wt, wtAll, plD]; omega
theorem plain_strs (xs : List Str) : PyData.plainAll (xs.map .str) = true := by
  induction xs with
  | nil => rfl
  | cons x r ih => simp [PyData.plainAll, PyData.plain, ih]
theorem ne_strs {x y z : Str} : fNe [.list [.str x, .str y, .str z], .list [.str x, .str y, .str z]] = some (.bool false) := by
  simp [fNe, plainD, PyData.plain, PyData.plainAll, PyData.depth, PyData.depthAll, PyData.eqv, PyData.eqvAll]
theorem law_right {k : Nat} {hp : List D} {a b : Str} {l : List Str} {ps : List Part} (t : Tri a b l ps) : callF tab consts (k + 5) 22 [.d (plD a b), .d (ltD l), .d (whatD ps)] hp = .ok (.d (.bool true)) hp := by
  have w := t.w.wf
  have op := okp_of t.w
  have e1 := letter_text (k := k + 3) (hp := hp) t.l
  have e2 := what_text (k := k + 3) (hp := hp) op (by have := len_of t.w; omega) w.s2
  have e3 := show_place (k := k + 1) (hp := hp) t.a t.b
  have e4 := show_letter (k := k + 2) (hp := hp) t.l
  have e5 := show_what (k := k) (hp := hp) w op
  have e6 := read_place (k := k + 1) (hp := hp) t.a t.b
  have e7 := read_letter (k := k + 1) (hp := hp) t.l
  have e8 := read_what (k := k) (hp := hp) t.w
  obtain ⟨z, rp⟩ := tri_repr t
  have la := (base_fin a t.a).2.2.1
  have lb := (base_fin b t.b).2.2.1
  have ld : Str.length "." = 1 := by decide
  have a1 : fAdd [.str a, .str "."] = some (.str (a ++ ".")) := d_adds (by omega)
  have a2 : fAdd [.str (a ++ "."), .str b] = some (.str (placeT a b)) := d_adds (by rw [len_app]; omega)
  rw [callF, t22]
  simp only [plD, ltD] at *
  generalize whatD ps = W at *
  generalize PyData.tuple (l.map .str) = L at *
  simp [noPk, b22, nth0, nth1, nth2, a1, a2, e1, e2, e3, e4, e5, ne_strs, e6, e7, e8, rp, d_eqs, lim]
theorem sc_call {k n : Nat} {d : D} {m : Int} (ho : PotOk n d) (hn : n < 2 ^ 58) (h0 : 0 < m) (h1 : m < 2 ^ 30) : ∃ (r : Int) (d' : D), 0 ≤ r ∧ r < m ∧ PotOk (n + 1) d' ∧ callF tab consts (k + 1) 18 [.r 0, .d (.int m)] [d] = .ok (.d (.int r)) [d'] := by
  obtain ⟨r, d', r0, r1, o, e⟩ := scoop_call (k := k) (consts := consts) (p := 0) (hp := [d]) t18 rfl ho (by omega) h0 h1
  exact ⟨r, d', r0, r1, o, e⟩
theorem d_addl (a b : List D) : fAdd [.list a, .list b] = if a.length + b.length ≤ lim then some (.list (a ++ b)) else none := rfl
theorem base_at {gs : List D} {r : Int} (hb : ∀ y ∈ gs, y ∈ base) (h0 : 0 ≤ r) (h1 : r < gs.length) : ∃ a ∈ baseS, nth gs r = some (.str a) := by
  obtain ⟨y, hy, e⟩ := nth_ok h0 h1
  have := hb y hy
  rw [base_S] at this
  obtain ⟨a, ha, rfl⟩ := List.mem_map.mp this
  exact ⟨a, ha, e⟩
def letsD : List D := [.tuple [.str "open"], .tuple [.str "heard"], .tuple [.str "chair"], .tuple [.str "back"], .tuple [.str "word", .str "in"], .tuple [.str "word", .str "out"], .tuple [.str "word", .str "clear"], .tuple [.str "word", .str "barred"]]
theorem letsD_eq : letsD = lets.map ltD := rfl
theorem num_at {r1 r2 r3 : Int} (a0 : 0 ≤ r1) (a1 : r1 < 12) (b0 : 0 ≤ r2) (b1 : r2 < 3) (c0 : 0 ≤ r3) (c1 : r3 < 3) : ∃ n ∈ numsN, nth [PyData.int 0, .int r1, .int (999999999 - r2)] r3 = some (.int (n : Nat)) := by
  have : r3 = 0 ∨ r3 = 1 ∨ r3 = 2 := by omega
  rcases this with rfl | rfl | rfl
  · exact ⟨0, by decide, nth0 _ _⟩
  · obtain ⟨n, rfl⟩ := Int.eq_ofNat_of_zero_le a0
    exact ⟨n, List.mem_append.mpr (.inl (List.mem_range.mpr (by omega))), nth1 _ _ _⟩
  · have : r2 = 0 ∨ r2 = 1 ∨ r2 = 2 := by omega
    rcases this with rfl | rfl | rfl
    · exact ⟨999999999, by decide, nth2 _ _ _ _⟩
    · exact ⟨999999998, by decide, nth2 _ _ _ _⟩
    · exact ⟨999999997, by decide, nth2 _ _ _ _⟩
theorem line_call {k n : Nat} {d : D} {gs : List D} (hb : ∀ y ∈ gs, y ∈ base) (h0 : 0 < gs.length) (h1 : gs.length ≤ 20) (ho : PotOk n d) (hn : n < 2 ^ 56) :
    ∃ l ps d', l ∈ lets ∧ GoodW ps ∧ PotOk (n + 6) d' ∧ callF tab consts (k + 2) 20 [.r 0, .d (.list gs)] [d] = .ok (.d (.list [ltD l, whatD ps])) [d'] := by
  obtain ⟨lz, fl, hz⟩ : ∃ z : Int, fLen [.list gs] = some (.int z) ∧ z = (gs.length : Int) := ⟨_, rfl, rfl⟩
  obtain ⟨r1, d1, z1, q1, o1, e1⟩ := sc_call (k := k) (m := lz) ho (by omega) (by omega) (by omega)
  obtain ⟨a, ha, n1⟩ := base_at hb z1 (by omega)
  obtain ⟨r2, d2, z2, q2, o2, e2⟩ := sc_call (k := k) (m := 12) o1 (by omega) (by decide) (by decide)
  obtain ⟨r3, d3, z3, q3, o3, e3⟩ := sc_call (k := k) (m := 3) o2 (by omega) (by decide) (by decide)
  obtain ⟨r4, d4, z4, q4, o4, e4⟩ := sc_call (k := k) (m := 3) o3 (by omega) (by decide) (by decide)
  obtain ⟨c, hc, n2⟩ := num_at z2 q2 z3 q3 z4 q4
  obtain ⟨r5, d5, z5, q5, o5, e5⟩ := sc_call (k := k) (m := 8) o4 (by omega) (by decide) (by decide)
  obtain ⟨y, hy, n3⟩ := nth_ok (xs := letsD) z5 q5
  rw [letsD_eq] at hy
  obtain ⟨l, hl, rfl⟩ := List.mem_map.mp hy
  obtain ⟨r6, d6, z6, q6, o6, e6⟩ := sc_call (k := k) (m := 9) o5 (by omega) (by decide) (by decide)
  obtain ⟨w, hw, n4⟩ := nth_ok (xs := [.tuple [.str "wish"], .tuple [.str "unwish"], .tuple [.str "join", .str a], .tuple [.str "part", .str a], .tuple [.str "put", .str a, .int c], .tuple [.str "out", .str a], .tuple [.str "room", .int c], .tuple [.str "hear", .str a, ltD l], .tuple [.str "hear", .str a, ltD l]]) z6 q6
  have gw : ∃ ps, GoodW ps ∧ w = whatD ps := by
    simp only [List.mem_cons, List.not_mem_nil, or_false] at hw
    rcases hw with rfl | rfl | rfl | rfl | rfl | rfl | rfl | rfl | rfl
    · exact ⟨_, .w0 (z := "wish") (by decide), rfl⟩
    · exact ⟨_, .w0 (z := "unwish") (by decide), rfl⟩
    · exact ⟨_, .w1 (z := "join") (by decide) ha, rfl⟩
    · exact ⟨_, .w1 (z := "part") (by decide) ha, rfl⟩
    · exact ⟨_, .w2 ha hc, rfl⟩
    · exact ⟨_, .w1 (z := "out") (by decide) ha, rfl⟩
    · exact ⟨_, .w3 hc, rfl⟩
    · exact ⟨_, .w4 ha hl, rfl⟩
    · exact ⟨_, .w4 ha hl, rfl⟩
  obtain ⟨ps, hps, rfl⟩ := gw
  refine ⟨l, ps, d6, hl, hps, o6, ?_⟩
  rw [callF, t20]
  simp only [letsD] at n3
  generalize whatD ps = W at *
  generalize ltD l = L at *
  simp [-d_lenl, noPk, b20, lim, Ste.cell, cellOk, Mu.fn, mApp, fl, e1, n1, e2, p10_9, e3, e4, n2, e5, n3, d_addl, e6, n4]
end K55
end
section
set_option Elab.async false
set_option linter.all false
set_option maxRecDepth 100000
set_option maxHeartbeats 4000000
set_option autoImplicit false
/-! K55R: alike; the loops -/
namespace K55
open PySem EV
mutual
def nb : D → Bool
  | .int _ => true
  | .str _ => true
  | .tuple xs => nbAll xs
  | _ => false
def nbAll : List D → Bool
  | [] => true
  | x :: r => nb x && nbAll r
end
mutual
theorem eqv_eq : ∀ (x y : D), nb x = true → nb y = true → PyData.eqv x y = true → x = y
  | .int i, y, _, hy, h => by
    cases y with
    | int j => rw [PyData.eqv] at h; rw [eq_of_beq h]
    | str z => exact nomatch (show false = true from h)
    | tuple ys => exact nomatch (show false = true from h)
    | _ => exact nomatch (show false = true from hy)
  | .str s, y, _, hy, h => by
    cases y with
    | int j => exact nomatch (show false = true from h)
    | str z => rw [PyData.eqv] at h; rw [eq_of_beq h]
    | tuple ys => exact nomatch (show false = true from h)
    | _ => exact nomatch (show false = true from hy)
  | .tuple xs, y, hx, hy, h => by
    cases y with
    | int j => exact nomatch (show false = true from h)
    | str z => exact nomatch (show false = true from h)
    | tuple ys =>
      rw [PyData.eqv] at h
      rw [nb] at hx hy
      rw [eqvAll_eq xs ys hx hy h]
    | _ => exact nomatch (show false = true from hy)
  | .none, _, hx, _, _ => nomatch (show false = true from hx)
  | .bool _, _, hx, _, _ => nomatch (show false = true from hx)
  | .list _, _, hx, _, _ => nomatch (show false = true from hx)
  | .dict _, _, hx, _, _ => nomatch (show false = true from hx)
theorem eqvAll_eq : ∀ (xs ys : List D), nbAll xs = true → nbAll ys = true → PyData.eqvAll xs ys = true → xs = ys
  | [], [], _, _, _ => rfl
  | [], y :: r, _, _, h => by rw [q_nc] at h; cases h
  | x :: r, [], _, _, h => by rw [q_cn] at h; cases h
  | x :: r, y :: t, hx, hy, h => by
    rw [q_cc, Bool.and_eq_true] at h
    rw [nbAll, Bool.and_eq_true] at hx hy
    rw [eqv_eq x y hx.1 hy.1 h.1, eqvAll_eq r t hx.2 hy.2 h.2]
end
mutual
theorem nb_plain : ∀ x : D, nb x = true → x.plain = true
  | .int _, _ => by simp [PyData.plain]
  | .str _, _ => by simp [PyData.plain]
  | .tuple xs, h => by
    rw [nb] at h
    simp only [PyData.plain]
    exact nb_plainAll xs h
  | .none, _ => by simp [PyData.plain]
  | .bool _, _ => by simp [PyData.plain]
  | .list _, h => nomatch (show false = true from h)
  | .dict _, h => nomatch (show false = true from h)
theorem nb_plainAll : ∀ xs : List D, nbAll xs = true → PyData.plainAll xs = true
  | [], _ => by simp [PyData.plainAll]
  | x :: r, h => by
    rw [nbAll, Bool.and_eq_true] at h
    simp only [PyData.plainAll, Bool.and_eq_true]
    exact ⟨nb_plain x h.1, nb_plainAll r h.2⟩
end
theorem nb_strs : ∀ xs : List Str, nbAll (xs.map .str) = true
  | [] => rfl
  | x :: r => by rw [List.map_cons, nbAll, nb_strs r]; rfl
theorem nb_parts : ∀ ps : List Part, nbAll (ps.map Part.d) = true
  | [] => rfl
  | p :: r => by
    rw [List.map_cons, nbAll, nb_parts r, Bool.and_true]
    cases p with
    | nm z => rfl
    | num n => rfl
    | «let» l => show nb (.tuple (l.map .str)) = true; rw [nb]; exact nb_strs l
theorem nb_what (ps : List Part) : nb (whatD ps) = true := by unfold whatD; rw [nb]; exact nb_parts ps
theorem nb_lt (l : List Str) : nb (ltD l) = true := by unfold ltD; rw [nb]; exact nb_strs l
theorem nb_pl (a b : Str) : nb (plD a b) = true := rfl
theorem alike {x y : D} {s t : Str} (hx : nb x = true) (hy : nb y = true) (dx : x.depth ≤ 64) (dy : y.depth ≤ 64) (h : s = t ↔ x = y) : ∃ b, fEq [x, y] = some (.bool b) ∧ fEq [.str s, .str t] = some (.bool b) := by
  refine ⟨s == t, ?_, d_eqs s t⟩
  have p1 : plainD x = true := by rw [plainD, nb_plain x hx, Bool.true_and, decide_eq_true_eq]; exact dx
  have p2 : plainD y = true := by rw [plainD, nb_plain y hy, Bool.true_and, decide_eq_true_eq]; exact dy
  unfold fEq
  simp only [p1, p2, Bool.and_self, if_true]
  congr 2
  rw [Bool.eq_iff_iff, beq_iff_eq, h]
  constructor
  · exact eqv_eq x y hx hy
  · rintro rfl
    exact PySem.SeqAt.eqv_refl_plain x (nb_plain x hx)
theorem map_str_inj {l m : List Str} (h : l.map PyData.str = m.map PyData.str) : l = m := by
  have := congrArg strs? h
  rw [strs_mapS, strs_mapS] at this
  exact Option.some.inj this
section
variable {a b a' b' : Str} {l l' : List Str} {ps qs : List Part}
theorem pl_alike (t : Tri a b l ps) (u : Tri a' b' l' qs) : ∃ c, fEq [plD a b, plD a' b'] = some (.bool c) ∧ fEq [.str (placeT a b), .str (placeT a' b')] = some (.bool c) := by
  refine alike (nb_pl _ _) (nb_pl _ _) (by show 1 ≤ 64; omega) (by show 1 ≤ 64; omega) ⟨fun h => ?_, fun h => by cases h; rfl⟩
  have h1 := (place_fin a t.a b t.b).2.1
  have h2 := (place_fin a' u.a b' u.b).2.1
  rw [h, h2] at h1
  cases h1
  rfl
theorem lt_alike (t : Tri a b l ps) (u : Tri a' b' l' qs) : ∃ c, fEq [ltD l, ltD l'] = some (.bool c) ∧ fEq [.str (Txt.join " " l), .str (Txt.join " " l')] = some (.bool c) := by
  have f1 := lets_fin l t.l
  have f2 := lets_fin l' u.l
  have d1 : (ltD l).depth ≤ 1 := f1.2.2.2.2.2.1
  have d2 : (ltD l').depth ≤ 1 := f2.2.2.2.2.2.1
  refine alike (nb_lt _) (nb_lt _) (by omega) (by omega) ⟨fun h => ?_, fun h => ?_⟩
  · have h1 := f1.1
    rw [h, f2.1] at h1
    rw [h1]
  · unfold ltD at h
    cases map_str_inj (PyData.tuple.inj h)
    rfl
theorem wh_alike (t : Tri a b l ps) (u : Tri a' b' l' qs) : ∃ c, fEq [whatD ps, whatD qs] = some (.bool c) ∧ fEq [.str (whatT ps), .str (whatT qs)] = some (.bool c) := by
  have d1 := t.w.wf.dp
  have d2 := u.w.wf.dp
  refine alike (nb_what _) (nb_what _) (by omega) (by omega) ⟨fun h => ?_, fun h => ?_⟩
  · have h1 := read_what (k := 0) (hp := []) t.w
    have h2 := read_what (k := 0) (hp := []) u.w
    rw [h, h2] at h1
    injection h1 with h1
    injection h1 with h1
    exact h1.symm
  · have h1 := show_what (k := 0) (hp := []) t.w.wf (okp_of t.w)
    have h2 := show_what (k := 0) (hp := []) u.w.wf (okp_of u.w)
    rw [h, h2] at h1
    injection h1 with h1
    injection h1 with h1
    injection h1 with h1
    exact h1.symm
end
def triD (a b : Str) (l : List Str) (ps : List Part) : D := .tuple [plD a b, ltD l, whatD ps]
def IsTri (x : D) : Prop := ∃ a b l ps, Tri a b l ps ∧ x = triD a b l ps
theorem ne_b1 (b : Bool) : fNe [.bool b, .bool b] = some (.bool false) := by cases b <;> exact ne_self (by decide)
theorem ne_b2 (b c : Bool) : fNe [.list [.bool b, .bool c], .list [.bool b, .bool c]] = some (.bool false) := by cases b <;> cases c <;> exact ne_self (by decide)
def kBody : CSs := ss [
        (.set 12 (.lst (cs [(.op .eq (cs [(.call 10 (cs [(.op .idx (cs [(.peek 10), (.kst (.int 0))]))])), (.call 10 (cs [(.op .idx (cs [(.peek 11), (.kst (.int 0))]))]))])), (.op .eq (cs [(.call 15 (cs [(.op .idx (cs [(.peek 10), (.kst (.int 2))]))])), (.call 15 (cs [(.op .idx (cs [(.peek 11), (.kst (.int 2))]))]))]))]))),
        (.ite (.op .ne (cs [(.peek 12), (.lst (cs [(.op .eq (cs [(.op .idx (cs [(.peek 10), (.kst (.int 0))])), (.op .idx (cs [(.peek 11), (.kst (.int 0))]))])), (.op .eq (cs [(.op .idx (cs [(.peek 10), (.kst (.int 2))])), (.op .idx (cs [(.peek 11), (.kst (.int 2))]))]))]))])) (ss [
          (.ret (.kst (.bool false)))]) (ss [])),
        (.ite (.op .ne (cs [(.op .eq (cs [(.call 12 (cs [(.op .idx (cs [(.peek 10), (.kst (.int 1))]))])), (.call 12 (cs [(.op .idx (cs [(.peek 11), (.kst (.int 1))]))]))])), (.op .eq (cs [(.op .idx (cs [(.peek 10), (.kst (.int 1))])), (.op .idx (cs [(.peek 11), (.kst (.int 1))]))]))])) (ss [
          (.ret (.kst (.bool false)))]) (ss []))]
section
variable {v0 : Vl} {x4 : D} {s2 s3 s5 s6 s7 s8 s9 : Slot} {hp : List D}
theorem pair_turn {x y : D} {s11 s12 : Slot} (hx : IsTri x) (hy : IsTri y) (o11 : Slot.open (some s11) = true) (o12 : Slot.open (some s12) = true) :
    ∃ t12, Slot.open (some t12) = true ∧ EV.forTurn ⟨consts, callF tab consts 9⟩ (.nm 11) kBody y ⟨[.v v0, .v (.r 0), s2, s3, .lck x4, s5, s6, s7, s8, s9, .v (.d x), s11, s12], hp⟩ =
      .nx ⟨[.v v0, .v (.r 0), s2, s3, .lck x4, s5, s6, s7, s8, s9, .v (.d x), .v (.d y), t12], hp⟩ := by
  obtain ⟨a, b, l, ps, t, rfl⟩ := hx
  obtain ⟨a', b', l', qs, u, rfl⟩ := hy
  obtain ⟨c1, f1, g1⟩ := pl_alike t u
  obtain ⟨c2, f2, g2⟩ := lt_alike t u
  obtain ⟨c3, f3, g3⟩ := wh_alike t u
  have e1 : callF tab consts 9 10 [.d (plD a b)] hp = .ok (.d (.str (placeT a b))) hp := show_place (k := 6) t.a t.b
  have e2 : callF tab consts 9 10 [.d (plD a' b')] hp = .ok (.d (.str (placeT a' b'))) hp := show_place (k := 6) u.a u.b
  have e3 : callF tab consts 9 12 [.d (ltD l)] hp = .ok (.d (.str (Txt.join " " l))) hp := show_letter (k := 7) t.l
  have e4 : callF tab consts 9 12 [.d (ltD l')] hp = .ok (.d (.str (Txt.join " " l'))) hp := show_letter (k := 7) u.l
  have e5 : callF tab consts 9 15 [.d (whatD ps)] hp = .ok (.d (.str (whatT ps))) hp := show_what (k := 5) t.w.wf (okp_of t.w)
  have e6 : callF tab consts 9 15 [.d (whatD qs)] hp = .ok (.d (.str (whatT qs))) hp := show_what (k := 5) u.w.wf (okp_of u.w)
  refine ⟨.v (.d (.list [.bool c1, .bool c3])), rfl, ?_⟩
  unfold triD
  generalize plD a b = p1 at *
  generalize plD a' b' = p2 at *
  generalize ltD l = l1 at *
  generalize ltD l' = l2 at *
  generalize whatD ps = w1 at *
  generalize whatD qs = w2 at *
  simp [-bi_nm, bi_open, EV.forTurn, kBody, o11, o12, nth0, nth1, nth2, e1, e2, e3, e4, e5, e6, f1, f2, f3, g1, g2, g3, ne_b1, ne_b2, lim]
theorem pair_loop {x : D} (hx : IsTri x) : ∀ (ys : List D), (∀ y ∈ ys, IsTri y) → ∀ (s11 s12 : Slot), Slot.open (some s11) = true → Slot.open (some s12) = true →
    ∃ t11 t12, Slot.open (some t11) = true ∧ Slot.open (some t12) = true ∧ forLoop (EV.forTurn ⟨consts, callF tab consts 9⟩ (.nm 11) kBody) ys ⟨[.v v0, .v (.r 0), s2, s3, .lck x4, s5, s6, s7, s8, s9, .v (.d x), s11, s12], hp⟩ =
      .nx ⟨[.v v0, .v (.r 0), s2, s3, .lck x4, s5, s6, s7, s8, s9, .v (.d x), t11, t12], hp⟩
  | [], _, s11, s12, o11, o12 => ⟨s11, s12, o11, o12, by simp [forLoop]⟩
  | y :: ys, h, s11, s12, o11, o12 => by
    obtain ⟨t12, p12, e1⟩ := pair_turn (v0 := v0) (x4 := x4) (s2 := s2) (s3 := s3) (s5 := s5) (s6 := s6) (s7 := s7) (s8 := s8) (s9 := s9) (hp := hp) hx (h y List.mem_cons_self) o11 o12
    obtain ⟨u11, u12, q11, q12, e2⟩ := pair_loop hx ys (fun z hz => h z (List.mem_cons_of_mem _ hz)) (.v (.d y)) t12 rfl p12
    exact ⟨u11, u12, q11, q12, by rw [forLoop, e1]; exact e2⟩
def jBody : CSs := ss [
      (.for (.nm 11) (.slot 4) kBody)]
theorem one_loop {trs : List D} (ht : ∀ y ∈ trs, IsTri y) : ∀ (xs : List D), (∀ y ∈ xs, IsTri y) → ∀ (s10 s11 s12 : Slot), Slot.open (some s10) = true → Slot.open (some s11) = true → Slot.open (some s12) = true →
    ∃ t10 t11 t12, Slot.open (some t10) = true ∧ Slot.open (some t11) = true ∧ Slot.open (some t12) = true ∧ forLoop (EV.forTurn ⟨consts, callF tab consts 9⟩ (.nm 10) jBody) xs ⟨[.v v0, .v (.r 0), s2, s3, .lck (.list trs), s5, s6, s7, s8, s9, s10, s11, s12], hp⟩ =
      .nx ⟨[.v v0, .v (.r 0), s2, s3, .lck (.list trs), s5, s6, s7, s8, s9, t10, t11, t12], hp⟩
  | [], _, s10, s11, s12, o10, o11, o12 => ⟨s10, s11, s12, o10, o11, o12, by simp [forLoop]⟩
  | x :: xs, h, s10, s11, s12, o10, o11, o12 => by
    obtain ⟨t11, t12, p11, p12, e1⟩ := pair_loop (v0 := v0) (x4 := .list trs) (s2 := s2) (s3 := s3) (s5 := s5) (s6 := s6) (s7 := s7) (s8 := s8) (s9 := s9) (hp := hp) (h x List.mem_cons_self) trs ht s11 s12 o11 o12
    obtain ⟨u10, u11, u12, q10, q11, q12, e2⟩ := one_loop ht xs (fun z hz => h z (List.mem_cons_of_mem _ hz)) (.v (.d x)) t11 t12 rfl p11 p12
    refine ⟨u10, u11, u12, q10, q11, q12, ?_⟩
    rw [forLoop]
    have tn : EV.forTurn ⟨consts, callF tab consts 9⟩ (.nm 10) jBody x ⟨[.v v0, .v (.r 0), s2, s3, .lck (.list trs), s5, s6, s7, s8, s9, s10, s11, s12], hp⟩ = .nx ⟨[.v v0, .v (.r 0), s2, s3, .lck (.list trs), s5, s6, s7, s8, s9, .v (.d x), t11, t12], hp⟩ := by
      simp only [kBody, cs_cons, cs_nil, ss_cons, ss_nil] at e1
      simp [-bi_nm, bi_open, EV.forTurn, jBody, kBody, o10, e1]
    rw [tn]
    exact e2
end
def dBody : CSs := ss [
      (.set 6 (.tup (cs [(.op .idx (cs [(.peek 3), (.call 18 (cs [(.var 1), (.op .len (cs [(.peek 3)]))]))])), (.op .idx (cs [(.peek 3), (.call 18 (cs [(.var 1), (.op .len (cs [(.peek 3)]))]))]))]))),
      (.setT [(.nm 7), (.nm 8)] (.call 20 (cs [(.var 1), (.var 3)]))),
      (.set 9 (.op .repr (cs [(.lst (cs [(.var 6), (.var 7), (.var 8)]))]))),
      (.ite (.or (.not (.call 22 (cs [(.var 6), (.var 7), (.var 8)]))) (.op .ne (cs [(.op .repr (cs [(.lst (cs [(.var 6), (.var 7), (.var 8)]))])), (.peek 9)]))) (ss [
        (.ret (.kst (.bool false)))]) (ss [])),
      (.expr (.mut 4 .app (cs [(.tup (cs [(.var 6), (.var 7), (.var 8)]))])))]
section
variable {v0 : Vl} {s2 s10 s11 s12 : Slot}
theorem draw_turn {gs trs : List D} {y d : D} {n : Nat} {s5 s6 s7 s8 s9 : Slot} (hb : ∀ y ∈ gs, y ∈ base) (h0 : 0 < gs.length) (h1 : gs.length ≤ 20) (hl : trs.length ≤ 100) (o5 : Slot.open (some s5) = true) (o6 : Slot.open (some s6) = true) (o7 : Slot.open (some s7) = true) (o8 : Slot.open (some s8) = true) (o9 : Slot.open (some s9) = true)
    (ho : PotOk n d) (hn : n < 2 ^ 50) : ∃ (x d' : D) (t6 t7 t8 t9 : Slot), IsTri x ∧ Slot.open (some t6) = true ∧ Slot.open (some t7) = true ∧ Slot.open (some t8) = true ∧ Slot.open (some t9) = true ∧ PotOk (n + 8) d' ∧
      EV.forTurn ⟨consts, callF tab consts 9⟩ (.nm 5) dBody y ⟨[.v v0, .v (.r 0), s2, .v (.d (.list gs)), .own (.list trs), s5, s6, s7, s8, s9, s10, s11, s12], [d]⟩ =
      .nx ⟨[.v v0, .v (.r 0), s2, .v (.d (.list gs)), .own (.list (trs ++ [x])), .v (.d y), t6, t7, t8, t9, s10, s11, s12], [d']⟩ := by
  obtain ⟨lz, fl, hz⟩ : ∃ z : Int, fLen [.list gs] = some (.int z) ∧ z = (gs.length : Int) := ⟨_, rfl, rfl⟩
  obtain ⟨r1, d1, z1, q1, o1, e1⟩ := sc_call (k := 8) (m := lz) ho (by omega) (by omega) (by omega)
  have e1 : callF tab consts 9 18 [.r 0, .d (.int lz)] [d] = .ok (.d (.int r1)) [d1] := e1
  obtain ⟨a, ha, n1⟩ := base_at hb z1 (by omega)
  obtain ⟨r2, d2, z2, q2, o2, e2⟩ := sc_call (k := 8) (m := lz) o1 (by omega) (by omega) (by omega)
  have e2 : callF tab consts 9 18 [.r 0, .d (.int lz)] [d1] = .ok (.d (.int r2)) [d2] := e2
  obtain ⟨b, hb', n2⟩ := base_at hb z2 (by omega)
  obtain ⟨l, ps, d3, hl', gw, o3, e3⟩ := line_call (k := 7) hb h0 h1 o2 (by omega)
  have e3 : callF tab consts 9 20 [.r 0, .d (.list gs)] [d2] = .ok (.d (.list [ltD l, whatD ps])) [d3] := e3
  have t : Tri a b l ps := ⟨ha, hb', hl', gw⟩
  have e4 : callF tab consts 9 22 [.d (plD a b), .d (ltD l), .d (whatD ps)] [d3] = .ok (.d (.bool true)) [d3] := law_right (k := 4) t
  obtain ⟨z, rp⟩ := tri_repr t
  have nes : fNe [.str z, .str z] = some (.bool false) := by rw [d_nes]; simp
  have l1 : trs.length < 1000000 := by omega
  refine ⟨triD a b l ps, d3, .v (.d (plD a b)), .v (.d (ltD l)), .v (.d (whatD ps)), .v (.d (.str z)), ⟨a, b, l, ps, t, rfl⟩, rfl, rfl, rfl, rfl, o3, ?_⟩
  unfold triD
  generalize whatD ps = W at *
  generalize ltD l = L at *
  simp only [plD] at *
  simp [-d_lenl, -bi_nm, bi_open, EV.forTurn, dBody, o5, o6, o7, o8, o9, fl, e1, n1, e2, n2, e3, rp, e4, nes, lim, Ste.cell, cellOk, Mu.fn, mApp, l1]
theorem draw_loop {gs : List D} (hb : ∀ y ∈ gs, y ∈ base) (h0 : 0 < gs.length) (h1 : gs.length ≤ 20) : ∀ (ys trs : List D) (n : Nat) (d : D) (s5 s6 s7 s8 s9 : Slot), (∀ x ∈ trs, IsTri x) → trs.length + ys.length ≤ 100 → Slot.open (some s5) = true → Slot.open (some s6) = true → Slot.open (some s7) = true → Slot.open (some s8) = true → Slot.open (some s9) = true →
    PotOk n d → n + 8 * ys.length < 2 ^ 50 → ∃ (us : List D) (d' : D) (t5 t6 t7 t8 t9 : Slot), (∀ x ∈ us, IsTri x) ∧ us.length = trs.length + ys.length ∧ Slot.open (some t5) = true ∧ Slot.open (some t6) = true ∧ Slot.open (some t7) = true ∧ Slot.open (some t8) = true ∧ Slot.open (some t9) = true ∧ PotOk (n + 8 * ys.length) d' ∧
      forLoop (EV.forTurn ⟨consts, callF tab consts 9⟩ (.nm 5) dBody) ys ⟨[.v v0, .v (.r 0), s2, .v (.d (.list gs)), .own (.list trs), s5, s6, s7, s8, s9, s10, s11, s12], [d]⟩ =
      .nx ⟨[.v v0, .v (.r 0), s2, .v (.d (.list gs)), .own (.list us), t5, t6, t7, t8, t9, s10, s11, s12], [d']⟩
  | [], trs, n, d, s5, s6, s7, s8, s9, ht, _, o5, o6, o7, o8, o9, ho, _ => ⟨trs, d, s5, s6, s7, s8, s9, ht, rfl, o5, o6, o7, o8, o9, ho, by simp [forLoop]⟩
  | y :: ys, trs, n, d, s5, s6, s7, s8, s9, ht, hl, o5, o6, o7, o8, o9, ho, hn => by
    rw [List.length_cons] at hl hn
    obtain ⟨x, d1, t6, t7, t8, t9, hx, p6, p7, p8, p9, o1, e1⟩ := draw_turn (v0 := v0) (s2 := s2) (s10 := s10) (s11 := s11) (s12 := s12) (y := y) (trs := trs) hb h0 h1 (by omega) o5 o6 o7 o8 o9 ho (by omega)
    obtain ⟨us, d2, u5, u6, u7, u8, u9, hu, lu, q5, q6, q7, q8, q9, o2, e2⟩ := draw_loop hb h0 h1 ys (trs ++ [x]) (n + 8) d1 (.v (.d y)) t6 t7 t8 t9 (fun z hz => (List.mem_append.mp hz).elim (ht z) fun e => by rw [List.mem_singleton.mp e]; exact hx) (by rw [List.length_append, List.length_singleton]; omega) rfl p6 p7 p8 p9 o1 (by omega)
    refine ⟨us, d2, u5, u6, u7, u8, u9, hu, by rw [lu, List.length_append, List.length_singleton, List.length_cons]; omega, q5, q6, q7, q8, q9, by rw [List.length_cons, Nat.mul_add, Nat.add_comm (8 * ys.length), ← Nat.add_assoc]; exact o2, ?_⟩
    rw [forLoop, e1]
    exact e2
end
def oBody : CSs := ss [
    (.set 3 (.call 19 (cs [(.var 1), (.op .add (cs [(.kst (.int 2)), (.call 18 (cs [(.var 1), (.kst (.int 12))]))]))]))),
    (.setO 4 (.lst (cs []))),
    (.for (.nm 5) (.rng (cs [(.kst (.int 6))])) dBody),
    (.for (.nm 10) (.slot 4) jBody)]
theorem out_turn {n : Nat} {d y : D} {v0 : Vl} {s2 s3 s4 s5 s6 s7 s8 s9 s10 s11 s12 : Slot} (o2 : Slot.open (some s2) = true) (o3 : Slot.open (some s3) = true) (o4 : Slot.open (some s4) = true) (o5 : Slot.open (some s5) = true) (o6 : Slot.open (some s6) = true) (o7 : Slot.open (some s7) = true) (o8 : Slot.open (some s8) = true) (o9 : Slot.open (some s9) = true)
    (o10 : Slot.open (some s10) = true) (o11 : Slot.open (some s11) = true) (o12 : Slot.open (some s12) = true) (ho : PotOk n d) (hn : n < 2 ^ 48) :
    ∃ (d' : D) (t3 t4 t5 t6 t7 t8 t9 t10 t11 t12 : Slot), (Slot.open (some t3) = true ∧ Slot.open (some t4) = true ∧ Slot.open (some t5) = true ∧ Slot.open (some t6) = true ∧ Slot.open (some t7) = true ∧ Slot.open (some t8) = true ∧ Slot.open (some t9) = true ∧ Slot.open (some t10) = true ∧ Slot.open (some t11) = true ∧ Slot.open (some t12) = true) ∧ PotOk (n + 100) d' ∧
      EV.forTurn ⟨consts, callF tab consts 9⟩ (.nm 2) oBody y ⟨[.v v0, .v (.r 0), s2, s3, s4, s5, s6, s7, s8, s9, s10, s11, s12], [d]⟩ =
      .nx ⟨[.v v0, .v (.r 0), .v (.d y), t3, t4, t5, t6, t7, t8, t9, t10, t11, t12], [d']⟩ := by
  obtain ⟨r, d1, z1, q1, p1, e1⟩ := sc_call (k := 8) (m := 12) ho (by omega) (by decide) (by decide)
  have e1 : callF tab consts 9 18 [.r 0, .d (.int 12)] [d] = .ok (.d (.int r)) [d1] := e1
  obtain ⟨gs, d2, gl, _, _, gb, p2, e2⟩ := names_call (k := 7) (consts := consts) (m := 2 + r) t19 t18 (by omega) (by omega) (by omega) p1
  have e2 : callF tab consts 9 19 [.r 0, .d (.int (2 + r))] [d1] = .ok (.d (.list gs)) [d2] := e2
  obtain ⟨us, d3, t5, t6, t7, t8, t9, hu, lu, r5, r6, r7, r8, r9, p3, e3⟩ := draw_loop (v0 := v0) (s2 := .v (.d y)) (s10 := s10) (s11 := s11) (s12 := s12) gb (by omega) (by omega) (iran 0 6) [] (n + 1 + 20) d2 s5 s6 s7 s8 s9 (fun x hx => nomatch hx) (by rw [iran_len]; decide) o5 o6 o7 o8 o9 p2 (by rw [iran_len]; omega)
  rw [iran_len] at p3
  obtain ⟨t10, t11, t12, r10, r11, r12, e4⟩ := one_loop (v0 := v0) (s2 := .v (.d y)) (s3 := .v (.d (.list gs))) (s5 := t5) (s6 := t6) (s7 := t7) (s8 := t8) (s9 := t9) (hp := [d3]) hu us hu s10 s11 s12 o10 o11 o12
  have rg : rngItems [.int 6] = some (iran 0 6) := by rw [rng_lt (by decide) (by decide)]; rfl
  refine ⟨d3, .v (.d (.list gs)), .own (.list us), t5, t6, t7, t8, t9, t10, t11, t12, ⟨rfl, rfl, r5, r6, r7, r8, r9, r10, r11, r12⟩, p3.mono (by omega), ?_⟩
  simp only [dBody, jBody, kBody, cs_cons, cs_nil, ss_cons, ss_nil] at e3 e4
  simp [-bi_nm, bi_open, EV.forTurn, oBody, dBody, jBody, kBody, o2, o3, o4, e1, e2, rg, e3, e4, lim, unlock]
theorem out_loop {v0 : Vl} : ∀ (ys : List D) (n : Nat) (d : D) (s2 s3 s4 s5 s6 s7 s8 s9 s10 s11 s12 : Slot), Slot.open (some s2) = true → Slot.open (some s3) = true → Slot.open (some s4) = true → Slot.open (some s5) = true → Slot.open (some s6) = true → Slot.open (some s7) = true → Slot.open (some s8) = true → Slot.open (some s9) = true →
    Slot.open (some s10) = true → Slot.open (some s11) = true → Slot.open (some s12) = true → PotOk n d → n + 100 * ys.length < 2 ^ 48 →
    ∃ s', forLoop (EV.forTurn ⟨consts, callF tab consts 9⟩ (.nm 2) oBody) ys ⟨[.v v0, .v (.r 0), s2, s3, s4, s5, s6, s7, s8, s9, s10, s11, s12], [d]⟩ = .nx s'
  | [], n, d, s2, s3, s4, s5, s6, s7, s8, s9, s10, s11, s12, _, _, _, _, _, _, _, _, _, _, _, _, _ => ⟨_, rfl⟩
  | y :: ys, n, d, s2, s3, s4, s5, s6, s7, s8, s9, s10, s11, s12, o2, o3, o4, o5, o6, o7, o8, o9, o10, o11, o12, ho, hn => by
    rw [List.length_cons] at hn
    obtain ⟨d1, t3, t4, t5, t6, t7, t8, t9, t10, t11, t12, ⟨p3, p4, p5, p6, p7, p8, p9, p10, p11, p12⟩, o1, e1⟩ := out_turn (y := y) (v0 := v0) o2 o3 o4 o5 o6 o7 o8 o9 o10 o11 o12 ho (by omega)
    obtain ⟨s', e2⟩ := out_loop (v0 := v0) ys (n + 100) d1 (.v (.d y)) t3 t4 t5 t6 t7 t8 t9 t10 t11 t12 rfl p3 p4 p5 p6 p7 p8 p9 p10 p11 p12 o1 (by omega)
    exact ⟨s', by rw [forLoop, e1]; exact e2⟩
theorem law_true (ns : List Int) (hl : ns.length ≤ 63) : ∃ hp', callF tab consts 10 23 [.d (.list (ns.map .int))] [] = .ok (.d (.bool true)) hp' := by
  obtain ⟨d0, o0, e0⟩ := potA_call (k := 8) (consts := consts) t17 ns
  have e0 : callF tab consts 9 17 [.d (.list (ns.map .int))] [] = .ok (.r 0) [d0] := e0
  obtain ⟨s', e1⟩ := out_loop (v0 := .d (.list (ns.map .int))) (iran 0 6) 0 d0 .non .non .non .non .non .non .non .non .non .non .non rfl rfl rfl rfl rfl rfl rfl rfl rfl rfl rfl o0 (by rw [iran_len]; decide)
  have rg : rngItems [.int 6] = some (iran 0 6) := by rw [rng_lt (by decide) (by decide)]; rfl
  refine ⟨s'.hp, ?_⟩
  simp only [oBody, dBody, jBody, kBody, cs_cons, cs_nil, ss_cons, ss_nil] at e1
  rw [callF, t23]
  simp [noPk, b23, e0, rg, e1]
end K55
end
set_option Elab.async false
set_option linter.all false
set_option maxRecDepth 100000
open PySem PySem.W PyProof.Rows
set_option maxHeartbeats 0 in
theorem PySem.Challenge.cw_heardahead_k55_written_and_read_holds : PySem.Challenge.rw_heardahead_k55_written_and_read.Holds := by
  w_on; o_law; k_head; (case hw => w_witness2)
  k_fill
  refine EV.walk_ofG (l := PySem.Challenge.rw_heardahead_k55_written_and_read) (n := 63) (k := 10) (x := "_law_script") (CX := fun w => L2.CX PySem.Challenge.rw_heardahead_k55_written_and_read.prog w) (sp := fun w => EV.spX _ K55.exnames (EV.callF K55.tab K55.consts 10 23)) rfl (by decide) rfl ⟨rfl, by decide, by decide⟩ (fun w h Y => PySem.W.kIn_of Y) ?F (fun w H a ns hl hS => EV.law_pr K55.law_true H a ns hl hS) (fun _ _ _ _ _ h => EV.no_exc h)
  case F =>
    intro w mg fa h KX G hmg
    refine' K55.all_mk KX G hmg ?h_a0 ?h_l0 ?h_c0 ?h_k0 ?h_a1 ?h_l1 ?h_c1 ?h_k1 ?h_a2 ?h_l2 ?h_c2 ?h_k2 ?h_a3 ?h_l3 ?h_c3 ?h_k3 ?h_a4 ?h_l4 ?h_c4 ?h_k4 ?h_a5 ?h_l5 ?h_c5 ?h_k5 ?h_a6 ?h_l6 ?h_c6 ?h_k6 ?h_a7 ?h_l7 ?h_c7 ?h_k7 ?h_a8 ?h_l8 ?h_c8 ?h_k8 ?h_a9 ?h_l9 ?h_c9 ?h_k9 ?h_a10 ?h_l10 ?h_c10 ?h_k10 ?h_a11 ?h_l11 ?h_c11 ?h_k11 ?h_a12 ?h_l12 ?h_c12 ?h_k12 ?h_a13 ?h_l13 ?h_c13 ?h_k13 ?h_a14 ?h_l14 ?h_c14 ?h_k14 ?h_a15 ?h_l15 ?h_c15 ?h_k15 ?h_a16 ?h_l16 ?h_c16 ?h_k16 ?h_a17 ?h_l17 ?h_c17 ?h_k17 ?h_a18 ?h_l18 ?h_c18 ?h_k18 ?h_a19 ?h_l19 ?h_c19 ?h_k19 ?h_a20 ?h_l20 ?h_c20 ?h_k20 ?h_a21 ?h_l21 ?h_c21 ?h_k21 ?h_a22 ?h_l22 ?h_c22 ?h_k22 ?h_a23 ?h_l23 ?h_c23 ?h_k23 ?h_g0 ?h_g1 ?h_g2 ?h_g3 ?h_g4 ?h_g5 ?h_g6 ?h_g7 ?h_gl7 ?h_ge7 ?h_gz7 ?h_g8 ?h_gl8 ?h_ge8 ?h_gz8 ?h_g9 ?h_gl9 ?h_ge9 ?h_gz9 ?h_g10 ?h_gl10 ?h_ge10 ?h_gz10 ?h_g11 ?h_g12 ?h_da0 ?h_dl0 ?h_dk0 ?h_de0 ?h_dm0 ?h_z0 ?h_z1 ?h_z2 ?h_z3 ?h_z4 ?h_z5 ?h_z6 ?h_z7 ?h_z8 ?h_z9 ?h_z10 ?h_z11 ?h_z12 ?h_ea0 ?h_ex0 ?h_ek0 ?h_es0 ?h_et0 ?h_ea1 ?h_ex1 ?h_ek1 ?h_es1 ?h_et1
    (case h_a0 => k_is); (case h_l0 => k_is); (case h_c0 => k_is); (case h_k0 => k_is); (case h_a1 => k_is); (case h_l1 => k_is); (case h_c1 => k_is); (case h_k1 => k_is); (case h_a2 => k_is); (case h_l2 => k_is); (case h_c2 => k_is); (case h_k2 => k_is); (case h_a3 => k_is); (case h_l3 => k_is); (case h_c3 => k_is); (case h_k3 => k_is); (case h_a4 => k_is); (case h_l4 => k_is); (case h_c4 => k_is); (case h_k4 => k_is); (case h_a5 => k_is); (case h_l5 => k_is); (case h_c5 => k_is); (case h_k5 => k_is); (case h_a6 => k_is); (case h_l6 => k_is); (case h_c6 => k_is); (case h_k6 => k_is); (case h_a7 => k_is); (case h_l7 => k_is); (case h_c7 => k_is); (case h_k7 => k_is); (case h_a8 => k_is); (case h_l8 => k_is); (case h_c8 => k_is); (case h_k8 => k_is); (case h_a9 => k_is); (case h_l9 => k_is); (case h_c9 => k_is); (case h_k9 => k_is); (case h_a10 => k_is); (case h_l10 => k_is); (case h_c10 => k_is); (case h_k10 => k_is); (case h_a11 => k_is); (case h_l11 => k_is); (case h_c11 => k_is); (case h_k11 => k_is); (case h_a12 => k_is); (case h_l12 => k_is); (case h_c12 => k_is); (case h_k12 => k_is); (case h_a13 => k_is); (case h_l13 => k_is); (case h_c13 => k_is); (case h_k13 => k_is); (case h_a14 => k_is); (case h_l14 => k_is); (case h_c14 => k_is); (case h_k14 => k_is); (case h_a15 => k_is); (case h_l15 => k_is); (case h_c15 => k_is); (case h_k15 => k_is); (case h_a16 => k_is); (case h_l16 => k_is); (case h_c16 => k_is); (case h_k16 => k_is); (case h_a17 => k_is); (case h_l17 => k_is); (case h_c17 => k_is); (case h_k17 => k_is); (case h_a18 => k_is); (case h_l18 => k_is); (case h_c18 => k_is); (case h_k18 => k_is); (case h_a19 => k_is); (case h_l19 => k_is); (case h_c19 => k_is); (case h_k19 => k_is); (case h_a20 => k_is); (case h_l20 => k_is); (case h_c20 => k_is); (case h_k20 => k_is); (case h_a21 => k_is); (case h_l21 => k_is); (case h_c21 => k_is); (case h_k21 => k_is); (case h_a22 => k_is); (case h_l22 => k_is); (case h_c22 => k_is); (case h_k22 => k_is); (case h_a23 => k_is); (case h_l23 => k_is); (case h_c23 => k_is); (case h_k23 => k_is); (case h_g0 => k_is); (case h_g1 => k_is); (case h_g2 => k_is); (case h_g3 => k_is); (case h_g4 => k_is); (case h_g5 => k_is); (case h_g6 => k_is); (case h_g7 => k_is); (case h_gl7 => k_is); (case h_ge7 => repeat (first | exact True.intro | refine And.intro ⟨_, rfl⟩ ?_)); (case h_gz7 => exact Nat.le_of_ble_eq_true rfl); (case h_g8 => k_is); (case h_gl8 => k_is); (case h_ge8 => repeat (first | exact True.intro | refine And.intro ⟨_, rfl⟩ ?_)); (case h_gz8 => exact Nat.le_of_ble_eq_true rfl); (case h_g9 => k_is); (case h_gl9 => k_is); (case h_ge9 => repeat (first | exact True.intro | refine And.intro ⟨_, rfl⟩ ?_)); (case h_gz9 => exact Nat.le_of_ble_eq_true rfl); (case h_g10 => k_is); (case h_gl10 => k_is); (case h_ge10 => repeat (first | exact True.intro | refine And.intro ⟨_, rfl⟩ ?_)); (case h_gz10 => exact Nat.le_of_ble_eq_true rfl); (case h_g11 => k_is); (case h_g12 => k_is); (case h_da0 => k_is); (case h_dl0 => k_is); (case h_dk0 => k_keys); (case h_de0 => k_keys); (case h_dm0 => decide); (case h_z0 => k_is); (case h_z1 => k_is); (case h_z2 => k_is); (case h_z3 => k_is); (case h_z4 => k_is); (case h_z5 => k_is); (case h_z6 => k_is); (case h_z7 => k_is); (case h_z8 => k_is); (case h_z9 => k_is); (case h_z10 => k_is); (case h_z11 => k_is); (case h_z12 => k_is); (case h_ea0 => k_is); (case h_ex0 => k_exc); (case h_ek0 => k_is); (case h_es0 => k_is); (case h_et0 => k_is); (case h_ea1 => k_is); (case h_ex1 => k_exc); (case h_ek1 => k_is); (case h_es1 => k_is); (case h_et1 => k_is)
