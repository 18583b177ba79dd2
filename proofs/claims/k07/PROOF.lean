import PyProof.Rows.All
import Wide.All
import OpenK.AllK
import Wide.FinOn
import HandS.ForMost
import HandS.ForExc
import HandS.ExcIs
import HandS.ExcOwn
import HandS.ExcValue
import HandS.IsInst
import HandS.More
import HandS.Style
import HandS.SortInts
import HandS.SortRule
import HandS.Conv
import HandS.Flow
import HandS.CallSlots
import HandS.Deep
import HandS.SetFor
import HandS.Strs
import PySem.Challenge.RW_arcpins_k07_points_that_hit
set_option Elab.async false
set_option linter.all false
set_option maxRecDepth 100000
set_option maxHeartbeats 4000000
namespace Ac
open PySem PySem.Spec PyProof.Rows L2
/-! ### a caught error, kept as a thing -/
/-- an error of a class, caught or not -/
def ErrO (cls : Value) (a : Addr) : HO := .ext fun h => ∃ (oe : Obj) (vs : Array Value), h.get? a = some oe ∧ Zc cls none oe ∧ oe.data = .fields vs
theorem errO_ok {P : Program} {w : World} {H : Hp} {h : Heap} {a : Addr} {cls : Value} {oe : Obj} {vs : Array Value} (e : h.get? a = some oe) (z : Zc cls none oe) (d : oe.data = .fields vs) : ObjOk P w H h a (ErrO cls a) :=
  ⟨⟨oe, vs, e, z, d⟩, ⟨oe, e⟩, fun _ _ ⟨o, v, q, r⟩ k => ⟨o, v, k o q, r⟩⟩
section
variable {X : Cx} {pins : List (Addr × Obj)} {σ : L2.St} {H : Hp} {s : Shared}
/-- the error is kept from here on: the state as a suite reads it -/
theorem Inv.keepErr {a : Addr} {oe : Obj} {vs : Array Value} {cls : Value} (I : Inv X pins σ H s) (n0 : X.s_0.heap.get? a = none) (ha : s.heap.get? a = some oe) (hz : Zc cls none oe) (hd : oe.data = .fields vs) (na : H a = none)
    (nL : a ≠ X.env.locals) (nC : ∀ x c, X.env.cells.lookup x = some c → c ≠ a) (nP : ∀ p ∈ X.pn ++ pins, p.1 ≠ a) : Inv (X.suite a (X.pn ++ pins)) [] σ (upd H a (ErrO cls a)) s where
  ok := I.ok.suite a _
  os := I.os
  bare := I.bare
  base := {
    keep := I.base.keep
    slot := I.base.slot
    free := fun b o e n hx => by
      have nb : b ≠ a := fun z => by rw [z, n0] at e; cases e
      rw [upd_ne nb]
      exact I.base.free b o e n hx
    there := I.base.there
    tups := fun b xs e => by
      have q := I.base.tups b xs e
      rw [upd_ne (ne_of_none q na)]
      exact q
    frzs := fun b o u e => by
      have q := I.base.frzs b o u e
      rw [upd_ne (ne_of_none q na)]
      exact q
    tbls := fun b ps e => by
      obtain ⟨m, q⟩ := I.base.tbls b ps e
      exact ⟨m, by rw [upd_ne (ne_of_none q na)]; exact q⟩ }
  loc := I.loc
  cell := I.cell
  free := by rw [upd_ne (Ne.symm nL)]; exact I.free
  freeC := fun x c e => by rw [upd_ne (nC x c e)]; exact I.freeC x c e
  pin := fun p hp => by
    have hp' : p ∈ X.pn ++ pins := by rw [List.append_nil] at hp; exact hp
    obtain ⟨h1, h2, h3⟩ := I.pin p hp'
    exact ⟨h1, by rw [upd_ne (nP p hp')]; exact h2, h3⟩
  hok := I.hok.laidN (fun _ _ q => q) na (errO_ok ha hz hd)
  len := I.len
theorem Inv.outSuite {a : Addr} {pn' : List (Addr × Obj)} (I : Inv (X.suite a (X.pn ++ pins)) pn' σ H s) (ok : X.Ok) : Inv X pins σ H s where
  ok := ok
  os := I.os
  bare := I.bare
  base := I.base
  loc := I.loc
  cell := I.cell
  free := I.free
  freeC := I.freeC
  pin := fun p hp => I.pin p (List.mem_append.mpr (.inl hp))
  hok := I.hok
  len := I.len
end
/-- what 'except c as n' (n's slot: i) wishes where the error is kept -/
def wKeep (K : PySem.W.Frag) (c : Value) (i : Nat) (ts : Addr → Value → TS) (Wo : WX) (D : Ends) : WX := fun cls d σ H =>
  d = none ∧ ∃ b, PySem.W.exmOne K cls c = some b ∧ (b = false → Wo cls d σ H) ∧
    (b = true → i < σ.length → ∀ a, H a = none → ts a cls { nx := fun σ' => D.nx (σ'.set i none), rt := D.rt, bk := fun σ' => D.bk (σ'.set i none), ct := fun σ' => D.ct (σ'.set i none) } (σ.set i (some (.ref a))) (upd H a (ErrO cls a)))
section
variable {X : Cx} {x n : Str} {c : Value} {i : Nat} {bd su : List Stmt} {s0 : Stmt} {np p0 p1 : Pos} {tb : WX → TS} {ts : Addr → Value → TS} {Wo : WX}
theorem ps_tryK (hs : X.stack = X.env :: X.outer) (hf : X.env.frame = some X.env.locals) (hx : X.ex = []) (hN : X.N.Nodup) (hi : X.N[i]? = some n) (hl : X.env.kindOf n = some .local) (hc : Names X x c) (tk : Takes X Wo)
    (hb : ∀ (W : WX) (pn : List (Addr × Obj)) (xe : Value → Shared → Prop), Takes (X.tr pn xe) W → PassesOwn (model X.prog X.w) X.A X.env xe → PSs (X.tr pn xe) bd (tb W))
    (hsu : ∀ (a : Addr) (cls : Value) (pn : List (Addr × Obj)), PSs (X.suite a pn) (s0 :: su) (ts a cls)) :
    PS X (.Try bd [.ExceptHandler (some (.Name x np)) (some n) (s0 :: su) p1] [] [] p0) (fun D σ H => tb (wKeep X.K c i ts Wo D) D σ H) := ⟨fun pins s σ H D I q => by
  have xok := I.ok
  have frm : X.A.frames = some (X.env :: X.outer) := by rw [xok.frames, hs]
  have back : ∀ {pn' : List (Addr × Obj)} {xe : Value → Shared → Prop} {f : Flow} {s1 : Shared}, SP (X.tr (X.pn ++ pins) xe) pn' D f s1 → SP X pins D f s1 := fun {pn' xe f s1} z => by
    cases f with
    | next => obtain ⟨σ1, H1, J1, q1⟩ := z; exact ⟨σ1, H1, J1.ofTry xok, q1⟩
    | brk => obtain ⟨σ1, H1, J1, q1⟩ := z; exact ⟨σ1, H1, J1.ofTry xok, q1⟩
    | cont => obtain ⟨σ1, H1, J1, q1⟩ := z; exact ⟨σ1, H1, J1.ofTry xok, q1⟩
    | ret u => obtain ⟨v1, σ1, H1, J1, r1, q1⟩ := z; exact ⟨v1, σ1, H1, J1.ofTry xok, r1, q1⟩
  refine wpAny_Try_except (wpAny_mono ((hb (wKeep X.K c i ts Wo D) (X.pn ++ pins) (fun u s1 => wpAny (model X.prog X.w) X.A (noteFrame u X.env) (fun _ s2 => wpAny (model X.prog X.w) X.A (setFlight u none)
    (fun _ s3 => wpAny (model X.prog X.w) X.A (handleBy u X.env [.ExceptHandler (some (.Name x np)) (some n) (s0 :: su) p1]) (SP X pins D) X.xe s3) X.xe s2) X.xe s1) (fun u sE air => ?_) PassesOwn.looking).run [] s σ H D (I.toTry _) q) (fun f s1 z => ?_) (fun _ _ z => z))
  · obtain ⟨a, B, sI, pn1, σ1, H1, cls, d, rfl, J0, nb, up, sky, na, os, ag, rfl, b, hm, hno, hyes⟩ := air
    have J : Inv X pins σ1 H1 sI := J0.ofTry xok
    rw [show X.stack = X.env :: X.outer from hs] at nb
    have sky1 : Sky B (X.env :: X.outer) a (Zc cls none) X.env.locals sE.heap := by rw [← hs]; exact sky
    show wpAny (model X.prog X.w) X.A (noteFrame (.ref a) X.env) _ _ _
    refine Sky.land Zc.steady frm hf sky1 fun h3 fl up3 => ?_
    have nbx : ∀ b o, sI.heap.get? b = some o → b ∉ frs X.stack → B.get? b = some o := by rw [hs]; exact nb
    have J3 : Inv X pins σ1 H1 { sE with heap := h3 } := J.landed nbx fl.1 (up.trans up3) os ag
    obtain ⟨oe3, vs3, he3, hz3, hd3⟩ := fl.there
    have nfr : a ∉ frs (X.env :: X.outer) := fun hin => by
      obtain ⟨_, o', e', hnf⟩ := fl.2.2.1.mem hin
      rw [he3] at e'
      cases e'
      exact hnf _ hd3
    have nI : sI.heap.get? a = none := by
      cases e : sI.heap.get? a with
      | none => rfl
      | some o =>
        have z := nb a o e nfr
        rw [fl.2.1] at z
        cases z
    have n0 : X.s_0.heap.get? a = none := by
      cases e : X.s_0.heap.get? a with
      | none => rfl
      | some o =>
        obtain ⟨o', z⟩ := J.base.there a o e (by rw [hx]; exact fun z => nomatch z)
        rw [nI] at z
        cases z
    have nL : a ≠ X.env.locals := fun z => nfr (List.mem_filterMap.mpr ⟨X.env, List.mem_cons_self, by rw [hf, z]⟩)
    have nC : ∀ y e, X.env.cells.lookup y = some e → e ≠ a := fun y e h z => by
      obtain ⟨v, o, ho, _⟩ := J.cell y e h
      rw [z, nI] at ho
      cases ho
    have nP : ∀ p ∈ X.pn ++ pins, p.1 ≠ a := fun p hp z => by
      have h1 := (J.pin p hp).1
      rw [z, nI] at h1
      cases h1
    have S3 := Ac.Inv.keepErr J3 n0 he3 hz3 hd3 na nL nC nP
    refine wpAny_handleBy_cons (codeAny_handlers_test ?_) (by intro z; cases z)
    have lt : PySem.W.Looks (model X.prog X.w) h3 (typeOf (.ref a)) cls := fun A Q E s k z => wpAny_typeOf_ref (k _ _ he3) (by rw [hz3.1]; exact z)
    have lm := PySem.W.exm_one (M := model X.prog X.w) J3.kIn lt hm
    have tst : ∀ {Q : Value → Shared → Prop} {E : Value → Shared → Prop}, Q c { sE with heap := h3 } → wpAny (model X.prog X.w) (X.A.mark (some (.ref a))) (eval (.Name x np) X.env) Q E { sE with heap := h3 } := fun {Q E} z => by
      obtain ⟨hg, hdb, e | ⟨e1, e2, e3⟩⟩ := hc
      · exact ld_glob (X := X.suite a (X.pn ++ pins)) S3 hg e z hdb
      · exact ld_blt (X := X.suite a (X.pn ++ pins)) S3 hg e1 e2 z e3 hdb
    refine tst (lm.here ?_)
    cases b with
    | true =>
      refine codeAny_handlers_suite_as (HandSPX.lands_againZ fl fun h4 fl4 up4 => ?_)
      have J4 : Inv X pins σ1 H1 { sE with heap := h4 } := J.landed nbx fl4.1 ((up.trans up3).trans up4) os ag
      obtain ⟨oe4, vs4, he4, hz4, hd4⟩ := fl4.there
      have S4 := Ac.Inv.keepErr J4 n0 he4 hz4 hd4 na nL nC nP
      refine store_ok (X := X.suite a (X.pn ++ pins)) (v := .ref a) S4 hN hi (.inl hl) rfl (fun s5 S5 => ?_) (.inr hl)
      refine wpAny_mono ((hsu a cls (X.pn ++ pins)).run [] s5 _ _ _ S5 (hyes rfl (by rw [J.len]; exact (List.getElem?_eq_some_iff.mp hi).1) a na)) (fun f s6 z => ?_) (fun _ _ z => z.elim)
      have fin : ∀ {σ6 : L2.St} {H6 : Hp} {Q : Shared → Prop}, Inv (X.suite a (X.pn ++ pins)) [] σ6 H6 s6 → (∀ s7, Inv X pins (σ6.set i none) H6 s7 → Q s7) →
          wpAny (model X.prog X.w) X.A (do bindName X.env n .none; unbindBehindTheSuite X.env n p1) (fun _ s7 => Q s7) X.xe s6 := fun {σ6 H6 Q} S6 hq => gone_ok (Ac.Inv.outSuite S6 xok) hN hi hl hq
      cases f with
      | next => obtain ⟨σ6, H6, S6, q6⟩ := z; exact fin S6 fun s7 J7 => ⟨_, _, J7, q6⟩
      | brk => obtain ⟨σ6, H6, S6, q6⟩ := z; exact fin S6 fun s7 J7 => ⟨_, _, J7, q6⟩
      | cont => obtain ⟨σ6, H6, S6, q6⟩ := z; exact fin S6 fun s7 J7 => ⟨_, _, J7, q6⟩
      | ret u => obtain ⟨v6, σ6, H6, S6, r6, q6⟩ := z; exact fin S6 fun s7 J7 => ⟨_, _, _, J7, r6, q6⟩
    | false =>
      show wpAny _ X.A (handleBy (.ref a) X.env []) _ _ _
      refine wpAny_handleBy_nil ?_
      obtain ⟨_, _, _, oeF, vsF, T, oT, tsF, heF, hzF, hdF, h1F, hrF⟩ := id fl
      unfold PySem.passOn
      refine wpAny_bind (wpAny_field heF hdF h1F ?_)
      rw [if_neg (show ¬ ((Value.ref T == Value.none) = true) from by simp)]
      have out : wpAny (model X.prog X.w) X.A (setFlight (.ref a) X.env.frame) (fun _ s4 => wpAny (model X.prog X.w) X.A (throw (.ref a) : Sem Flow) (SP X pins D) X.xe s4) X.xe { sE with heap := h3 } := by
        rw [hf]
        exact HandSPX.setFlight_upZ fl fun h4 hh4 up4 => wpAny_throw (tk _ _ ⟨a, B, sI, pins, σ1, H1, cls, none, rfl, J, nbx, (up.trans up3).trans up4, .inr (.inr (by rw [hs]; exact hh4)), na, os, ag, hno rfl⟩)
      first
        | exact wpAny_bind (wpAny_pure (wpAny_bind out))
        | exact wpAny_bind out
  · cases f with
    | next => exact wpAny_execs_nil (back z)
    | brk => exact back z
    | cont => exact back z
    | ret u => exact back z⟩
end
/-! ### isinstance of such a thing -/
/-- a value's type: data, or an error that is kept -/
def TyE (K : PySem.W.Frag) (H : Hp) (x : V) (t : Value) : Prop := TyX K H x t ∨ ∃ a C, x = .ref a ∧ t = .ref C ∧ H a = some (ErrO (.ref C) a) ∧ ExcC K C
section
variable {X : Cx} {pins : List (Addr × Obj)} {σ : L2.St} {H : Hp} {s : Shared}
theorem kit_ofE {x : V} {u t : Value} (I : Inv X pins σ H s) (rx : RelV x u) (ty : TyE X.K H x t) : ∃ P : Heap → Prop, PySem.W.KitX X.K u t P ∧ P s.heap ∧ u ≠ .builtin "__main__.__loader__#opaque" := by
  rcases ty with ty | ⟨a, C, rfl, rfl, e, hC⟩
  · exact kit_of I rx ty
  · cases (show u = Value.ref a from rx)
    obtain ⟨⟨oe, vs, h1, ⟨h2, h3⟩, h4⟩, _⟩ := (show ObjOk X.prog X.w H s.heap a (ErrO (.ref C) a) from I.hok a _ e)
    refine ⟨_, PySem.W.handS_kitx_exc (x := a) (ox := oe) hC.hg hC.hk hC.hs hC.hd hC.ha hC.hn hC.ht hC.hm, ?_, fun z => nomatch z⟩
    obtain ⟨oc, od, oda, osl⟩ := oe
    dsimp only at h2 h3 h4
    subst h2 h3 h4
    exact ⟨h1, rfl, rfl, trivial⟩
end
def rIsX (K : PySem.W.Frag) : List V → Hp → VK → Prop := fun xs H Q => ∃ (x c : V) (t u : Value) (b : Bool), xs = [x, c] ∧ ClsV c u ∧ TyE K H x t ∧ PySem.W.kitOne K t u = some b ∧ Q (.bl b) H
def rIsXT (K : PySem.W.Frag) : List V → Hp → VK → Prop := fun xs H Q => ∃ (x : V) (tp : Addr) (cs : List V) (t : Value) (us : List Value) (b : Bool), xs = [x, .ref tp] ∧ H tp = some (.tup cs) ∧ Paired ClsV cs us ∧ TyE K H x t ∧ PySem.W.kitAny K t us = some b ∧ Q (.bl b) H
section
variable {X : Cx}
theorem call_isX : CallR X (.builtin "isinstance") (rIsX X.K) := fun pins s σ H xs us Q I r h => by
  obtain ⟨x, c, t, u, b, rfl, k, ty, e, q⟩ := h
  obtain ⟨u1, u2, rfl, r1, r2⟩ := vals2 r
  have e2 := k.eq r2
  subst e2
  obtain ⟨P, Z, p, hx⟩ := kit_ofE I r1 ty
  exact PySem.W.kia_one Z I.kIn p e hx fun tk => ⟨.bl b, H, I.tok tk, rfl, q⟩
theorem call_isXT : CallR X (.builtin "isinstance") (rIsXT X.K) := fun pins s σ H xs us Q I r h => by
  obtain ⟨x, tp, cs, t, ws, b, rfl, hT, k, ty, e, q⟩ := h
  obtain ⟨u1, u2, rfl, r1, r2⟩ := vals2 r
  cases (show u2 = Value.ref tp from r2)
  obtain ⟨P, Z, p, hx⟩ := kit_ofE I r1 ty
  obtain ⟨_, its, rv, o, h1, h2, m, h3⟩ := (show ObjOk X.prog X.w H s.heap tp (.tup cs) from I.hok tp _ hT)
  have e3 := ClsV.all k rv
  subst e3
  obtain ⟨oc, od, dt, sl⟩ := o
  dsimp only at h2 h3
  subst h2 h3
  exact PySem.W.kia_tup Z I.kIn p h1 e hx fun tk => ⟨.bl b, H, I.tok tk, rfl, q⟩
end
end Ac
namespace Ac
open PySem PySem.Spec PyProof.Rows L2

abbrev D := PyData
/-- what a name holds: data that stays, a list of one's own (may grow), a list just made, a handle -/
inductive Val where
  | dat (d : D) | own (xs : List D) | new (xs : List D) | hdl (k : Nat)
abbrev Ctx := List (Option Val)
def look : Ctx → Nat → Option Val
  | [], _ => none
  | v :: _, 0 => v
  | _ :: r, i + 1 => look r i
def put : Ctx → Nat → Option Val → Ctx
  | [], _, _ => []
  | _ :: r, 0, v => v :: r
  | w :: r, i + 1, v => w :: put r i v
def scal : D → Bool
  | .none | .bool _ | .int _ | .str _ => true
  | _ => false
/-- what a def of plain data gives -/
structure Summ where
  run : List D → (Val → Prop) → (Nat → Prop) → Prop
  mono : ∀ {ds : List D} {Q Q' : Val → Prop} {Y Y' : Nat → Prop}, (∀ v, Q v → Q' v) → (∀ n, Y n → Y' n) → run ds Q Y → run ds Q' Y'
/-- what a def with a state gives -/
structure ESumm (S : Type) where
  run : List Val → S → (Val → S → Prop) → (Nat → S → Prop) → Prop
  mono : ∀ {vs : List Val} {s : S} {Q Q' : Val → S → Prop} {Y Y' : Nat → S → Prop}, (∀ v s', Q v s' → Q' v s') → (∀ n s', Y n s' → Y' n s') → run vs s Q Y → run vs s Q' Y'
inductive BI where
  | len | min2 | max2 | minL | maxL | sum | sorted | list | tuple | abs | int | str | isint | isbool | islist | istuple | isstr | sortP | dictP | repr
inductive MT where
  | index
inductive Tg where
  | nm (i : Nat) | tp (is : List Nat)
mutual
inductive E (S : Type) where
  | var (i : Nat) | non | bl (b : Bool) | int (i : Int) | str (x : Str)
  | glb (x : Str) (i : Int)
  | op (o : Operator) (a b : E S)
  | neg (a : E S)
  | nt (a : E S) | an (a b : E S) | or (a b : E S)
  | cmp (o : CmpOp) (a b : E S)
  | ch (o o' : CmpOp) (a b c : E S)
  | isn (pos : Bool) (a : E S)
  | isb (pos : Bool) (b : Bool) (a : E S)
  | ix (a b : E S)
  | sl (a : E S) (lo hi : Es S)
  | rv (a : E S)
  | ls (es : Es S) | tp (es : Es S) | rep (es : Es S) (b : E S)
  | comp (own : List Nat) (tg : Tg) (it : It S) (c : Es S) (e : E S)
  | call (x : Str) (φ : Summ) (es : Es S)
  | cal0 (x : Str) (φ : Summ)
  | calE (x : Str) (φ : ESumm S) (es : Es S)
  | bi (b : BI) (es : Es S)
  | mt (m : MT) (a : E S) (es : Es S)
  | pop (i : Nat) (a : E S)
  | d0 | d1 (k v : E S)
  | compM (own : List Nat) (tg : Tg) (it : It S) (i : Nat) (a : E S)
  | srtS (a : E S) | lenS (a : E S) | lr (es : Es S)
  | callT (x : Str) (φ : Summ) (i j k : Nat)
  | isC (i : Nat) (tp : Bool) (ns : List Nat)
  | isnH (pos : Bool) (a : E S)
inductive Es (S : Type) where
  | nil | cons (e : E S) (es : Es S)
inductive It (S : Type) where
  | seq (e : E S) | rng (es : Es S) | enu (e : E S) | zip (a b : E S)
end
inductive St1 (S : Type) where
  | nop
  | asg (i : Nat) (e : E S)
  | asgL (i : Nat) (e : E S)
  | asgT (is : List Nat) (e : E S)
  | asgH (i : Nat) (φ : ESumm S) (e : E S)
  | app (i : Nat) (e : E S)
  | ins (i : Nat) (j : E S) (e : E S)
  | setI (i : Nat) (j : E S) (e : E S)
  | aug (i : Nat) (o : Operator) (e : E S)
  | expr (e : E S)
  | ret (e : E S)
  | brk | cnt | never
  | raise (x : Str) (n : Nat)
mutual
inductive Sm (S : Type) where
  | one (s : St1 S)
  | ite (c : E S) (t f : Sms S)
  | whl (c : E S) (b : Sms S)
  | for (tg : Tg) (it : It S) (b : Sms S)
  | tryC (b : Sms S) (i j : Nat) (c : E S)
inductive Sms (S : Type) where
  | nil | cons (s : Sm S) (r : Sms S)
end

/-! ### meaning -/
section
variable {S : Type}
def asD : Val → (D → Prop) → Prop
  | .dat d, k => k d
  | .new xs, k => k (.list xs)
  | _, _ => False
def rdO : Option Val → (D → Prop) → Prop
  | some (.dat d), k => k d
  | some (.own xs), k => k (.list xs)
  | _, _ => False
/-- an operand: a name is read, and stays as it is -/
def opn (a : E S) (wa : Ctx → S → (Val → Ctx → S → Prop) → Prop) (Γ : Ctx) (s : S) (Q : D → Ctx → S → Prop) : Prop :=
  match a with
  | .var i => rdO (look Γ i) fun d => Q d Γ s
  | _ => wa Γ s fun v Γ' s' => asD v fun d => Q d Γ' s'
def frzV (Γ : Ctx) (i : Nat) : Ctx := match look Γ i with
  | some (.own xs) => put Γ i (some (.dat (.list xs)))
  | _ => Γ
/-- names handed in: their lists stay from then on -/
def frzA : Es S → Ctx → Ctx
  | .nil, Γ => Γ
  | .cons (.var i) r, Γ => frzA r (frzV Γ i)
  | .cons _ r, Γ => frzA r Γ
/-- names handed in are known -/
def argsOk : Es S → Ctx → Prop
  | .nil, _ => True
  | .cons (.var i) r, Γ => (match look Γ i with | some (.dat _) => True | some (.own _) => True | _ => False) ∧ argsOk r Γ
  | .cons _ r, Γ => argsOk r Γ
def big : Nat := 100000
def ixD (xs : List D) (i : Int) (k : D → Prop) : Prop := match (ixN xs.length i).bind fun j => xs[j]? with
  | some d => k d
  | none => False
def cutD (xs : List D) (lo hi : Option Int) : List D := (xs.drop (HT.sIx xs.length 0 lo)).take (HT.sIx xs.length xs.length hi - HT.sIx xs.length 0 lo)
def addD : D → D → (Val → Prop) → Prop
  | .int i, .int j, k => k (.dat (.int (i + j)))
  | .list xs, .list ys, k => xs.length + ys.length ≤ big ∧ k (.new (xs ++ ys))
  | .str x, .str y, k => x.length + y.length ≤ big ∧ k (.dat (.str (x ++ y)))
  | _, _, _ => False
def intD (C : Int → Int → Prop) (f : Int → Int → Int) : D → D → (Val → Prop) → Prop
  | .int i, .int j, k => C i j ∧ k (.dat (.int (f i j)))
  | _, _, _ => False
def subD : D → D → (Val → Prop) → Prop
  | .int i, .int j, k => k (.dat (.int (i - j)))
  | _, _, _ => False
def noD : D → D → (Val → Prop) → Prop := fun _ _ _ => False
def opD : Operator → D → D → (Val → Prop) → Prop
  | .Add => addD
  | .Sub => subD
  | .Mult => intD CMul fun i j => i * j
  | .Mod => intD (fun _ j => 0 < j) fun i j => i % j
  | .FloorDiv => intD (fun _ j => 0 < j ∧ j < 1073741824) fun i j => i / j
  | .Pow => intD (fun i j => 0 ≤ j ∧ j ≤ 1000 ∧ i.natAbs < 2 ^ 64) fun i j => i ^ j.toNat
  | _ => noD
def eqD (x y : D) (k : Bool → Prop) : Prop := match x, y with
  | .int i, .int j => k (decide (i = j))
  | .bool i, .bool j => k (decide (i = j))
  | .str i, .str j => k (decide (i = j))
  | .none, .none => k true
  | .list [], .list [] => k true
  | .list (_ :: _), .list [] => k false
  | x, y => SeqAt.shaped x = true ∧ SeqAt.shaped y = true ∧ k (PyData.eqv x y)
def boolD : D → (Bool → Prop) → Prop
  | .bool b, k => k b
  | _, _ => False
def noneD : D → Bool
  | .none => true
  | _ => false
def intsD : List D → Option (List Int)
  | [] => some []
  | .int i :: r => (intsD r).map (i :: ·)
  | _ :: _ => none
/-- x in xs: ints, bools, None, texts -/
def flatD : D → Bool
  | .none | .bool _ | .int _ | .str _ => true
  | _ => false
def inD (x : D) (xs : List D) : Bool := xs.any fun y => PyData.eqv y x
def relD (f : Int → Int → Bool) : D → D → (Val → Prop) → Prop
  | .int i, .int j, k => k (.dat (.bool (f i j)))
  | _, _, _ => False
def memD (neg : Bool) : D → D → (Val → Prop) → Prop
  | x, .list xs, k => flatD x = true ∧ xs.all flatD = true ∧ k (.dat (.bool (if neg then !inD x xs else inD x xs)))
  | x, .tuple xs, k => (flatD x = true ∧ xs.all flatD = true ∧ k (.dat (.bool (if neg then !inD x xs else inD x xs)))) ∨ (neg = false ∧ SeqAt.shaped x = true ∧ SeqAt.shaped (.tuple xs) = true ∧ k (.dat (.bool (inD x xs))))
  | _, _, _ => False
def cmpD : CmpOp → D → D → (Val → Prop) → Prop
  | .Eq => fun x y k => eqD x y fun b => k (.dat (.bool b))
  | .NotEq => fun x y k => eqD x y fun b => k (.dat (.bool (!b)))
  | .Lt => relD fun i j => decide (i < j)
  | .LtE => relD fun i j => decide (i ≤ j)
  | .Gt => relD fun i j => decide (j < i)
  | .GtE => relD fun i j => decide (j ≤ i)
  | .In => memD false
  | .NotIn => memD true
  | _ => noD
def lenD : List D → (Val → Prop) → Prop
  | [.list xs], k => k (.dat (.int xs.length))
  | [.tuple xs], k => k (.dat (.int xs.length))
  | [.str x], k => x.length ≤ big ∧ k (.dat (.int x.length))
  | _, _ => False
def int2D (f : Int → Int → Int) : List D → (Val → Prop) → Prop
  | [.int i, .int j], k => k (.dat (.int (f i j)))
  | _, _ => False
def minLD : List D → (Val → Prop) → Prop
  | [.list xs], k => ∃ ns, intsD xs = some ns ∧ 0 < ns.length ∧ ∀ m, m ∈ ns → (∀ y, y ∈ ns → m ≤ y) → k (.dat (.int m))
  | _, _ => False
def maxLD : List D → (Val → Prop) → Prop
  | [.list xs], k => ∃ ns, intsD xs = some ns ∧ 0 < ns.length ∧ ∀ m, m ∈ ns → (∀ y, y ∈ ns → y ≤ m) → k (.dat (.int m))
  | _, _ => False
def sumD : List D → (Val → Prop) → Prop
  | [.list xs], k => ∃ ns, intsD xs = some ns ∧ k (.dat (.int ns.sum))
  | _, _ => False
def sortedD : List D → (Val → Prop) → Prop
  | [.list xs], k => ∃ ns, intsD xs = some ns ∧ ∀ ns' : List Int, ns'.Perm ns → ns'.Pairwise (· ≤ ·) → k (.new (ns'.map .int))
  | _, _ => False
def listD : List D → (Val → Prop) → Prop
  | [.list xs], k => k (.new xs)
  | [.tuple xs], k => k (.new xs)
  | _, _ => False
def tupleD : List D → (Val → Prop) → Prop
  | [.list xs], k => k (.dat (.tuple xs))
  | [.tuple xs], k => k (.dat (.tuple xs))
  | _, _ => False
def absD : List D → (Val → Prop) → Prop
  | [.int i], k => k (.dat (.int (if i < 0 then -i else i)))
  | _, _ => False
def toIntD : List D → (Val → Prop) → Prop
  | [.int i], k => k (.dat (.int i))
  | [.bool b], k => k (.dat (.int (if b then 1 else 0)))
  | _, _ => False
def toStrD : List D → (Val → Prop) → Prop
  | [.int i], k => i.natAbs.log2 < 1920 ∧ k (.dat (.str (toString i)))
  | _, _ => False
def isD (f : D → Bool) : List D → (Val → Prop) → Prop
  | [d], k => k (.dat (.bool (f d)))
  | _, _ => False
def isIntD : D → Bool
  | .int _ => true
  | .bool _ => true
  | _ => false
def isBoolD : D → Bool
  | .bool _ => true
  | _ => false
def isListD : D → Bool
  | .list _ => true
  | _ => false
def isTupD : D → Bool
  | .tuple _ => true
  | _ => false
def isStrD : D → Bool
  | .str _ => true
  | _ => false
def pairD (p : Int × Int) : D := .tuple [.int p.1, .int p.2]
def pairsD : List D → Option (List (Int × Int))
  | [] => some []
  | .tuple [.int i, .int j] :: r => (pairsD r).map ((i, j) :: ·)
  | _ :: _ => none
def lexLe (p q : Int × Int) : Prop := p.1 < q.1 ∨ (p.1 = q.1 ∧ p.2 ≤ q.2)
def sortPD : List D → (Val → Prop) → Prop
  | [.list xs], k => ∃ ps, pairsD xs = some ps ∧ ∀ ps' : List (Int × Int), ps'.Perm ps → ps'.Pairwise lexLe → k (.new (ps'.map pairD))
  | _, _ => False
def trueD (n : Int) : D := .tuple [.int n, .bool true]
/-- dict([(k, True) ..]): which keys stand is not told -/
def dictPD : List D → (Val → Prop) → Prop
  | [.list xs], k => ∃ ns : List Int, xs = ns.map trueD ∧ ∀ ms : List Int, ms.length ≤ ns.length → (∀ m ∈ ms, m ∈ ns) → k (.dat (.dict (ms.map fun m => (.int m, .bool true))))
  | _, _ => False
/-- repr(x) -/
def okR (d : D) : Prop := d.showable = true ∧ d.depth ≤ 60 ∧ d.shown.length ≤ sizeLine
def reprD : List D → (Val → Prop) → Prop
  | [d], k => okR d ∧ k (.dat (.str d.shown))
  | _, _ => False
/-- sorted(set(xs)) -/
def srtSX : D → (Val → Prop) → Prop
  | .list xs, k => ∃ ns, intsD xs = some ns ∧ ns.length < 4000 ∧ (ns.length < 64 ∨ ∀ m ∈ ns, 0 ≤ m ∧ m < 63) ∧ ∀ ms : List Int, ms.Pairwise (· < ·) → (∀ j, j ∈ ms ↔ j ∈ ns) → k (.new (ms.map .int))
  | _, _ => False
/-- len(set(xs)) -/
def lenSX : D → (Val → Prop) → Prop
  | .list xs, k => ∃ ns, intsD xs = some ns ∧ ns.length < 4000 ∧ ∀ ms : List Int, ms.Nodup → (∀ j, j ∈ ms ↔ j ∈ ns) → k (.dat (.int (ms.length : Nat)))
  | _, _ => False
def biD : BI → List D → (Val → Prop) → Prop
  | .len => lenD
  | .min2 => int2D fun i j => if j < i then j else i
  | .max2 => int2D fun i j => if j > i then j else i
  | .minL => minLD
  | .maxL => maxLD
  | .sum => sumD
  | .sorted => sortedD
  | .list => listD
  | .tuple => tupleD
  | .abs => absD
  | .int => toIntD
  | .str => toStrD
  | .isint => isD isIntD
  | .isbool => isD isBoolD
  | .islist => isD isListD
  | .istuple => isD isTupD
  | .isstr => isD isStrD
  | .sortP => sortPD
  | .dictP => dictPD
  | .repr => reprD
def idxD (ns : List Int) (y : Int) : Option Nat := ns.findIdx? fun n => decide (n = y)
def indexD : D → List D → (Val → Prop) → Prop
  | .list xs, [.int y], k => ∃ ns, intsD xs = some ns ∧ (match idxD ns y with | some j => k (.dat (.int (j : Nat))) | none => False)
  | _, _, _ => False
def mtD : MT → D → List D → (Val → Prop) → Prop
  | .index => indexD
def keyD : D → (Key → Prop) → Prop
  | .int i, k => k (.inl i)
  | .str x, k => k (.inr x)
  | _, _ => False
def scalV : Val → Bool
  | .dat d => scal d
  | _ => false
/-- nothing that is handed in can stand in it -/
def freeV : Val → Bool
  | .dat d => scal d
  | .new xs => xs.all scal
  | _ => false
/-- a comprehension's turns; the state in between is without its own names -/
def cLoop (f : D → Ctx → S → (Option D → Ctx → S → Prop) → Prop) : List D → Ctx → S → List D → (List D → Ctx → S → Prop) → Prop
  | [], Γ, s, acc, k => k acc Γ s
  | x :: r, Γ, s, acc, k => f x Γ s fun o Γ' s' => cLoop f r Γ' s' (acc ++ o.toList) k
def wipeG : List Nat → Ctx → Ctx
  | [], Γ => Γ
  | i :: r, Γ => put (wipeG r Γ) i none
/-- the names that a comprehension hid are back -/
def backG (Γ0 : Ctx) : List Nat → Ctx → Ctx
  | [], Γ => Γ
  | i :: r, Γ => put (backG Γ0 r Γ) i (match look Γ0 i with | some (.own _) => none | v => v)
def putAll : List Nat → List D → Ctx → (Ctx → Prop) → Prop
  | [], [], Γ, k => k Γ
  | i :: is, d :: ds, Γ, k => putAll is ds (put Γ i (some (.dat d))) k
  | _, _, _, _ => False
def bindT : Tg → D → Ctx → (Ctx → Prop) → Prop
  | .nm i, d, Γ, k => k (put Γ i (some (.dat d)))
  | .tp is, .tuple ds, Γ, k => putAll is ds Γ k
  | .tp _, _, _, _ => False
def rngD : List D → (List D → Prop) → Prop
  | [.int n], k => (-(2 ^ 62) ≤ n ∧ n < 2 ^ 62) ∧ k ((List.range n.toNat).map fun i => .int (i : Nat))
  | [.int a, .int b], k => (-(2 ^ 62) ≤ a ∧ a < 2 ^ 62 ∧ -(2 ^ 62) ≤ b ∧ b < 2 ^ 62) ∧ k ((List.range (b - a).toNat).map fun i => .int (a + (i : Nat)))
  | [.int a, .int b, .int c], k => c = -1 ∧ (-(2 ^ 62) ≤ a ∧ a < 2 ^ 62 ∧ -(2 ^ 62) ≤ b ∧ b < 2 ^ 62) ∧ k ((List.range (a - b).toNat).map fun i => .int (a + (i : Nat) * (-1)))
  | _, _ => False
def enumD (xs : List D) : List D := xs.zipIdx.map fun p => .tuple [.int (p.2 : Nat), p.1]
def zipD (xs ys : List D) : List D := (xs.zip ys).map fun p => .tuple [p.1, p.2]
def negX : D → (Val → Prop) → Prop
  | .int i, k => k (.dat (.int (-i)))
  | _, _ => False
def ixX : D → D → (D → Prop) → Prop
  | .list xs, .int i, k => ixD xs i k
  | .tuple xs, .int i, k => ixD xs i k
  | _, _, _ => False
def slX : D → Option Int → Option Int → (Val → Prop) → Prop
  | .list xs, l, h, k => k (.new (cutD xs l h))
  | _, _, _, _ => False
def rvX : D → (Val → Prop) → Prop
  | .list xs, k => k (.new xs.reverse)
  | _, _ => False
def repX (ds : List D) : D → (Val → Prop) → Prop
  | .int j, k => (-100000 ≤ j ∧ j ≤ 100000 ∧ ds.length * j.toNat ≤ big) ∧ k (.new (List.replicate j.toNat ds).flatten)
  | _, _ => False
def intX : D → (Int → Prop) → Prop
  | .int i, k => k i
  | _, _ => False
def seqD : D → (List D → Prop) → Prop
  | .list xs, k => k xs
  | .tuple xs, k => k xs
  | _, _ => False
def lstD : D → (List D → Prop) → Prop
  | .list xs, k => k xs
  | _, _ => False
def xn : Nat → Ctx → S → Prop := fun _ _ _ => False
/-- xs.pop(j) -/
def popW (i : Nat) (Γ : Ctx) (o : (D → Ctx → S → Prop) → Prop) (Q : Val → Ctx → S → Prop) : Prop := match look Γ i with
    | some (.own _) => o fun y Γ1 s1 => (match look Γ1 i, y with
      | some (.own xs), .int j => (match (ixN xs.length j).bind fun m => xs[m]?.map fun d => (m, d) with
        | some p => (-(2 ^ 62) ≤ j ∧ j < 2 ^ 62) ∧ Q (.dat p.2) (put Γ1 i (some (.own (xs.eraseIdx p.1)))) s1
        | none => False)
      | _, _ => False)
    | _ => False
def noneV : Val → Bool
  | .dat d => noneD d
  | _ => false
/-- isinstance of an error, or of None -/
def isCW (ns : List Nat) (o : Option Val) (k : Bool → Prop) : Prop := match o with
  | some (.dat d) => noneD d = true ∧ k false
  | some (.hdl m) => (100 ≤ m ∧ m < 107) ∧ k (ns.any fun n => decide (n = 99) || decide (m = 100 + n))
  | _ => False
mutual
def wE : (Nat → Ctx → S → Prop) → E S → Ctx → S → (Val → Ctx → S → Prop) → Prop
  | xc, .var i, Γ, s, Q => (match look Γ i with
    | some (.dat d) => Q (.dat d) Γ s
    | some (.own xs) => Q (.dat (.list xs)) (put Γ i (some (.dat (.list xs)))) s
    | some (.hdl k) => Q (.hdl k) Γ s
    | _ => False)
  | xc, .non, Γ, s, Q => Q (.dat .none) Γ s
  | xc, .bl b, Γ, s, Q => Q (.dat (.bool b)) Γ s
  | xc, .int i, Γ, s, Q => Q (.dat (.int i)) Γ s
  | xc, .str x, Γ, s, Q => Q (.dat (.str x)) Γ s
  | xc, .glb _ i, Γ, s, Q => Q (.dat (.int i)) Γ s
  | xc, .op o a b, Γ, s, Q => opn a (wE xc a) Γ s fun x Γ1 s1 => opn b (wE xc b) Γ1 s1 fun y Γ2 s2 => opD o x y fun v => Q v Γ2 s2
  | xc, .neg a, Γ, s, Q => opn a (wE xc a) Γ s fun x Γ1 s1 => negX x fun v => Q v Γ1 s1
  | xc, .nt a, Γ, s, Q => opn a (wE xc a) Γ s fun x Γ1 s1 => boolD x fun b => Q (.dat (.bool (!b))) Γ1 s1
  | xc, .an a b, Γ, s, Q => opn a (wE xc a) Γ s fun x Γ1 s1 => boolD x fun c => if c = true then opn b (wE xc b) Γ1 s1 fun y Γ2 s2 => boolD y fun d => Q (.dat (.bool d)) Γ2 s2 else Q (.dat (.bool false)) Γ1 s1
  | xc, .or a b, Γ, s, Q => opn a (wE xc a) Γ s fun x Γ1 s1 => boolD x fun c => if c = true then Q (.dat (.bool true)) Γ1 s1 else opn b (wE xc b) Γ1 s1 fun y Γ2 s2 => boolD y fun d => Q (.dat (.bool d)) Γ2 s2
  | xc, .cmp o a b, Γ, s, Q => opn a (wE xc a) Γ s fun x Γ1 s1 => opn b (wE xc b) Γ1 s1 fun y Γ2 s2 => cmpD o x y fun v => Q v Γ2 s2
  | xc, .ch o o' a b c, Γ, s, Q => opn a (wE xc a) Γ s fun x Γ1 s1 => opn b (wE xc b) Γ1 s1 fun y Γ2 s2 => cmpD o x y fun v => asD v fun d => boolD d fun k => if k = true then opn c (wE xc c) Γ2 s2 fun z Γ3 s3 => cmpD o' y z fun v => Q v Γ3 s3 else Q (.dat (.bool false)) Γ2 s2
  | xc, .isn p a, Γ, s, Q => opn a (wE xc a) Γ s fun x Γ1 s1 => Q (.dat (.bool (if p then noneD x else !noneD x))) Γ1 s1
  | xc, .isb p b a, Γ, s, Q => opn a (wE xc a) Γ s fun x Γ1 s1 => boolD x fun c => Q (.dat (.bool (if p then c == b else !(c == b)))) Γ1 s1
  | xc, .ix a b, Γ, s, Q => opn a (wE xc a) Γ s fun x Γ1 s1 => opn b (wE xc b) Γ1 s1 fun y Γ2 s2 => ixX x y fun d => Q (.dat d) Γ2 s2
  | xc, .sl a lo hi, Γ, s, Q => opn a (wE xc a) Γ s fun x Γ1 s1 => wP xc lo Γ1 s1 fun l Γ2 s2 => wP xc hi Γ2 s2 fun h Γ3 s3 => slX x l h fun v => Q v Γ3 s3
  | xc, .rv a, Γ, s, Q => opn a (wE xc a) Γ s fun x Γ1 s1 => rvX x fun v => Q v Γ1 s1
  | xc, .ls es, Γ, s, Q => wX xc es Γ s fun ds Γ1 s1 => ds.length ≤ big ∧ Q (.new ds) Γ1 s1
  | xc, .tp es, Γ, s, Q => wX xc es Γ s fun ds Γ1 s1 => ds.length ≤ big ∧ Q (.dat (.tuple ds)) Γ1 s1
  | xc, .rep es b, Γ, s, Q => wX xc es Γ s fun ds Γ1 s1 => ds.length ≤ big ∧ opn b (wE xc b) Γ1 s1 fun y Γ2 s2 => repX ds y fun v => Q v Γ2 s2
  | xc, .comp own tg it c e, Γ, s, Q => wI xc it Γ s fun xs Γ1 s1 => xs.length ≤ big ∧
      cLoop (fun x Γ s k => bindT tg x Γ fun Γ' => wC xn c Γ' s fun b Γ2 s2 => if b = true then wE xn e Γ2 s2 (fun v Γ3 s3 => asD v fun d => k (some d) (wipeG own Γ3) s3) else k none (wipeG own Γ2) s2)
        xs (wipeG own Γ1) s1 [] fun ys Γ' s' => Q (.new ys) (backG Γ1 own Γ') s'
  | xc, .call _ φ es, Γ, s, Q => wA xc es Γ s fun ds Γ1 s1 => argsOk es Γ1 ∧ φ.run ds (fun v => Q v (if scalV v = true then Γ1 else frzA es Γ1) s1) (fun n => xc n (frzA es Γ1) s1)
  | xc, .cal0 _ φ, Γ, s, Q => φ.run [] (fun v => Q v Γ s) (fun _ => False)
  | xc, .calE _ φ es, Γ, s, Q => wV xc es Γ s fun vs Γ1 s1 => φ.run vs s1 (fun v s2 => Q v Γ1 s2) (fun n s2 => xc n Γ1 s2)
  | xc, .bi b es, Γ, s, Q => wA xc es Γ s fun ds Γ1 s1 => biD b ds fun v => Q v Γ1 s1
  | xc, .mt m a es, Γ, s, Q => opn a (wE xc a) Γ s fun x Γ1 s1 => lstD x fun _ => wA xc es Γ1 s1 fun ds Γ2 s2 => mtD m x ds fun v => Q v Γ2 s2
  | xc, .pop i a, Γ, s, Q => popW i Γ (fun k' => opn a (wE xc a) Γ s k') Q
  | xc, .d0, Γ, s, Q => Q (.dat (.dict [])) Γ s
  | xc, .d1 k v, Γ, s, Q => opn k (wE xc k) Γ s fun x Γ1 s1 => wE xc v Γ1 s1 fun w Γ2 s2 => asD w fun d => keyD x fun _ => Q (.dat (.dict [(x, d)])) Γ2 s2
  | xc, .compM own tg it i a, Γ, s, Q => wJ xc it Γ s fun xs Γ1 s1 => xs.length ≤ big ∧
      cLoop (fun x Γ s k => bindT tg x Γ fun Γ' => popW i Γ' (fun k' => opn a (wE xn a) Γ' s k') fun v Γ3 s3 => asD v fun d => k (some d) (wipeG own Γ3) s3)
        xs (wipeG own Γ1) s1 [] fun ys Γ' s' => Q (.new ys) (backG Γ1 own Γ') s'
  | xc, .srtS a, Γ, s, Q => opn a (wE xc a) Γ s fun x Γ1 s1 => srtSX x fun v => Q v Γ1 s1
  | xc, .lenS a, Γ, s, Q => opn a (wE xc a) Γ s fun x Γ1 s1 => lenSX x fun v => Q v Γ1 s1
  | xc, .lr es, Γ, s, Q => wA xc es Γ s fun ds Γ1 s1 => rngD ds fun xs => xs.length ≤ big ∧ Q (.new xs) Γ1 s1
  | xc, .callT _ φ i j k, Γ, s, Q => rdO (look Γ i) fun a => rdO (look Γ j) fun b => rdO (look Γ k) fun c => φ.run [.tuple [a, b], c] (fun v => freeV v = true ∧ Q v Γ s) (fun _ => False)
  | xc, .isC i _ ns, Γ, s, Q => isCW ns (look Γ i) fun b => Q (.dat (.bool b)) Γ s
  | xc, .isnH p a, Γ, s, Q => wE xc a Γ s fun v Γ1 s1 => Q (.dat (.bool (if p then noneV v else !noneV v))) Γ1 s1
/-- operands in a row -/
def wA : (Nat → Ctx → S → Prop) → Es S → Ctx → S → (List D → Ctx → S → Prop) → Prop
  | xc, .nil, Γ, s, Q => Q [] Γ s
  | xc, .cons e r, Γ, s, Q => opn e (wE xc e) Γ s fun d Γ1 s1 => wA xc r Γ1 s1 fun ds Γ2 s2 => Q (d :: ds) Γ2 s2
/-- things that are kept, in a row -/
def wX : (Nat → Ctx → S → Prop) → Es S → Ctx → S → (List D → Ctx → S → Prop) → Prop
  | xc, .nil, Γ, s, Q => Q [] Γ s
  | xc, .cons e r, Γ, s, Q => wE xc e Γ s fun v Γ1 s1 => asD v fun d => wX xc r Γ1 s1 fun ds Γ2 s2 => Q (d :: ds) Γ2 s2
/-- .. handles too -/
def wV : (Nat → Ctx → S → Prop) → Es S → Ctx → S → (List Val → Ctx → S → Prop) → Prop
  | xc, .nil, Γ, s, Q => Q [] Γ s
  | xc, .cons e r, Γ, s, Q => wE xc e Γ s fun v Γ1 s1 => (match v with
    | .dat d => wV xc r Γ1 s1 fun vs Γ2 s2 => Q (.dat d :: vs) Γ2 s2
    | .new xs => wV xc r Γ1 s1 fun vs Γ2 s2 => Q (.dat (.list xs) :: vs) Γ2 s2
    | .hdl k => wV xc r Γ1 s1 fun vs Γ2 s2 => Q (.hdl k :: vs) Γ2 s2
    | .own _ => False)
/-- a part of a slice -/
def wP : (Nat → Ctx → S → Prop) → Es S → Ctx → S → (Option Int → Ctx → S → Prop) → Prop
  | xc, .nil, Γ, s, Q => Q none Γ s
  | xc, .cons e _, Γ, s, Q => opn e (wE xc e) Γ s fun d Γ1 s1 => intX d fun i => Q (some i) Γ1 s1
/-- the test of a comprehension -/
def wC : (Nat → Ctx → S → Prop) → Es S → Ctx → S → (Bool → Ctx → S → Prop) → Prop
  | xc, .nil, Γ, s, Q => Q true Γ s
  | xc, .cons e _, Γ, s, Q => opn e (wE xc e) Γ s fun d Γ1 s1 => boolD d fun b => Q b Γ1 s1
def wI : (Nat → Ctx → S → Prop) → It S → Ctx → S → (List D → Ctx → S → Prop) → Prop
  | xc, .seq e, Γ, s, Q => opn e (wE xc e) Γ s fun d Γ1 s1 => seqD d fun xs => Q xs Γ1 s1
  | xc, .rng es, Γ, s, Q => wA xc es Γ s fun ds Γ1 s1 => rngD ds fun xs => Q xs Γ1 s1
  | xc, .enu e, Γ, s, Q => opn e (wE xc e) Γ s fun d Γ1 s1 => lstD d fun xs => Q (enumD xs) Γ1 s1
  | xc, .zip a b, Γ, s, Q => opn a (wE xc a) Γ s fun x Γ1 s1 => opn b (wE xc b) Γ1 s1 fun y Γ2 s2 => lstD x fun xs => lstD y fun ys => Q (zipD xs ys) Γ2 s2
/-- what a for walks: it stays from then on -/
def wJ : (Nat → Ctx → S → Prop) → It S → Ctx → S → (List D → Ctx → S → Prop) → Prop
  | xc, .seq e, Γ, s, Q => wE xc e Γ s fun v Γ1 s1 => asD v fun d => seqD d fun xs => Q xs Γ1 s1
  | xc, .rng es, Γ, s, Q => wA xc es Γ s fun ds Γ1 s1 => rngD ds fun xs => Q xs Γ1 s1
  | xc, .enu e, Γ, s, Q => wE xc e Γ s fun v Γ1 s1 => asD v fun d => lstD d fun xs => Q (enumD xs) Γ1 s1
  | xc, .zip a b, Γ, s, Q => wE xc a Γ s fun v Γ1 s1 => asD v fun x => wE xc b Γ1 s1 fun w Γ2 s2 => asD w fun y => lstD x fun xs => lstD y fun ys => Q (zipD xs ys) Γ2 s2
end
/-- what follows -/
structure Kn (S : Type) where
  nx : Ctx → S → Prop
  rt : Val → S → Prop
  bk : Ctx → S → Prop := fun _ _ => False
  ct : Ctx → S → Prop := fun _ _ => False
  ex : Nat → Ctx → S → Prop := fun _ _ _ => False
structure KLe0 (K K' : Kn S) : Prop where
  nx : ∀ Γ s, K.nx Γ s → K'.nx Γ s
  rt : ∀ v s, K.rt v s → K'.rt v s
  bk : ∀ Γ s, K.bk Γ s → K'.bk Γ s
  ct : ∀ Γ s, K.ct Γ s → K'.ct Γ s
theorem KLe0.refl (K : Kn S) : KLe0 K K := ⟨fun _ _ h => h, fun _ _ h => h, fun _ _ h => h, fun _ _ h => h⟩
def slotV : Val → Option Val
  | .dat d => some (.dat d)
  | .new xs => some (.own xs)
  | .hdl k => some (.hdl k)
  | .own _ => none
def w1 : St1 S → Ctx → S → Kn S → Prop
  | .nop, Γ, s, K => K.nx Γ s
  | .asg i e, Γ, s, K => wE K.ex e Γ s fun v Γ' s' => K.nx (put Γ' i (slotV v)) s'
  | .asgL i e, Γ, s, K => wE K.ex e Γ s fun v Γ' s' => K.nx (put Γ' i (slotV v)) s'
  | .asgT is e, Γ, s, K => wE K.ex e Γ s fun v Γ' s' => asD v fun d => (match d with | .tuple ds => putAll is ds Γ' fun Γ2 => K.nx Γ2 s' | _ => False)
  | .asgH i φ e, Γ, s, K => wE K.ex e Γ s fun v Γ' s' => φ.run [v] s' (fun w s2 => K.nx (put Γ' i (slotV w)) s2) (fun _ _ => False)
  | .app i e, Γ, s, K => (match look Γ i with
    | some (.own _) => wE K.ex e Γ s fun v Γ' s' => asD v fun d => (match look Γ' i with
      | some (.own xs) => xs.length < big ∧ K.nx (put Γ' i (some (.own (xs ++ [d])))) s'
      | _ => False)
    | _ => False)
  | .ins i j e, Γ, s, K => (match look Γ i with
    | some (.own _) => opn j (wE K.ex j) Γ s fun y Γ1 s1 => wE K.ex e Γ1 s1 fun v Γ' s' => asD v fun d => (match look Γ' i, y with
      | some (.own xs), .int n => xs.length < big ∧ 0 ≤ n ∧ n ≤ xs.length ∧ K.nx (put Γ' i (some (.own (xs.insertIdx n.toNat d)))) s'
      | _, _ => False)
    | _ => False)
  | .setI i j e, Γ, s, K => wE K.ex e Γ s fun v Γ' s' => asD v fun d => (match look Γ' i with
    | some (.own _) => opn j (wE K.ex j) Γ' s' fun y Γ2 s2 => (match look Γ2 i, y with
      | some (.own xs), .int n => (match ixN xs.length n with
        | some m => K.nx (put Γ2 i (some (.own (xs.set m d)))) s2
        | none => False)
      | _, _ => False)
    | _ => False)
  | .aug i o e, Γ, s, K => (match look Γ i with
    | some (.dat (.int a)) => opn e (wE K.ex e) Γ s fun y Γ' s' => (match y with
      | .int b => (match o with
        | .Add => K.nx (put Γ' i (some (.dat (.int (a + b))))) s'
        | .Sub => K.nx (put Γ' i (some (.dat (.int (a - b))))) s'
        | _ => False)
      | _ => False)
    | _ => False)
  | .expr e, Γ, s, K => wE K.ex e Γ s fun _ Γ' s' => K.nx Γ' s'
  | .ret e, Γ, s, K => (match e with
    | .var i => (match look Γ i with
      | some (.dat d) => K.rt (.dat d) s
      | some (.own xs) => K.rt (.new xs) s
      | some (.hdl k) => K.rt (.hdl k) s
      | _ => False)
    | _ => wE K.ex e Γ s fun v _ s' => K.rt v s')
  | .brk, Γ, s, K => K.bk Γ s
  | .cnt, Γ, s, K => K.ct Γ s
  | .never, _, _, _ => False
  | .raise _ n, Γ, s, K => K.ex n Γ s
/-- turns over a list -/
def fLoop (f : D → Ctx → S → Kn S → Prop) (K : Kn S) : List D → Ctx → S → Prop
  | [], Γ, s => K.nx Γ s
  | x :: r, Γ, s => f x Γ s { K with nx := fun Γ' s' => fLoop f K r Γ' s', ct := fun Γ' s' => fLoop f K r Γ' s', bk := K.nx }
/-- a test -/
def wT (xc : Nat → Ctx → S → Prop) (c : E S) (Γ : Ctx) (s : S) (Q : Bool → Ctx → S → Prop) : Prop := opn c (wE xc c) Γ s fun d Γ1 s1 => boolD d fun b => Q b Γ1 s1
mutual
def wS : Sm S → Ctx → S → Kn S → Prop
  | .one st, Γ, s, K => w1 st Γ s K
  | .ite c t f, Γ, s, K => wT K.ex c Γ s fun b Γ1 s1 => if b = true then wSs t Γ1 s1 K else wSs f Γ1 s1 K
  | .whl c b, Γ, s, K => ∃ W : Nat → Ctx → S → Prop, (∃ m, W m Γ s) ∧ ∀ m Γ s, W m Γ s → wT K.ex c Γ s fun b' Γ1 s1 =>
      if b' = true then wSs b Γ1 s1 { K with nx := fun Γ' s' => ∃ m', m' < m ∧ W m' Γ' s', ct := fun Γ' s' => ∃ m', m' < m ∧ W m' Γ' s', bk := K.nx } else K.nx Γ1 s1
  | .for tg it b, Γ, s, K => wJ K.ex it Γ s fun xs Γ1 s1 => xs.length ≤ big ∧ fLoop (fun x Γ s K' => bindT tg x Γ fun Γ' => wSs b Γ' s K') K xs Γ1 s1
  | .tryC b i j c, Γ, s, K => ∃ K0 : Kn S, KLe0 K0 K ∧ wSs b Γ s { K0 with ex := fun n Γ' s' => n < 7 ∧ wE xn c (put Γ' i (some (.hdl (100 + n)))) s' fun v Γ2 s2 => K0.nx (put (put Γ2 j (slotV v)) i none) s2 }
def wSs : Sms S → Ctx → S → Kn S → Prop
  | .nil, Γ, s, K => K.nx Γ s
  | .cons st r, Γ, s, K => wS st Γ s { K with nx := fun Γ' s' => wSs r Γ' s' K }
end
end
end Ac
namespace Ac
open PySem PySem.Spec PyProof.Rows L2

/-! ### data in a heap -/
mutual
inductive Rp (F : Hp) : V → D → Prop
  | non : Rp F .non .none
  | bl (b : Bool) : Rp F (.bl b) (.bool b)
  | int (i : Int) : Rp F (.int i) (.int i)
  | str (x : Str) : Rp F (.str x) (.str x)
  | lst {a : Addr} {vs : List V} {ds : List D} : Rd F a (.lst vs) → RpL F vs ds → Rp F (.ref a) (.list ds)
  | tup {a : Addr} {vs : List V} {ds : List D} : F a = some (.tup vs) → RpL F vs ds → Rp F (.ref a) (.tuple ds)
  | dic {a : Addr} {kvs : List (Key × V)} {es : List (D × D)} : F a = some (.dK kvs) → RpK F kvs es → Rp F (.ref a) (.dict es)
inductive RpL (F : Hp) : List V → List D → Prop
  | nil : RpL F [] []
  | cons {v : V} {vs : List V} {d : D} {ds : List D} : Rp F v d → RpL F vs ds → RpL F (v :: vs) (d :: ds)
inductive RpK (F : Hp) : List (Key × V) → List (D × D) → Prop
  | nil : RpK F [] []
  | cons {k : Key} {v : V} {r : List (Key × V)} {d : D} {ds : List (D × D)} : Rp F v d → RpK F r ds → RpK F ((k, v) :: r) ((match k with | .inl i => .int i | .inr x => .str x, d) :: ds)
end
def Sub (F G : Hp) : Prop := ∀ a o, F a = some o → G a = some o
theorem Sub.refl (F : Hp) : Sub F F := fun _ _ h => h
theorem Sub.trans {F G H : Hp} (a : Sub F G) (b : Sub G H) : Sub F H := fun x o h => b x o (a x o h)
theorem Sub.rd {F G : Hp} (s : Sub F G) {a : Addr} {u : HO} (h : Rd F a u) : Rd G a u := by
  rcases h with h | ⟨o, h⟩
  · exact .inl (s _ _ h)
  · exact .inr ⟨o, s _ _ h⟩
mutual
theorem Rp.mono {F G : Hp} (s : Sub F G) : ∀ {v : V} {d : D}, Rp F v d → Rp G v d
  | _, _, .non => .non
  | _, _, .bl b => .bl b
  | _, _, .int i => .int i
  | _, _, .str x => .str x
  | _, _, .lst h r => .lst (s.rd h) (RpL.mono s r)
  | _, _, .tup h r => .tup (s _ _ h) (RpL.mono s r)
  | _, _, .dic h r => .dic (s _ _ h) (RpK.mono s r)
theorem RpL.mono {F G : Hp} (s : Sub F G) : ∀ {v : List V} {d : List D}, RpL F v d → RpL G v d
  | _, _, .nil => .nil
  | _, _, .cons h r => .cons (Rp.mono s h) (RpL.mono s r)
theorem RpK.mono {F G : Hp} (s : Sub F G) : ∀ {v : List (Key × V)} {d : List (D × D)}, RpK F v d → RpK G v d
  | _, _, .nil => .nil
  | _, _, .cons h r => .cons (Rp.mono s h) (RpK.mono s r)
end
theorem RpL.length {F : Hp} : ∀ {v : List V} {d : List D}, RpL F v d → v.length = d.length
  | _, _, .nil => rfl
  | _, _, .cons _ r => by rw [List.length_cons, List.length_cons, r.length]
theorem RpL.get {F : Hp} : ∀ {v : List V} {d : List D} {i : Nat} {y : D}, RpL F v d → d[i]? = some y → ∃ x, v[i]? = some x ∧ Rp F x y
  | _, _, _, _, .nil, e => by simp at e
  | _, _, 0, _, .cons h _, e => by simp at e; subst e; exact ⟨_, rfl, h⟩
  | _, _, i + 1, y, .cons _ t, e => by
    obtain ⟨u, h1, h2⟩ := RpL.get (i := i) (y := y) t (by simpa using e)
    exact ⟨u, by simpa using h1, h2⟩
theorem RpL.get' {F : Hp} : ∀ {v : List V} {d : List D} {i : Nat} {x : V}, RpL F v d → v[i]? = some x → ∃ y, d[i]? = some y ∧ Rp F x y
  | _, _, _, _, .nil, e => by simp at e
  | _, _, 0, _, .cons h _, e => by simp at e; subst e; exact ⟨_, rfl, h⟩
  | _, _, i + 1, y, .cons _ t, e => by
    obtain ⟨u, h1, h2⟩ := RpL.get' (i := i) (x := y) t (by simpa using e)
    exact ⟨u, by simpa using h1, h2⟩
theorem RpL.append {F : Hp} : ∀ {v w : List V} {d e : List D}, RpL F v d → RpL F w e → RpL F (v ++ w) (d ++ e)
  | _, _, _, _, .nil, s => s
  | _, _, _, _, .cons h r, s => .cons h (RpL.append r s)
theorem RpL.take {F : Hp} : ∀ {v : List V} {d : List D} (n : Nat), RpL F v d → RpL F (v.take n) (d.take n)
  | _, _, 0, _ => .nil
  | _, _, _ + 1, .nil => .nil
  | _, _, n + 1, .cons h r => .cons h (RpL.take n r)
theorem RpL.drop {F : Hp} : ∀ {v : List V} {d : List D} (n : Nat), RpL F v d → RpL F (v.drop n) (d.drop n)
  | _, _, 0, r => r
  | _, _, _ + 1, .nil => .nil
  | _, _, n + 1, .cons _ r => RpL.drop n r
theorem RpL.reverse {F : Hp} : ∀ {v : List V} {d : List D}, RpL F v d → RpL F v.reverse d.reverse
  | _, _, .nil => .nil
  | _, _, .cons h r => by rw [List.reverse_cons, List.reverse_cons]; exact (RpL.reverse r).append (.cons h .nil)
theorem RpL.set {F : Hp} {x : V} {y : D} (h : Rp F x y) : ∀ {v : List V} {d : List D} (i : Nat), RpL F v d → RpL F (v.set i x) (d.set i y)
  | _, _, _, .nil => .nil
  | _, _, 0, .cons _ r => .cons h r
  | _, _, i + 1, .cons q r => .cons q (RpL.set h i r)
theorem RpL.rep {F : Hp} {v : List V} {d : List D} (h : RpL F v d) : ∀ n : Nat, RpL F (List.replicate n v).flatten (List.replicate n d).flatten
  | 0 => .nil
  | n + 1 => by
    rw [List.replicate_succ, List.replicate_succ, List.flatten_cons, List.flatten_cons]
    exact h.append (RpL.rep h n)
theorem RpL.ints {F : Hp} : ∀ ns : List Int, RpL F (ns.map V.int) (ns.map PyData.int)
  | [] => .nil
  | n :: r => .cons (.int n) (RpL.ints r)
theorem intsD_map : ∀ ns : List Int, intsD (ns.map PyData.int) = some ns
  | [] => rfl
  | n :: r => by
    show (intsD (r.map PyData.int)).map (n :: ·) = _
    rw [intsD_map r]
    rfl
theorem intsD_eq : ∀ {xs : List D} {ns : List Int}, intsD xs = some ns → xs = ns.map PyData.int
  | [], ns, h => by cases h; rfl
  | .int i :: r, ns, h => by
    have h' : (intsD r).map (i :: ·) = some ns := h
    cases e : intsD r with
    | none => rw [e] at h'; cases h'
    | some ms =>
      rw [e] at h'
      cases h'
      rw [intsD_eq e]
      rfl
  | .none :: _, _, h => by cases h
  | .bool _ :: _, _, h => by cases h
  | .str _ :: _, _, h => by cases h
  | .list _ :: _, _, h => by cases h
  | .tuple _ :: _, _, h => by cases h
  | .dict _ :: _, _, h => by cases h
theorem RpL.of_ints {F : Hp} : ∀ {vs : List V} {ns : List Int}, RpL F vs (ns.map PyData.int) → vs = ns.map V.int
  | _, [], .nil => rfl
  | _, n :: r, .cons h t => by
    cases h
    rw [RpL.of_ints t]
    rfl

/-! ### handles -/
/-- a model of things with a state: S what is told of them, A where they lie -/
structure RM where
  S : Type
  A : Type
  ok : A → S → Hp → Prop
  ft : A → Addr → Prop
  hd : A → Nat → V → Prop
  le : A → A → Prop
  le_refl : ∀ a, le a a
  le_trans : ∀ {a b c}, le a b → le b c → le a c
  le_ft : ∀ {a b p}, le a b → ft a p → ft b p
  le_hd : ∀ {a b k v}, le a b → hd a k v → hd b k v
  hd_ref : ∀ {a k v}, hd a k v → ∃ p, v = .ref p
  ex : ∀ {a s H p}, ok a s H → ft a p → H p ≠ none
  frame : ∀ {a s H H'}, ok a s H → (∀ p, ft a p → H' p = H p) → ok a s H'
/-- none -/
def rm0 : RM where
  S := Unit
  A := Unit
  ok := fun _ _ _ => True
  ft := fun _ _ => False
  hd := fun _ _ _ => False
  le := fun _ _ => True
  le_refl := fun _ => trivial
  le_trans := fun _ _ => trivial
  le_ft := fun _ h => h
  le_hd := fun _ h => h
  hd_ref := fun h => h.elim
  ex := fun _ h => h.elim
  frame := fun _ _ => trivial

structure Fx (rm : RM) where
  L : Hp
  F0 : Hp
  A0 : rm.A
variable {rm : RM}
/-- what a slot holds -/
def SV (fx : Fx rm) (H F : Hp) (A : rm.A) (x : V) : Val → Prop
  | .dat d => Rp F x d
  | .own xs => ∃ a vs, x = .ref a ∧ H a = some (.lst vs) ∧ F a = none ∧ ¬ rm.ft A a ∧ fx.L a = none ∧ RpL F vs xs
  | .new _ => False
  | .hdl k => rm.hd A k x
structure SR (fx : Fx rm) (σ : L2.St) (H : Hp) (Γ : Ctx) (s : rm.S) (F : Hp) (A : rm.A) : Prop where
  fh : Sub F H
  fz : ∀ a o, F a = some o → ¬ rm.ft A a
  f0 : Sub fx.F0 F
  lk : ∀ a o, fx.L a = some o → H a = some o ∧ F a = none ∧ ¬ rm.ft A a
  a0 : rm.le fx.A0 A
  ok : rm.ok A s H
  ln : Γ.length = σ.length
  sl : ∀ i v, look Γ i = some v → ∃ x, σ[i]? = some (some x) ∧ SV fx H F A x v
  dj : ∀ i j a xs ys, look Γ i = some (.own xs) → look Γ j = some (.own ys) → σ[i]? = some (some (V.ref a)) → σ[j]? = some (some (V.ref a)) → i = j
/-- what stood (but what handles reach) stands -/
def HX (H : Hp) (A : rm.A) (H' : Hp) (A' : rm.A) : Prop := rm.le A A' ∧ ∀ a o, H a = some o → ¬ rm.ft A a → H' a = some o ∧ ¬ rm.ft A' a
theorem HX.refl (H : Hp) (A : rm.A) : HX H A H A := ⟨rm.le_refl A, fun _ _ h n => ⟨h, n⟩⟩
theorem HX.trans {H H1 H2 : Hp} {A A1 A2 : rm.A} (a : HX H A H1 A1) (b : HX H1 A1 H2 A2) : HX H A H2 A2 := ⟨rm.le_trans a.1 b.1, fun p o h n => let ⟨h1, n1⟩ := a.2 p o h n; b.2 p o h1 n1⟩
/-- a value that an expression gives -/
def RV (fx : Fx rm) (σ : L2.St) (H F : Hp) (A : rm.A) (Γ : Ctx) (x : V) : Val → Prop
  | .dat d => Rp F x d
  | .own _ => False
  | .new xs => ∃ p vs, x = .ref p ∧ H p = some (.lst vs) ∧ F p = none ∧ ¬ rm.ft A p ∧ fx.L p = none ∧ RpL F vs xs ∧ ∀ i ys, look Γ i = some (.own ys) → σ[i]? ≠ some (some (V.ref p))
  | .hdl k => rm.hd A k x
/-- an operand: its things stay -/
def Ro (H F : Hp) (A : rm.A) (x : V) (d : D) : Prop := Rp F x d ∨ ∃ a vs ds, x = V.ref a ∧ d = .list ds ∧ H a = some (.lst vs) ∧ ¬ rm.ft A a ∧ RpL F vs ds
theorem Ro.mono {H H' F F' : Hp} {A A' : rm.A} {x : V} {d : D} (h : Ro H F A x d) (hx : HX H A H' A') (fx : Sub F F') : Ro H' F' A' x d := by
  rcases h with h | ⟨a, vs, ds, e1, e2, e3, e4, e5⟩
  · exact .inl (h.mono fx)
  · exact .inr ⟨a, vs, ds, e1, e2, (hx.2 _ _ e3 e4).1, (hx.2 _ _ e3 e4).2, e5.mono fx⟩
/-- a list operand, seen in the heap -/
theorem Ro.lst {H F : Hp} {A : rm.A} {x : V} {ds : List D} (fh : Sub F H) (h : Ro H F A x (.list ds)) : ∃ a vs, x = V.ref a ∧ Rd H a (.lst vs) ∧ RpL F vs ds := by
  rcases h with h | ⟨a, vs, ds', e1, e2, e3, _, e5⟩
  · cases h with
    | lst h r => exact ⟨_, _, rfl, fh.rd h, r⟩
  · cases e2
    exact ⟨a, vs, e1, .inl e3, e5⟩
theorem Ro.flat {H F : Hp} {A : rm.A} {x : V} {d : D} (h : Ro H F A x d) (hd : ∀ ds, d ≠ .list ds) : Rp F x d := by
  rcases h with h | ⟨a, vs, ds, _, e2, _⟩
  · exact h
  · exact absurd e2 (hd ds)

/-! ### slots -/
theorem look_put_same : ∀ {Γ : Ctx} {i : Nat} {v : Option Val}, i < Γ.length → look (put Γ i v) i = v
  | [], _, _, h => absurd h (Nat.not_lt_zero _)
  | _ :: _, 0, _, _ => rfl
  | _ :: r, i + 1, v, h => look_put_same (Γ := r) (i := i) (v := v) (Nat.lt_of_succ_lt_succ h)
theorem look_put_ne : ∀ {Γ : Ctx} {i j : Nat} {v : Option Val}, j ≠ i → look (put Γ i v) j = look Γ j
  | [], _, _, _, _ => rfl
  | _ :: _, 0, 0, _, h => absurd rfl h
  | _ :: _, 0, j + 1, _, _ => rfl
  | _ :: _, i + 1, 0, _, _ => rfl
  | _ :: r, i + 1, j + 1, v, h => look_put_ne (Γ := r) (i := i) (j := j) (v := v) (fun e => h (by rw [e]))
theorem put_length : ∀ {Γ : Ctx} {i : Nat} {v : Option Val}, (put Γ i v).length = Γ.length
  | [], _, _ => rfl
  | _ :: _, 0, _ => rfl
  | _ :: r, i + 1, v => by
    show (put r i v).length + 1 = r.length + 1
    rw [put_length]
theorem look_lt : ∀ {Γ : Ctx} {i : Nat} {v : Val}, look Γ i = some v → i < Γ.length
  | [], _, _, h => by cases h
  | _ :: _, 0, _, _ => Nat.succ_pos _
  | _ :: r, i + 1, v, h => Nat.succ_lt_succ (look_lt (Γ := r) (i := i) (v := v) h)
theorem look_put {Γ : Ctx} {i j : Nat} {v : Option Val} {w : Val} (h : look (put Γ i v) j = some w) : (j = i ∧ v = some w) ∨ (j ≠ i ∧ look Γ j = some w) := by
  by_cases e : j = i
  · subst e
    have hl := look_lt h
    rw [put_length] at hl
    rw [look_put_same hl] at h
    exact .inl ⟨rfl, h⟩
  · rw [look_put_ne e] at h
    exact .inr ⟨e, h⟩
end Ac
namespace Ac
open PySem PySem.Spec PyProof.Rows L2
variable {rm : RM} {fx : Fx rm} {σ : L2.St} {H F : Hp} {Γ : Ctx} {s : rm.S} {A : rm.A}

/-! ### the state's lemmas -/
theorem upd_sub {H : Hp} {p : Addr} {o : HO} (h : H p = none) : Sub H (upd H p o) := fun a u e => by
  rw [upd_ne (ne_of_none e h)]
  exact e
theorem SR.alloc (R : SR fx σ H Γ s F A) {p : Addr} {o : HO} (hp : H p = none) : SR fx σ (upd H p o) Γ s F A where
  fh := fun a u e => upd_sub hp a u (R.fh a u e)
  fz := R.fz
  f0 := R.f0
  lk := fun a u e => ⟨upd_sub hp a u (R.lk a u e).1, (R.lk a u e).2⟩
  a0 := R.a0
  ok := rm.frame R.ok fun q hq => upd_ne fun e => rm.ex R.ok hq (by rw [e]; exact hp)
  ln := R.ln
  sl := fun i v e => by
    obtain ⟨x, h1, h2⟩ := R.sl i v e
    refine ⟨x, h1, ?_⟩
    cases v with
    | dat d => exact h2
    | own xs =>
      obtain ⟨a, vs, e1, e2, e3⟩ := h2
      exact ⟨a, vs, e1, upd_sub hp _ _ e2, e3⟩
    | new xs => exact h2
    | hdl k => exact h2
  dj := R.dj
theorem SR.hx (R : SR fx σ H Γ s F A) {p : Addr} {o : HO} (hp : H p = none) : HX H A (upd H p o) A := ⟨rm.le_refl A, fun a u e n => ⟨upd_sub hp a u e, n⟩⟩
theorem SR.nft (R : SR fx σ H Γ s F A) {p : Addr} (hp : H p = none) : ¬ rm.ft A p := fun h => rm.ex R.ok h hp
theorem SR.nF (R : SR fx σ H Γ s F A) {p : Addr} (hp : H p = none) : F p = none := by
  cases e : F p with
  | none => rfl
  | some o => rw [R.fh p o e] at hp; cases hp
theorem SR.nL (R : SR fx σ H Γ s F A) {p : Addr} (hp : H p = none) : fx.L p = none := by
  cases e : fx.L p with
  | none => rfl
  | some o => rw [(R.lk p o e).1] at hp; cases hp
/-- nothing of one's own at a place -/
def NoOwn (σ : L2.St) (Γ : Ctx) (p : Addr) : Prop := ∀ i ys, look Γ i = some (.own ys) → σ[i]? ≠ some (some (V.ref p))
theorem SR.noOwn (R : SR fx σ H Γ s F A) {p : Addr} (hp : H p = none) : NoOwn σ Γ p := fun i ys e z => by
  obtain ⟨x, h1, a, vs, e1, e2, _⟩ := R.sl i _ e
  rw [z] at h1
  cases h1
  cases e1
  rw [hp] at e2
  cases e2
/-- a thing is handed over to what stays -/
theorem SR.frz (R : SR fx σ H Γ s F A) {p : Addr} {o : HO} (hp : H p = some o) (hf : F p = none) (hz : ¬ rm.ft A p) (hl : fx.L p = none) (no : NoOwn σ Γ p) : SR fx σ H Γ s (upd F p o) A where
  fh := fun a u e => by
    by_cases h : a = p
    · subst h; rw [upd_same] at e; cases e; exact hp
    · rw [upd_ne h] at e; exact R.fh a u e
  fz := fun a u e => by
    by_cases h : a = p
    · subst h; exact hz
    · rw [upd_ne h] at e; exact R.fz a u e
  f0 := fun a u e => upd_sub hf a u (R.f0 a u e)
  lk := fun a u e => by
    have h : a ≠ p := fun z => by rw [z, hl] at e; cases e
    rw [upd_ne h]
    exact R.lk a u e
  a0 := R.a0
  ok := R.ok
  ln := R.ln
  sl := fun i v e => by
    obtain ⟨x, h1, h2⟩ := R.sl i v e
    refine ⟨x, h1, ?_⟩
    cases v with
    | dat d => exact Rp.mono (upd_sub hf) h2
    | own xs =>
      obtain ⟨a, vs, e1, e2, e3, e4, e5, e6⟩ := h2
      have h : a ≠ p := fun z => by rw [e1, z] at h1; exact no i xs e h1
      exact ⟨a, vs, e1, e2, by rw [upd_ne h]; exact e3, e4, e5, e6.mono (upd_sub hf)⟩
    | new xs => exact h2
    | hdl k => exact h2
  dj := R.dj
/-- a new thing that stays -/
theorem SR.lay (R : SR fx σ H Γ s F A) {p : Addr} {o : HO} (hp : H p = none) : SR fx σ (upd H p o) Γ s (upd F p o) A :=
  (R.alloc hp).frz upd_same (R.nF hp) (R.nft hp) (R.nL hp) (R.noOwn hp)
/-- a slot is stored -/
theorem SR.put (R : SR fx σ H Γ s F A) {i : Nat} {x : V} {v : Option Val} (h : ∀ w, v = some w → SV fx H F A x w)
    (hd : ∀ xs a, v = some (.own xs) → x = V.ref a → ∀ j ys, j ≠ i → look Γ j = some (.own ys) → σ[j]? ≠ some (some (V.ref a))) : SR fx (σ.set i (some x)) H (put Γ i v) s F A where
  fh := R.fh
  fz := R.fz
  f0 := R.f0
  lk := R.lk
  a0 := R.a0
  ok := R.ok
  ln := by rw [put_length, List.length_set]; exact R.ln
  sl := fun j w e => by
    rcases look_put e with ⟨rfl, rfl⟩ | ⟨ne, e'⟩
    · have hl := look_lt e
      rw [put_length, R.ln] at hl
      exact ⟨x, by rw [List.getElem?_set_self hl], h w rfl⟩
    · obtain ⟨y, h1, h2⟩ := R.sl j w e'
      exact ⟨y, by rw [List.getElem?_set_ne (Ne.symm ne)]; exact h1, h2⟩
  dj := fun j k a xs ys e1 e2 s1 s2 => by
    rcases look_put e1 with ⟨rfl, rfl⟩ | ⟨n1, e1'⟩
    · have hl := look_lt e1
      rw [put_length, R.ln] at hl
      rcases look_put e2 with ⟨rfl, _⟩ | ⟨n2, e2'⟩
      · rfl
      · rw [List.getElem?_set_self hl] at s1
        cases s1
        rw [List.getElem?_set_ne (Ne.symm n2)] at s2
        exact absurd s2 (hd xs a rfl rfl k ys n2 e2')
    · rcases look_put e2 with ⟨rfl, rfl⟩ | ⟨n2, e2'⟩
      · have hl := look_lt e2
        rw [put_length, R.ln] at hl
        rw [List.getElem?_set_self hl] at s2
        cases s2
        rw [List.getElem?_set_ne (Ne.symm n1)] at s1
        exact absurd s1 (hd ys a rfl rfl j xs n1 e1')
      · rw [List.getElem?_set_ne (Ne.symm n1)] at s1
        rw [List.getElem?_set_ne (Ne.symm n2)] at s2
        exact R.dj j k a xs ys e1' e2' s1 s2
theorem SR.putD (R : SR fx σ H Γ s F A) {i : Nat} {x : V} {d : D} (h : Rp F x d) : SR fx (σ.set i (some x)) H (Ac.put Γ i (some (.dat d))) s F A :=
  R.put (fun w e => by cases e; exact h) (fun xs a e => nomatch e)
theorem SR.putH (R : SR fx σ H Γ s F A) {i : Nat} {x : V} {k : Nat} (h : rm.hd A k x) : SR fx (σ.set i (some x)) H (Ac.put Γ i (some (.hdl k))) s F A :=
  R.put (fun w e => by cases e; exact h) (fun xs a e => nomatch e)
theorem SR.putN (R : SR fx σ H Γ s F A) {i : Nat} {x : V} : SR fx (σ.set i (some x)) H (Ac.put Γ i none) s F A :=
  R.put (fun w e => nomatch e) (fun xs a e => nomatch e)
/-- a value goes to a slot -/
theorem SR.putV (R : SR fx σ H Γ s F A) {i : Nat} {x : V} {v : Val} (h : RV fx σ H F A Γ x v) : SR fx (σ.set i (some x)) H (Ac.put Γ i (slotV v)) s F A := by
  cases v with
  | dat d => exact R.putD h
  | own xs => exact h.elim
  | new xs =>
    obtain ⟨p, vs, e1, e2, e3, e4, e5, e6, e7⟩ := h
    exact R.put (fun w e => by cases e; exact ⟨p, vs, e1, e2, e3, e4, e5, e6⟩) (fun ys a e ea j zs ne ej => by rw [e1] at ea; cases ea; exact e7 j zs ej)
  | hdl k => exact R.putH h
/-- a name is forgotten -/
theorem SR.drop (R : SR fx σ H Γ s F A) {i : Nat} : SR fx σ H (Ac.put Γ i none) s F A where
  fh := R.fh
  fz := R.fz
  f0 := R.f0
  lk := R.lk
  a0 := R.a0
  ok := R.ok
  ln := by rw [put_length]; exact R.ln
  sl := fun j w e => by
    rcases look_put e with ⟨_, z⟩ | ⟨_, e'⟩
    · cases z
    · exact R.sl j w e'
  dj := fun j k a xs ys e1 e2 s1 s2 => by
    rcases look_put e1 with ⟨_, z⟩ | ⟨_, e1'⟩
    · cases z
    · rcases look_put e2 with ⟨_, z⟩ | ⟨_, e2'⟩
      · cases z
      · exact R.dj j k a xs ys e1' e2' s1 s2
theorem put_look : ∀ {Γ : Ctx} {i : Nat} {v : Option Val}, look Γ i = v → put Γ i v = Γ ∨ v = none
  | [], _, _, _ => .inl rfl
  | w :: r, 0, v, h => by
    cases v with
    | none => exact .inr rfl
    | some v =>
      left
      show some v :: r = w :: r
      have : w = some v := h
      rw [this]
  | w :: r, i + 1, v, h => by
    rcases put_look (Γ := r) (i := i) (v := v) h with e | e
    · left
      show w :: put r i v = w :: r
      rw [e]
    · exact .inr e
/-- a slot's list is handed over to what stays -/
theorem SR.frzOwn (R : SR fx σ H Γ s F A) {i : Nat} {xs : List D} (h : look Γ i = some (.own xs)) : ∃ a vs, σ[i]? = some (some (V.ref a)) ∧ H a = some (.lst vs) ∧ F a = none ∧ RpL F vs xs ∧ SR fx σ H (Ac.put Γ i (some (.dat (.list xs)))) s (upd F a (.lst vs)) A := by
  obtain ⟨x, h1, a, vs, rfl, e2, e3, e4, e5, e6⟩ := R.sl i _ h
  have no : NoOwn σ (Ac.put Γ i none) a := fun j ys ej z => by
    rcases look_put ej with ⟨_, q⟩ | ⟨ne, ej'⟩
    · cases q
    · exact ne (R.dj j i a ys xs ej' h z h1)
  have R2 := (R.drop (i := i)).frz e2 e3 e4 e5 no
  refine ⟨a, vs, h1, e2, e3, e6, ?_⟩
  have hl := look_lt h
  refine { fh := R2.fh, fz := R2.fz, f0 := R2.f0, lk := R2.lk, a0 := R2.a0, ok := R2.ok, ln := by rw [put_length]; exact R.ln, sl := fun j w e => ?_, dj := fun j k b ys zs e1 e2' s1 s2 => ?_ }
  · rcases look_put e with ⟨rfl, z⟩ | ⟨ne, e'⟩
    · cases z
      exact ⟨_, h1, .lst (.inl upd_same) (e6.mono (upd_sub e3))⟩
    · exact R2.sl j w (by rw [look_put_ne ne]; exact e')
  · rcases look_put e1 with ⟨_, z⟩ | ⟨n1, e1'⟩
    · cases z
    · rcases look_put e2' with ⟨_, z⟩ | ⟨n2, e2''⟩
      · cases z
      · exact R.dj j k b ys zs e1' e2'' s1 s2
/-- a value, made to stay -/
theorem SR.stay (R : SR fx σ H Γ s F A) {x : V} {v : Val} {k : D → Prop} (h : RV fx σ H F A Γ x v) (hk : asD v k) : ∃ d F', k d ∧ SR fx σ H Γ s F' A ∧ Sub F F' ∧ Rp F' x d := by
  cases v with
  | dat d => exact ⟨d, F, hk, R, Sub.refl F, h⟩
  | own xs => exact h.elim
  | new xs =>
    obtain ⟨p, vs, rfl, e2, e3, e4, e5, e6, e7⟩ := h
    exact ⟨_, upd F p (.lst vs), hk, R.frz e2 e3 e4 e5 e7, upd_sub e3, .lst (.inl upd_same) (e6.mono (upd_sub e3))⟩
  | hdl k' => exact hk.elim

/-! ### monotony -/
section
variable {S : Type}
theorem ite_mono {c : Bool} {P P' R R' : Prop} (h1 : P → P') (h2 : R → R') (q : if c = true then P else R) : if c = true then P' else R' := by
  cases c with
  | true => rw [if_pos rfl] at q ⊢; exact h1 q
  | false => rw [if_neg Bool.false_ne_true] at q ⊢; exact h2 q
theorem asD_mono {v : Val} {k k' : D → Prop} (h : ∀ d, k d → k' d) (q : asD v k) : asD v k' := by
  cases v with
  | dat d => exact h _ q
  | new xs => exact h _ q
  | own xs => exact q
  | hdl n => exact q
theorem boolD_mono {d : D} {k k' : Bool → Prop} (h : ∀ b, k b → k' b) (q : boolD d k) : boolD d k' := by
  cases d <;> first | exact h _ q | exact q.elim
theorem rdO_mono {v : Option Val} {k k' : D → Prop} (h : ∀ d, k d → k' d) (q : rdO v k) : rdO v k' := by
  cases v with
  | none => exact q
  | some v =>
    cases v with
    | dat d => exact h _ q
    | new xs => exact q
    | own xs => exact h _ q
    | hdl n => exact q
theorem opn_mono {a : E S} {wa : Ctx → S → (Val → Ctx → S → Prop) → Prop} (hw : ∀ (Γ : Ctx) (s : S) (Q Q' : Val → Ctx → S → Prop), (∀ v Γ' s', Q v Γ' s' → Q' v Γ' s') → wa Γ s Q → wa Γ s Q') {Γ : Ctx} {s : S} {Q Q' : D → Ctx → S → Prop}
    (h : ∀ d Γ' s', Q d Γ' s' → Q' d Γ' s') (q : opn a wa Γ s Q) : opn a wa Γ s Q' := by
  cases a with
  | var i => exact rdO_mono (fun d => h d Γ s) q
  | _ => exact hw _ _ _ _ (fun v Γ' s' q' => asD_mono (fun d => h d Γ' s') q') q
theorem ixD_mono {xs : List D} {i : Int} {k k' : D → Prop} (h : ∀ d, k d → k' d) (q : ixD xs i k) : ixD xs i k' := by
  unfold ixD at q ⊢
  split at q
  · exact h _ q
  · exact q.elim
theorem negX_mono {d : D} {k k' : Val → Prop} (h : ∀ v, k v → k' v) (q : negX d k) : negX d k' := by
  unfold negX at q ⊢
  split at q <;> first | exact h _ q | exact q.elim
theorem ixX_mono {x y : D} {k k' : D → Prop} (h : ∀ v, k v → k' v) (q : ixX x y k) : ixX x y k' := by
  unfold ixX at q ⊢
  split at q <;> first | exact ixD_mono h q | exact q.elim
theorem slX_mono {d : D} {l r : Option Int} {k k' : Val → Prop} (h : ∀ v, k v → k' v) (q : slX d l r k) : slX d l r k' := by
  unfold slX at q ⊢
  split at q <;> first | exact h _ q | exact q.elim
theorem rvX_mono {d : D} {k k' : Val → Prop} (h : ∀ v, k v → k' v) (q : rvX d k) : rvX d k' := by
  unfold rvX at q ⊢
  split at q <;> first | exact h _ q | exact q.elim
theorem repX_mono {ds : List D} {d : D} {k k' : Val → Prop} (h : ∀ v, k v → k' v) (q : repX ds d k) : repX ds d k' := by
  unfold repX at q ⊢
  split at q <;> first | exact ⟨q.1, h _ q.2⟩ | exact q.elim
theorem intX_mono {d : D} {k k' : Int → Prop} (h : ∀ v, k v → k' v) (q : intX d k) : intX d k' := by
  unfold intX at q ⊢
  split at q <;> first | exact h _ q | exact q.elim
theorem seqD_mono {d : D} {k k' : List D → Prop} (h : ∀ v, k v → k' v) (q : seqD d k) : seqD d k' := by
  unfold seqD at q ⊢
  split at q <;> first | exact h _ q | exact q.elim
theorem lstD_mono {d : D} {k k' : List D → Prop} (h : ∀ v, k v → k' v) (q : lstD d k) : lstD d k' := by
  unfold lstD at q ⊢
  split at q <;> first | exact h _ q | exact q.elim
theorem addD_mono {x y : D} {k k' : Val → Prop} (h : ∀ d, k d → k' d) (q : addD x y k) : addD x y k' := by
  unfold addD at q ⊢
  split at q <;> first | exact h _ q | exact ⟨q.1, h _ q.2⟩ | exact q.elim
theorem intD_mono {C : Int → Int → Prop} {f : Int → Int → Int} {x y : D} {k k' : Val → Prop} (h : ∀ d, k d → k' d) (q : intD C f x y k) : intD C f x y k' := by
  unfold intD at q ⊢
  split at q <;> first | exact ⟨q.1, h _ q.2⟩ | exact q.elim
theorem subD_mono {x y : D} {k k' : Val → Prop} (h : ∀ d, k d → k' d) (q : subD x y k) : subD x y k' := by
  unfold subD at q ⊢
  split at q <;> first | exact h _ q | exact q.elim
theorem opD_mono {o : Operator} {x y : D} {k k' : Val → Prop} (h : ∀ d, k d → k' d) (q : opD o x y k) : opD o x y k' := by
  cases o <;> first | exact addD_mono h q | exact subD_mono h q | exact intD_mono h q | exact False.elim q
theorem eqD_mono {x y : D} {k k' : Bool → Prop} (h : ∀ d, k d → k' d) (q : eqD x y k) : eqD x y k' := by
  unfold eqD at q ⊢
  split at q <;> first | exact h _ q | exact ⟨q.1, q.2.1, h _ q.2.2⟩
theorem relD_mono {f : Int → Int → Bool} {x y : D} {k k' : Val → Prop} (h : ∀ d, k d → k' d) (q : relD f x y k) : relD f x y k' := by
  unfold relD at q ⊢
  split at q <;> first | exact h _ q | exact q.elim
theorem memD_mono {f : Bool} {x y : D} {k k' : Val → Prop} (h : ∀ d, k d → k' d) (q : memD f x y k) : memD f x y k' := by
  unfold memD at q ⊢
  split at q <;> first | exact ⟨q.1, q.2.1, h _ q.2.2⟩ | exact q.elim (fun z => .inl ⟨z.1, z.2.1, h _ z.2.2⟩) (fun z => .inr ⟨z.1, z.2.1, z.2.2.1, h _ z.2.2.2⟩) | exact False.elim q
theorem cmpD_mono {o : CmpOp} {x y : D} {k k' : Val → Prop} (h : ∀ d, k d → k' d) (q : cmpD o x y k) : cmpD o x y k' := by
  cases o <;> first | exact eqD_mono (x := x) (y := y) (k := fun b => k (.dat (.bool b))) (k' := fun b => k' (.dat (.bool b))) (fun b => h _) q | exact eqD_mono (x := x) (y := y) (k := fun b => k (.dat (.bool (!b)))) (k' := fun b => k' (.dat (.bool (!b)))) (fun b => h _) q | exact relD_mono h q | exact memD_mono h q | exact False.elim q
theorem biD_mono {b : BI} {ds : List D} {k k' : Val → Prop} (h : ∀ d, k d → k' d) (q : biD b ds k) : biD b ds k' := by
  cases b <;> dsimp only [biD] at q ⊢
  case len => unfold lenD at q ⊢; split at q <;> first | exact h _ q | exact ⟨q.1, h _ q.2⟩ | exact q.elim
  case min2 => unfold int2D at q ⊢; split at q <;> first | exact h _ q | exact q.elim
  case max2 => unfold int2D at q ⊢; split at q <;> first | exact h _ q | exact q.elim
  case minL => unfold minLD at q ⊢; split at q <;> first | (obtain ⟨ns, e1, e2, e3⟩ := q; exact ⟨ns, e1, e2, fun m a b => h _ (e3 m a b)⟩) | exact q.elim
  case maxL => unfold maxLD at q ⊢; split at q <;> first | (obtain ⟨ns, e1, e2, e3⟩ := q; exact ⟨ns, e1, e2, fun m a b => h _ (e3 m a b)⟩) | exact q.elim
  case sum => unfold sumD at q ⊢; split at q <;> first | (obtain ⟨ns, e1, e2⟩ := q; exact ⟨ns, e1, h _ e2⟩) | exact q.elim
  case sorted => unfold sortedD at q ⊢; split at q <;> first | (obtain ⟨ns, e1, e2⟩ := q; exact ⟨ns, e1, fun m a b => h _ (e2 m a b)⟩) | exact q.elim
  case list => unfold listD at q ⊢; split at q <;> first | exact h _ q | exact q.elim
  case tuple => unfold tupleD at q ⊢; split at q <;> first | exact h _ q | exact q.elim
  case abs => unfold absD at q ⊢; split at q <;> first | exact h _ q | exact q.elim
  case int => unfold toIntD at q ⊢; split at q <;> first | exact h _ q | exact q.elim
  case str => unfold toStrD at q ⊢; split at q <;> first | exact ⟨q.1, h _ q.2⟩ | exact q.elim
  case sortP => unfold sortPD at q ⊢; split at q <;> first | (obtain ⟨ns, e1, e2⟩ := q; exact ⟨ns, e1, fun m a b => h _ (e2 m a b)⟩) | exact q.elim
  case repr => unfold reprD at q ⊢; split at q <;> first | exact ⟨q.1, h _ q.2⟩ | exact q.elim
  case dictP => unfold dictPD at q ⊢; split at q <;> first | (obtain ⟨ns, e1, e2⟩ := q; exact ⟨ns, e1, fun m a b => h _ (e2 m a b)⟩) | exact q.elim
  all_goals (unfold isD at q ⊢; split at q <;> first | exact h _ q | exact q.elim)
theorem keyD_mono {d : D} {k k' : Key → Prop} (h : ∀ b, k b → k' b) (q : keyD d k) : keyD d k' := by
  cases d <;> first | exact h _ q | exact q.elim
theorem mtD_mono {m : MT} {x : D} {ds : List D} {k k' : Val → Prop} (h : ∀ d, k d → k' d) (q : mtD m x ds k) : mtD m x ds k' := by
  cases m
  dsimp only [mtD] at q ⊢
  unfold indexD at q ⊢
  split at q
  · obtain ⟨ns, e, q⟩ := q
    refine ⟨ns, e, ?_⟩
    split at q
    · rename_i j ej
      exact h _ q
    · exact q.elim
  · exact q.elim
theorem srtSX_mono {d : D} {k k' : Val → Prop} (h : ∀ v, k v → k' v) (q : srtSX d k) : srtSX d k' := by
  unfold srtSX at q ⊢
  split at q <;> first | (obtain ⟨ns, e1, e2, e3, e4⟩ := q; exact ⟨ns, e1, e2, e3, fun m a b => h _ (e4 m a b)⟩) | exact q.elim
theorem lenSX_mono {d : D} {k k' : Val → Prop} (h : ∀ v, k v → k' v) (q : lenSX d k) : lenSX d k' := by
  unfold lenSX at q ⊢
  split at q <;> first | (obtain ⟨ns, e1, e2, e4⟩ := q; exact ⟨ns, e1, e2, fun m a b => h _ (e4 m a b)⟩) | exact q.elim
theorem rngD_mono {ds : List D} {k k' : List D → Prop} (h : ∀ d, k d → k' d) (q : rngD ds k) : rngD ds k' := by
  unfold rngD at q ⊢
  split at q <;> first | exact ⟨q.1, h _ q.2⟩ | exact ⟨q.1, q.2.1, h _ q.2.2⟩ | exact q.elim
theorem putAll_mono {k k' : Ctx → Prop} (h : ∀ d, k d → k' d) : ∀ {is : List Nat} {ds : List D} {Γ : Ctx}, putAll is ds Γ k → putAll is ds Γ k'
  | [], [], _, q => h _ q
  | [], _ :: _, _, q => q.elim
  | _ :: _, [], _, q => q.elim
  | _ :: is, _ :: ds, _, q => putAll_mono h (is := is) (ds := ds) q
theorem bindT_mono {tg : Tg} {x : D} {Γ : Ctx} {k k' : Ctx → Prop} (h : ∀ d, k d → k' d) (q : bindT tg x Γ k) : bindT tg x Γ k' := by
  unfold bindT at q ⊢
  split at q <;> first | exact h _ q | exact putAll_mono h q | exact q.elim
theorem cLoop_mono {f : D → Ctx → S → (Option D → Ctx → S → Prop) → Prop} (hf : ∀ (x : D) (Γ : Ctx) (s : S) (k k' : Option D → Ctx → S → Prop), (∀ o Γ' s', k o Γ' s' → k' o Γ' s') → f x Γ s k → f x Γ s k')
    {k k' : List D → Ctx → S → Prop} (h : ∀ o Γ' s', k o Γ' s' → k' o Γ' s') : ∀ {xs : List D} {Γ : Ctx} {s : S} {acc : List D}, cLoop f xs Γ s acc k → cLoop f xs Γ s acc k'
  | [], _, _, _, q => h _ _ _ q
  | x :: r, Γ, s, acc, q => hf _ _ _ _ _ (fun o Γ' s' q' => cLoop_mono hf h (xs := r) q') q
theorem popW_mono {i : Nat} {Γ : Ctx} {o : (D → Ctx → S → Prop) → Prop} {Q Q' : Val → Ctx → S → Prop} (ho : ∀ k k', (∀ d Γ' s', k d Γ' s' → k' d Γ' s') → o k → o k') (h : ∀ v Γ' s', Q v Γ' s' → Q' v Γ' s') (q : popW i Γ o Q) : popW i Γ o Q' := by
  unfold popW at q ⊢
  split at q
  · refine ho _ _ (fun x Γ1 s1 q => ?_) q
    split at q
    · split at q
      · exact ⟨q.1, h _ _ _ q.2⟩
      · exact q.elim
    · exact q.elim
  · exact q.elim
theorem isCW_mono {ns : List Nat} {o : Option Val} {k k' : Bool → Prop} (h : ∀ b, k b → k' b) (q : isCW ns o k) : isCW ns o k' := by
  unfold isCW at q ⊢
  split at q <;> first | exact ⟨q.1, h _ q.2⟩ | exact q.elim
mutual
theorem wE_mono : ∀ {xc : Nat → Ctx → S → Prop} (c : E S) {Γ : Ctx} {s : S} {Q Q' : Val → Ctx → S → Prop}, (∀ v Γ' s', Q v Γ' s' → Q' v Γ' s') → wE xc c Γ s Q → wE xc c Γ s Q'
  | xc, .var i, Γ, s, Q, Q', h, q => by
    unfold wE at q ⊢
    split at q <;> first | exact h _ _ _ q | exact q.elim
  | xc, .non, _, _, _, _, h, q => by unfold wE at q ⊢; exact h _ _ _ q
  | xc, .bl _, _, _, _, _, h, q => by unfold wE at q ⊢; exact h _ _ _ q
  | xc, .int _, _, _, _, _, h, q => by unfold wE at q ⊢; exact h _ _ _ q
  | xc, .str _, _, _, _, _, h, q => by unfold wE at q ⊢; exact h _ _ _ q
  | xc, .glb _ _, _, _, _, _, h, q => by unfold wE at q ⊢; exact h _ _ _ q
  | xc, .op o a b, _, _, _, _, h, q => by
    unfold wE at q ⊢
    exact opn_mono (wa := wE xc a) (fun _ _ _ _ => wE_mono a) (fun x Γ1 s1 => opn_mono (wa := wE xc b) (fun _ _ _ _ => wE_mono b) fun y Γ2 s2 => opD_mono fun v => h v Γ2 s2) q
  | xc, .neg a, _, _, _, _, h, q => by
    unfold wE at q ⊢
    exact opn_mono (wa := wE xc a) (fun _ _ _ _ => wE_mono a) (fun x Γ1 s1 => negX_mono fun v => h v Γ1 s1) q
  | xc, .nt a, _, _, _, _, h, q => by
    unfold wE at q ⊢
    exact opn_mono (wa := wE xc a) (fun _ _ _ _ => wE_mono a) (fun x Γ1 s1 => boolD_mono fun b => h _ _ _) q
  | xc, .an a b, _, _, _, _, h, q => by
    unfold wE at q ⊢
    exact opn_mono (wa := wE xc a) (fun _ _ _ _ => wE_mono a) (fun x Γ1 s1 => boolD_mono fun c => ite_mono (opn_mono (wa := wE xc b) (fun _ _ _ _ => wE_mono b) (fun y Γ2 s2 => boolD_mono fun d => h _ _ _)) (h _ _ _)) q
  | xc, .or a b, _, _, _, _, h, q => by
    unfold wE at q ⊢
    exact opn_mono (wa := wE xc a) (fun _ _ _ _ => wE_mono a) (fun x Γ1 s1 => boolD_mono fun c => ite_mono (h _ _ _) (opn_mono (wa := wE xc b) (fun _ _ _ _ => wE_mono b) (fun y Γ2 s2 => boolD_mono fun d => h _ _ _))) q
  | xc, .cmp o a b, _, _, _, _, h, q => by
    unfold wE at q ⊢
    exact opn_mono (wa := wE xc a) (fun _ _ _ _ => wE_mono a) (fun x Γ1 s1 => opn_mono (wa := wE xc b) (fun _ _ _ _ => wE_mono b) fun y Γ2 s2 => cmpD_mono fun v => h v Γ2 s2) q
  | xc, .ch o o' a b c, _, _, _, _, h, q => by
    unfold wE at q ⊢
    exact opn_mono (wa := wE xc a) (fun _ _ _ _ => wE_mono a) (fun x Γ1 s1 => opn_mono (wa := wE xc b) (fun _ _ _ _ => wE_mono b) (fun y Γ2 s2 => cmpD_mono fun v => asD_mono fun d => boolD_mono fun k => ite_mono (opn_mono (wa := wE xc c) (fun _ _ _ _ => wE_mono c) (fun z Γ3 s3 => cmpD_mono fun v => h v Γ3 s3)) (h _ _ _))) q
  | xc, .isn p a, _, _, _, _, h, q => by
    unfold wE at q ⊢
    exact opn_mono (wa := wE xc a) (fun _ _ _ _ => wE_mono a) (fun x Γ1 s1 q => h _ _ _ q) q
  | xc, .isb p b a, _, _, _, _, h, q => by
    unfold wE at q ⊢
    exact opn_mono (wa := wE xc a) (fun _ _ _ _ => wE_mono a) (fun x Γ1 s1 => boolD_mono fun b => h _ _ _) q
  | xc, .ix a b, _, _, _, _, h, q => by
    unfold wE at q ⊢
    exact opn_mono (wa := wE xc a) (fun _ _ _ _ => wE_mono a) (fun x Γ1 s1 => opn_mono (wa := wE xc b) (fun _ _ _ _ => wE_mono b) fun y Γ2 s2 => ixX_mono fun d => h _ Γ2 s2) q
  | xc, .sl a lo hi, _, _, _, _, h, q => by
    unfold wE at q ⊢
    exact opn_mono (wa := wE xc a) (fun _ _ _ _ => wE_mono a) (fun x Γ1 s1 => wP_mono lo fun l Γ2 s2 => wP_mono hi fun l2 Γ3 s3 => slX_mono fun v => h v Γ3 s3) q
  | xc, .rv a, _, _, _, _, h, q => by
    unfold wE at q ⊢
    exact opn_mono (wa := wE xc a) (fun _ _ _ _ => wE_mono a) (fun x Γ1 s1 => rvX_mono fun v => h v Γ1 s1) q
  | xc, .ls es, _, _, _, _, h, q => by
    unfold wE at q ⊢
    exact wX_mono es (fun ds Γ1 s1 q => ⟨q.1, h _ _ _ q.2⟩) q
  | xc, .tp es, _, _, _, _, h, q => by
    unfold wE at q ⊢
    exact wX_mono es (fun ds Γ1 s1 q => ⟨q.1, h _ _ _ q.2⟩) q
  | xc, .rep es b, _, _, _, _, h, q => by
    unfold wE at q ⊢
    exact wX_mono es (fun ds Γ1 s1 q => ⟨q.1, opn_mono (wa := wE xc b) (fun _ _ _ _ => wE_mono b) (fun x Γ1 s1 => repX_mono fun v => h v Γ1 s1) q.2⟩) q
  | xc, .comp own tg it c e, _, _, _, _, h, q => by
    unfold wE at q ⊢
    refine wI_mono it (fun xs Γ1 s1 q => ⟨q.1, ?_⟩) q
    refine cLoop_mono ?_ (fun ys Γ' s' => h (.new ys) (backG Γ1 own Γ') s') q.2
    intro x Γ s k k' hk
    exact bindT_mono fun Γ' => wC_mono c fun b Γ2 s2 q => ite_mono (wE_mono e (fun v Γ3 s3 => asD_mono fun d => hk _ _ _)) (hk _ _ _) q
  | xc, .call _ φ es, _, _, _, _, h, q => by
    unfold wE at q ⊢
    exact wA_mono es (fun ds Γ1 s1 q => ⟨q.1, φ.mono (fun v q => h _ _ _ q) (fun _ z => z) q.2⟩) q
  | xc, .cal0 _ φ, _, _, _, _, h, q => by
    unfold wE at q ⊢
    exact φ.mono (fun v q => h _ _ _ q) (fun _ z => z) q
  | xc, .calE _ φ es, _, _, _, _, h, q => by
    unfold wE at q ⊢
    exact wV_mono es (fun ds Γ1 s1 => φ.mono (fun v s2 => h v Γ1 s2) (fun _ _ z => z)) q
  | xc, .bi b es, _, _, _, _, h, q => by
    unfold wE at q ⊢
    exact wA_mono es (fun ds Γ1 s1 => biD_mono fun v => h v Γ1 s1) q
  | xc, .mt m a es, _, _, _, _, h, q => by
    unfold wE at q ⊢
    exact opn_mono (wa := wE xc a) (fun _ _ _ _ => wE_mono a) (fun x Γ1 s1 => lstD_mono fun _ => wA_mono es fun ds Γ2 s2 => mtD_mono fun v => h v Γ2 s2) q
  | xc, .pop i a, _, _, _, _, h, q => by
    unfold wE at q ⊢
    exact popW_mono (fun k k' hk => opn_mono (wa := wE xc a) (fun _ _ _ _ => wE_mono a) hk) h q
  | xc, .d0, _, _, _, _, h, q => by unfold wE at q ⊢; exact h _ _ _ q
  | xc, .d1 k v, _, _, _, _, h, q => by
    unfold wE at q ⊢
    exact opn_mono (wa := wE xc k) (fun _ _ _ _ => wE_mono k) (fun x Γ1 s1 => wE_mono v fun w Γ2 s2 => asD_mono fun d => keyD_mono fun _ => h _ _ _) q
  | xc, .compM own tg it i a, _, _, _, _, h, q => by
    unfold wE at q ⊢
    refine wJ_mono it (fun xs Γ1 s1 q => ⟨q.1, ?_⟩) q
    refine cLoop_mono ?_ (fun ys Γ' s' => h (.new ys) (backG Γ1 own Γ') s') q.2
    intro x Γ s k k' hk
    exact bindT_mono fun Γ' => popW_mono (fun k k' hk => opn_mono (wa := wE xn a) (fun _ _ _ _ => wE_mono a) hk) fun v Γ3 s3 => asD_mono fun d => hk _ _ _
  | xc, .srtS a, _, _, _, _, h, q => by
    unfold wE at q ⊢
    exact opn_mono (wa := wE xc a) (fun _ _ _ _ => wE_mono a) (fun x Γ1 s1 => srtSX_mono fun v => h v Γ1 s1) q
  | xc, .lenS a, _, _, _, _, h, q => by
    unfold wE at q ⊢
    exact opn_mono (wa := wE xc a) (fun _ _ _ _ => wE_mono a) (fun x Γ1 s1 => lenSX_mono fun v => h v Γ1 s1) q
  | xc, .lr es, _, _, _, _, h, q => by
    unfold wE at q ⊢
    exact wA_mono es (fun ds Γ1 s1 => rngD_mono fun xs q => ⟨q.1, h _ _ _ q.2⟩) q
  | xc, .callT _ φ i j k, _, _, _, _, h, q => by
    unfold wE at q ⊢
    exact rdO_mono (fun a => rdO_mono fun b => rdO_mono fun c => φ.mono (fun v q => ⟨q.1, h _ _ _ q.2⟩) fun _ z => z) q
  | xc, .isC i tp ns, _, _, _, _, h, q => by
    unfold wE at q ⊢
    exact isCW_mono (fun b => h _ _ _) q
  | xc, .isnH p a, _, _, _, _, h, q => by
    unfold wE at q ⊢
    exact wE_mono a (fun v Γ1 s1 q => h _ _ _ q) q
theorem wA_mono : ∀ {xc : Nat → Ctx → S → Prop} (c : Es S) {Γ : Ctx} {s : S} {Q Q' : List D → Ctx → S → Prop}, (∀ v Γ' s', Q v Γ' s' → Q' v Γ' s') → wA xc c Γ s Q → wA xc c Γ s Q'
  | xc, .nil, _, _, _, _, h, q => by unfold wA at q ⊢; exact h _ _ _ q
  | xc, .cons e r, _, _, _, _, h, q => by
    unfold wA at q ⊢
    exact opn_mono (wa := wE xc e) (fun _ _ _ _ => wE_mono e) (fun d Γ1 s1 => wA_mono r fun ds => h _) q
theorem wX_mono : ∀ {xc : Nat → Ctx → S → Prop} (c : Es S) {Γ : Ctx} {s : S} {Q Q' : List D → Ctx → S → Prop}, (∀ v Γ' s', Q v Γ' s' → Q' v Γ' s') → wX xc c Γ s Q → wX xc c Γ s Q'
  | xc, .nil, _, _, _, _, h, q => by unfold wX at q ⊢; exact h _ _ _ q
  | xc, .cons e r, _, _, _, _, h, q => by
    unfold wX at q ⊢
    exact wE_mono e (fun v Γ1 s1 => asD_mono fun d => wX_mono r fun ds => h _) q
theorem wV_mono : ∀ {xc : Nat → Ctx → S → Prop} (c : Es S) {Γ : Ctx} {s : S} {Q Q' : List Val → Ctx → S → Prop}, (∀ v Γ' s', Q v Γ' s' → Q' v Γ' s') → wV xc c Γ s Q → wV xc c Γ s Q'
  | xc, .nil, _, _, _, _, h, q => by unfold wV at q ⊢; exact h _ _ _ q
  | xc, .cons e r, _, _, _, _, h, q => by
    unfold wV at q ⊢
    refine wE_mono e (fun v Γ1 s1 q => ?_) q
    split at q <;> first | exact wV_mono r (fun vs => h _) q | exact q.elim
theorem wP_mono : ∀ {xc : Nat → Ctx → S → Prop} (c : Es S) {Γ : Ctx} {s : S} {Q Q' : Option Int → Ctx → S → Prop}, (∀ v Γ' s', Q v Γ' s' → Q' v Γ' s') → wP xc c Γ s Q → wP xc c Γ s Q'
  | xc, .nil, _, _, _, _, h, q => by unfold wP at q ⊢; exact h _ _ _ q
  | xc, .cons e _, _, _, _, _, h, q => by
    unfold wP at q ⊢
    exact opn_mono (wa := wE xc e) (fun _ _ _ _ => wE_mono e) (fun x Γ1 s1 => intX_mono fun i => h _ Γ1 s1) q
theorem wC_mono : ∀ {xc : Nat → Ctx → S → Prop} (c : Es S) {Γ : Ctx} {s : S} {Q Q' : Bool → Ctx → S → Prop}, (∀ v Γ' s', Q v Γ' s' → Q' v Γ' s') → wC xc c Γ s Q → wC xc c Γ s Q'
  | xc, .nil, _, _, _, _, h, q => by unfold wC at q ⊢; exact h _ _ _ q
  | xc, .cons e _, _, _, _, _, h, q => by
    unfold wC at q ⊢
    exact opn_mono (wa := wE xc e) (fun _ _ _ _ => wE_mono e) (fun x Γ1 s1 => boolD_mono fun b => h _ _ _) q
theorem wI_mono : ∀ {xc : Nat → Ctx → S → Prop} (c : It S) {Γ : Ctx} {s : S} {Q Q' : List D → Ctx → S → Prop}, (∀ v Γ' s', Q v Γ' s' → Q' v Γ' s') → wI xc c Γ s Q → wI xc c Γ s Q'
  | xc, .seq e, _, _, _, _, h, q => by
    unfold wI at q ⊢
    exact opn_mono (wa := wE xc e) (fun _ _ _ _ => wE_mono e) (fun x Γ1 s1 => seqD_mono fun xs => h _ Γ1 s1) q
  | xc, .rng es, _, _, _, _, h, q => by
    unfold wI at q ⊢
    exact wA_mono es (fun ds Γ1 s1 => rngD_mono fun xs => h _ _ _) q
  | xc, .enu e, _, _, _, _, h, q => by
    unfold wI at q ⊢
    exact opn_mono (wa := wE xc e) (fun _ _ _ _ => wE_mono e) (fun x Γ1 s1 => lstD_mono fun xs => h _ Γ1 s1) q
  | xc, .zip a b, _, _, _, _, h, q => by
    unfold wI at q ⊢
    exact opn_mono (wa := wE xc a) (fun _ _ _ _ => wE_mono a) (fun x Γ1 s1 => opn_mono (wa := wE xc b) (fun _ _ _ _ => wE_mono b) fun y Γ2 s2 => lstD_mono fun xs => lstD_mono fun ys => h _ Γ2 s2) q
theorem wJ_mono : ∀ {xc : Nat → Ctx → S → Prop} (c : It S) {Γ : Ctx} {s : S} {Q Q' : List D → Ctx → S → Prop}, (∀ v Γ' s', Q v Γ' s' → Q' v Γ' s') → wJ xc c Γ s Q → wJ xc c Γ s Q'
  | xc, .seq e, _, _, _, _, h, q => by
    unfold wJ at q ⊢
    exact wE_mono e (fun v Γ1 s1 => asD_mono fun d => seqD_mono fun xs => h _ Γ1 s1) q
  | xc, .rng es, _, _, _, _, h, q => by
    unfold wJ at q ⊢
    exact wA_mono es (fun ds Γ1 s1 => rngD_mono fun xs => h _ _ _) q
  | xc, .enu e, _, _, _, _, h, q => by
    unfold wJ at q ⊢
    exact wE_mono e (fun v Γ1 s1 => asD_mono fun d => lstD_mono fun xs => h _ Γ1 s1) q
  | xc, .zip a b, _, _, _, _, h, q => by
    unfold wJ at q ⊢
    exact wE_mono a (fun v Γ1 s1 => asD_mono fun x => wE_mono b fun w Γ2 s2 => asD_mono fun y => lstD_mono fun xs => lstD_mono fun ys => h _ Γ2 s2) q
end
theorem opnE_mono {xc : Nat → Ctx → S → Prop} (c : E S) {Γ : Ctx} {s : S} {Q Q' : D → Ctx → S → Prop} (h : ∀ v Γ' s', Q v Γ' s' → Q' v Γ' s') (q : opn c (wE xc c) Γ s Q) : opn c (wE xc c) Γ s Q' := opn_mono (wa := wE xc c) (fun _ _ _ _ => wE_mono c) h q
end
end Ac
namespace Ac
open PySem PySem.Spec PyProof.Rows L2
variable {rm : RM} {fx : Fx rm} {σ : L2.St} {H F : Hp} {Γ : Ctx} {s : rm.S} {A : rm.A} {X : Cx}

theorem big_sz {n : Nat} (h : n ≤ big) : n ≤ sizeLine := Nat.le_trans h (by unfold big; decide)
theorem big_lt {n : Nat} (h : n < big) : n < sizeLine := Nat.lt_of_lt_of_le h (by unfold big; decide)
/-- what an operation on values may give -/
def KQ (fx : Fx rm) (σ : L2.St) (H F : Hp) (A : rm.A) (Γ : Ctx) (s : rm.S) (Q : VK) : Val → Prop := fun v => ∀ z H' F', SR fx σ H' Γ s F' A → HX H A H' A → Sub F F' → RV fx σ H' F' A Γ z v → Q z H'
theorem KQ.dat {Q : VK} (R : SR fx σ H Γ s F A) {z : V} {d : D} (h : Rp F z d) (k : KQ fx σ H F A Γ s Q (.dat d)) : Q z H := k z H F R (HX.refl H A) (Sub.refl F) h
/-- a new list -/
theorem KQ.mk {Q : VK} (R : SR fx σ H Γ s F A) {p : Addr} (hp : H p = none) {vs : List V} {ds : List D} (h : RpL F vs ds) (k : KQ fx σ H F A Γ s Q (.new ds)) : Q (.ref p) (upd H p (.lst vs)) :=
  k _ _ F (R.alloc hp) (R.hx hp) (Sub.refl F) ⟨p, vs, rfl, upd_same, R.nF hp, R.nft hp, R.nL hp, h, R.noOwn hp⟩
theorem KQ.mkT {Q : VK} (R : SR fx σ H Γ s F A) {p : Addr} (hp : H p = none) {vs : List V} {ds : List D} (h : RpL F vs ds) (k : KQ fx σ H F A Γ s Q (.dat (.tuple ds))) : Q (.ref p) (upd H p (.tup vs)) :=
  k _ _ (upd F p (.tup vs)) (R.lay hp) (R.hx hp) (upd_sub (R.nF hp)) (.tup upd_same (h.mono (upd_sub (R.nF hp))))
/-- a rule for a two-place operation, over data -/
def Op2 (X : Cx) (f : Value → Value → Sem Value) (g : D → D → (Val → Prop) → Prop) : Prop :=
  ∃ r : R2, OpR X f r ∧ ∀ (rm : RM) (fx : Fx rm) (σ : L2.St) (H : Hp) (Γ : Ctx) (s : rm.S) (F : Hp) (A : rm.A) (x y : V) (d e : D) (Q : VK), SR fx σ H Γ s F A → Ro H F A x d → Ro H F A y e → g d e (KQ fx σ H F A Γ s Q) → r x y H Q
theorem flat_int {x : V} {i : Int} (h : Ro H F A x (.int i)) : x = .int i := by
  have := h.flat (fun ds e => nomatch e)
  cases this
  rfl
theorem flat_bool {x : V} {b : Bool} (h : Ro H F A x (.bool b)) : x = .bl b := by
  have := h.flat (fun ds e => nomatch e)
  cases this
  rfl
theorem flat_str {x : V} {b : Str} (h : Ro H F A x (.str b)) : x = .str b := by
  have := h.flat (fun ds e => nomatch e)
  cases this
  rfl
theorem flat_none {x : V} (h : Ro H F A x .none) : x = .non := by
  have := h.flat (fun ds e => nomatch e)
  cases this
  rfl
theorem Ro.tup {x : V} {ds : List D} (h : Ro H F A x (.tuple ds)) : ∃ a vs, x = V.ref a ∧ F a = some (.tup vs) ∧ RpL F vs ds := by
  have := h.flat (fun ds e => nomatch e)
  cases this with
  | tup h1 r => exact ⟨_, _, rfl, h1, r⟩
/-- two lists, one behind the other -/
def rCatR : R2 := fun x y H Q => ∃ l b xs zs, x = .ref l ∧ y = .ref b ∧ Rd H l (.lst xs) ∧ Rd H b (.lst zs) ∧ xs.length + zs.length ≤ sizeLine ∧ ∀ p, H p = none → Q (.ref p) (upd H p (.lst (xs ++ zs)))
theorem op_catR : OpR X (binaryOp .Add) rCatR := by
  intro pins s σ H x y v u Q I rx ry h
  obtain ⟨l, b, xs, zs, rfl, rfl, hH, hB, hz, q⟩ := h
  cases rx
  cases ry
  obtain ⟨z, its, n, r, e⟩ := hH.ok I.hok
  obtain ⟨z2, its2, n2, r2, e2⟩ := hB.ok I.hok
  refine PySem.P.add_list e e2 ?_ (by rw [List.size_toArray, List.size_toArray, ← r.length, ← r2.length]; omega)
  have ea : its.toArray ++ its2.toArray = (its ++ its2).toArray := by simp
  rw [ea]
  exact ⟨.ref _, _, I.lnew (t' := s.toks) (r.append r2) (by rw [List.length_append]; omega), rfl, q _ I.fresh⟩
theorem op2_add : Op2 X (binaryOp .Add) addD := by
  refine ⟨_, op_add.or (op_catR.or op_add_str), ?_⟩
  intro rm fx σ H Γ s F A x y d e Q R hx hy h
  unfold addD at h
  split at h
  · rename_i i j
    exact .inl ⟨i, j, flat_int hx, flat_int hy, KQ.dat R (.int _) h⟩
  · rename_i xs ys
    obtain ⟨a, vs, e1, h1, r1⟩ := hx.lst R.fh
    obtain ⟨b, ws, e2, h2, r2⟩ := hy.lst R.fh
    exact .inr (.inl ⟨a, b, vs, ws, e1, e2, h1, h2, by rw [r1.length, r2.length]; exact big_sz h.1, fun p hp => KQ.mk R hp (r1.append r2) h.2⟩)
  · rename_i i j
    exact .inr (.inr ⟨i, j, flat_str hx, flat_str hy, big_sz h.1, KQ.dat R (.str _) h.2⟩)
  · exact h.elim
theorem op2_sub : Op2 X (binaryOp .Sub) subD := by
  refine ⟨_, op_sub, ?_⟩
  intro rm fx σ H Γ s F A x y d e Q R hx hy h
  unfold subD at h
  split at h
  · exact ⟨_, _, flat_int hx, flat_int hy, KQ.dat R (.int _) h⟩
  · exact h.elim
theorem op2_int {f : Value → Value → Sem Value} {C C' : Int → Int → Prop} {g : Int → Int → Int} (hc : ∀ i j, C i j → C' i j) (ho : OpR X f (rI C' fun i j => .int (g i j))) : Op2 X f (intD C g) := by
  refine ⟨_, ho, ?_⟩
  intro rm fx σ H Γ s F A x y d e Q R hx hy h
  unfold intD at h
  split at h
  · exact ⟨_, _, flat_int hx, flat_int hy, hc _ _ h.1, KQ.dat R (.int _) h.2⟩
  · exact h.elim
theorem op2_no {f : Value → Value → Sem Value} : Op2 X f noD := ⟨fun _ _ _ _ => False, fun _ _ _ _ _ _ _ _ _ _ _ _ h => h.elim, fun _ _ _ _ _ _ _ _ _ _ _ _ _ _ _ _ h => h⟩
theorem op2_bin : ∀ o : Operator, Op2 X (binaryOp o) (opD o)
  | .Add => op2_add
  | .Sub => op2_sub
  | .Mult => op2_int (fun _ _ h => h) op_mul
  | .Mod => op2_int (fun _ _ h => h) op_mod
  | .FloorDiv => op2_int (fun _ _ h => h) op_fdiv
  | .Pow => op2_int (fun _ _ h => ⟨h.1, Int.le_trans h.2.1 (by decide), h.2.2⟩) op_pow
  | .MatMult => op2_no
  | .Div => op2_no
  | .LShift => op2_no
  | .RShift => op2_no
  | .BitOr => op2_no
  | .BitXor => op2_no
  | .BitAnd => op2_no

/-! ### comparisons -/
mutual
theorem Rp.dp {K : PySem.W.Frag} (fh : Sub F H) : ∀ {x : V} {d : D}, Rp F x d → d.canLay0 = true → Dp K H x d
  | _, _, .non, _ => .non
  | _, _, .bl b, _ => .bl b
  | _, _, .int i, _ => .int i
  | _, _, .str x, _ => .str x
  | _, _, .lst h r, c => .lst (.inl (fh.rd h)) (RpL.dp fh r (by simpa only [PyData.canLay0] using c))
  | _, _, .tup h r, c => .tup (.inl (.inl (fh _ _ h))) (RpL.dp fh r (by simpa only [PyData.canLay0] using c))
  | _, _, .dic _ _, c => by simp [PyData.canLay0] at c
theorem RpL.dp {K : PySem.W.Frag} (fh : Sub F H) : ∀ {x : List V} {d : List D}, RpL F x d → PyData.canLayAll0 d = true → DpAll K H x d
  | _, _, .nil, _ => .nil
  | _, _, .cons h r, c => by
    simp only [PyData.canLayAll0, Bool.and_eq_true] at c
    exact .cons (Rp.dp fh h c.1) (RpL.dp fh r c.2)
end
theorem Ro.dp {K : PySem.W.Frag} (fh : Sub F H) {x : V} {d : D} (h : Ro H F A x d) (c : SeqAt.shaped d = true) : Dp K H x d := by
  have c0 := SeqAt.canLay_of_shaped c
  rcases h with h | ⟨a, vs, ds, rfl, rfl, e3, _, e5⟩
  · exact h.dp fh c0
  · exact .lst (.inl (.inl e3)) (e5.dp fh (by simpa only [PyData.canLay0] using c0))
/-- a list that holds something, and [] -/
def rEqN (neg : Bool) : R2 := fun x y H Q => ∃ l b v vs, x = .ref l ∧ y = .ref b ∧ Rd H l (.lst (v :: vs)) ∧ Rd H b (.lst []) ∧ Q (.bl neg) H
theorem Rd.isList {pins : List (Addr × Obj)} {s : Shared} {a : Addr} {vs : List V} (I : Inv X pins σ H s) (h : Rd H a (.lst vs)) : ∃ its : List Value, Vals vs its ∧ s.heap.IsList a its.toArray := by
  obtain ⟨z, its, n, r, e⟩ := h.ok I.hok
  exact ⟨its, r, _, e, rfl, _, rfl⟩
theorem op_eqN (hu : X.A.units < cLine) : OpR X (compareOp .Eq) (rEqN false) := by
  intro pins s σ H x y v u Q I rx ry h
  obtain ⟨l, b, v, vs, rfl, rfl, h1, h2, q⟩ := h
  cases rx
  cases ry
  obtain ⟨its, r1, l1⟩ := Rd.isList I h1
  obtain ⟨its2, r2, l2⟩ := Rd.isList I h2
  refine SeqAt.eq_list_lengthsAt l1 l2 ?_ hu ⟨.bl false, H, I, rfl, q⟩
  have e1 := r1.length
  have e2 := r2.length
  rw [List.size_toArray, List.size_toArray, ← e1, ← e2]
  rfl
theorem op_neN (hu : X.A.units < cLine) : OpR X (compareOp .NotEq) (rEqN true) := by
  intro pins s σ H x y v u Q I rx ry h
  obtain ⟨l, b, v, vs, rfl, rfl, h1, h2, q⟩ := h
  cases rx
  cases ry
  obtain ⟨its, r1, l1⟩ := Rd.isList I h1
  obtain ⟨its2, r2, l2⟩ := Rd.isList I h2
  have e1 := r1.length
  have e2 := r2.length
  exact SeqAt.RcNeAt.lists_lengths l1 l2 (by rw [List.size_toArray, List.size_toArray, ← e1, ← e2]; rfl) hu X.prog X.w X.xe _ ⟨.bl true, H, I, rfl, q⟩
theorem eqv_int (i j : Int) : PyData.eqv (.int i) (.int j) = decide (i = j) := by
  unfold PyData.eqv
  exact (Bool.beq_eq_decide_eq i j)
theorem eqv_bool (i j : Bool) : PyData.eqv (.bool i) (.bool j) = decide (i = j) := by
  unfold PyData.eqv
  cases i <;> cases j <;> rfl
theorem shaped_int (i : Int) : SeqAt.shaped (.int i) = true := rfl
theorem shaped_bool (i : Bool) : SeqAt.shaped (.bool i) = true := rfl
/-- == by data: the test of a chain of rules -/
theorem op2_eqs {op : CmpOp} {neg : Bool} (h1 : OpR X (compareOp op) (fun x y H Q => ∃ d e, Dp X.K H x d ∧ Dp X.K H y e ∧ SeqAt.shaped d = true ∧ SeqAt.shaped e = true ∧ Q (.bl (if neg then !PyData.eqv d e else PyData.eqv d e)) H))
    (h2 : OpR X (compareOp op) (fun x y H Q => L2.scal x y = true ∧ Q (.bl (if neg then !decide (x = y) else decide (x = y))) H)) (h3 : OpR X (compareOp op) (rEqN neg)) :
    Op2 X (compareOp op) (fun x y k => eqD x y fun b => k (.dat (.bool (if neg then !b else b)))) := by
  refine ⟨_, h1.or (h2.or h3), ?_⟩
  intro rm fx σ H Γ s F A x y d e Q R hx hy h
  unfold eqD at h
  split at h
  · rename_i i j
    refine .inl ⟨_, _, hx.dp R.fh (shaped_int i), hy.dp R.fh (shaped_int j), shaped_int i, shaped_int j, ?_⟩
    rw [eqv_int]
    exact KQ.dat R (.bl _) h
  · rename_i i j
    refine .inl ⟨_, _, hx.dp R.fh (shaped_bool i), hy.dp R.fh (shaped_bool j), shaped_bool i, shaped_bool j, ?_⟩
    rw [eqv_bool]
    exact KQ.dat R (.bl _) h
  · rename_i i j
    rw [flat_str hx, flat_str hy]
    refine .inr (.inl ⟨rfl, ?_⟩)
    have e : decide (V.str i = V.str j) = decide (i = j) := by
      by_cases z : i = j
      · subst z; simp
      · rw [decide_eq_false z, decide_eq_false (fun q => z (V.str.inj q))]
    rw [e]
    exact KQ.dat R (.bl _) h
  · exact .inl ⟨_, _, hx.dp R.fh rfl, hy.dp R.fh rfl, rfl, rfl, KQ.dat R (.bl _) h⟩
  · exact .inl ⟨_, _, hx.dp R.fh rfl, hy.dp R.fh rfl, rfl, rfl, KQ.dat R (.bl _) h⟩
  · obtain ⟨a, vs, e1, q1, r1⟩ := hx.lst R.fh
    obtain ⟨b, ws, e2, q2, r2⟩ := hy.lst R.fh
    cases r2
    cases r1 with
    | cons r r' =>
      refine .inr (.inr ⟨a, b, _, _, e1, e2, q1, q2, ?_⟩)
      have : neg = (if neg = true then !false else false) := by cases neg <;> rfl
      rw [this]
      exact KQ.dat R (.bl _) h
  · exact .inl ⟨_, _, hx.dp R.fh h.1, hy.dp R.fh h.2.1, h.1, h.2.1, KQ.dat R (.bl _) h.2.2⟩
theorem op2_eq (hu : X.A.units + 64 < cLine) : Op2 X (compareOp .Eq) (cmpD .Eq) := op2_eqs (neg := false) (op_eqD hu) op_eq (op_eqN (by omega))
theorem op2_ne (hu : X.A.units + 64 < cLine) : Op2 X (compareOp .NotEq) (cmpD .NotEq) := op2_eqs (neg := true) (op_neD hu) op_ne (op_neN (by omega))
theorem op2_rel {f : Value → Value → Sem Value} {g : Int → Int → Bool} (ho : OpR X f (rI0 fun i j => .bl (g i j))) : Op2 X f (relD g) := by
  refine ⟨_, ho, ?_⟩
  intro rm fx σ H Γ s F A x y d e Q R hx hy h
  unfold relD at h
  split at h
  · exact ⟨_, _, flat_int hx, flat_int hy, KQ.dat R (.bl _) h⟩
  · exact h.elim
theorem Rp.flat {x : V} {d : D} (h : Rp F x d) (f : flatD d = true) : flatV x = true := by
  cases h <;> first | rfl | cases f
theorem RpL.flat : ∀ {xs : List V} {ds : List D}, RpL F xs ds → ds.all flatD = true → xs.all flatV = true
  | _, _, .nil, _ => rfl
  | _, _, .cons h r, f => by
    rw [List.all_cons, Bool.and_eq_true] at f ⊢
    exact ⟨h.flat f.1, r.flat f.2⟩
theorem eqV_eqv {x y : V} {d e : D} (hx : Rp F x d) (hy : Rp F y e) (fd : flatD d = true) (fe : flatD e = true) : eqV x y = PyData.eqv d e := by
  cases hx <;> first | cases fd | skip
  all_goals (cases hy <;> first | cases fe | skip)
  all_goals (unfold PyData.eqv; rfl)
theorem inV_inD {x : V} {d : D} (hx : Rp F x d) (fd : flatD d = true) : ∀ {xs : List V} {ds : List D}, RpL F xs ds → ds.all flatD = true → inV x xs = inD d ds
  | _, _, .nil, _ => rfl
  | _, _, .cons h r, f => by
    rw [List.all_cons, Bool.and_eq_true] at f
    have ih := inV_inD hx fd r f.2
    unfold inV at ih ⊢
    unfold inD at ih ⊢
    rw [List.any_cons, List.any_cons, ih, eqV_eqv h hx f.1 fd]
/-- x in (..), at any depth -/
def rInT (K : PySem.W.Frag) : R2 := fun x y H Q => ∃ d ds, Dp K H x d ∧ Dp K H y (.tuple ds) ∧ SeqAt.shaped d = true ∧ SeqAt.shaped (.tuple ds) = true ∧ Q (.bl (inD d ds)) H
theorem op_inT (hu : X.A.units + 65 < cLine) : OpR X (compareOp .In) (rInT X.K) := by
  intro pins s σ H x y v u Q I rx ry h
  obtain ⟨d, ds, hd, he, sd, se, q⟩ := h
  obtain ⟨as, r1⟩ := Dp.reads I d x v hd rx
  obtain ⟨bs, r2⟩ := Dp.reads I (.tuple ds) y u he ry
  exact SeqAt.in_tuple_reads r2 r1 (by simpa only [PyData.canLay0] using SeqAt.canLay_of_shaped se) (SeqAt.canLay_of_shaped sd) (room_in_shaped sd hu) ⟨.bl _, H, I, rfl, q⟩
theorem op2_mem {op : CmpOp} {neg : Bool} (ho : OpR X (compareOp op) (rIn X.K neg)) (hd : neg = false → OpR X (compareOp op) (rInT X.K)) : Op2 X (compareOp op) (memD neg) := by
  refine ⟨fun x y H Q => rIn X.K neg x y H Q ∨ (neg = false ∧ rInT X.K x y H Q), ?_, ?_⟩
  · intro pins s σ H x y v u Q I rx ry h
    rcases h with h | ⟨z, h⟩
    · exact ho pins s σ H x y v u Q I rx ry h
    · exact hd z pins s σ H x y v u Q I rx ry h
  intro rm fx σ H Γ s F A x y d e Q R hx hy h
  unfold memD at h
  split at h
  · obtain ⟨f1, f2, q⟩ := h
    obtain ⟨a, vs, e1, q1, r1⟩ := hy.lst R.fh
    have hx' := hx.flat (fun ds z => by rw [z] at f1; cases f1)
    refine .inl ⟨a, vs, e1, .inl (.inl q1), hx'.flat f1, r1.flat f2, ?_⟩
    rw [inV_inD hx' f1 r1 f2]
    exact KQ.dat R (.bl _) q
  · rcases h with ⟨f1, f2, q⟩ | ⟨z, s1, s2, q⟩
    · obtain ⟨a, vs, e1, q1, r1⟩ := hy.tup
      have hx' := hx.flat (fun ds z => by rw [z] at f1; cases f1)
      refine .inl ⟨a, vs, e1, .inr (.inl (.inl (R.fh _ _ q1))), hx'.flat f1, r1.flat f2, ?_⟩
      rw [inV_inD hx' f1 r1 f2]
      exact KQ.dat R (.bl _) q
    · exact .inr ⟨z, _, _, hx.dp R.fh s1, hy.dp R.fh s2, s1, s2, KQ.dat R (.bl _) q⟩
  · exact h.elim
theorem op2_cmp (hu : X.A.units + 65 < cLine) : ∀ o : CmpOp, Op2 X (compareOp o) (cmpD o)
  | .Eq => op2_eq (by omega)
  | .NotEq => op2_ne (by omega)
  | .Lt => op2_rel op_lt
  | .LtE => op2_rel op_le
  | .Gt => op2_rel op_gt
  | .GtE => op2_rel op_ge
  | .In => op2_mem op_in_seq fun _ => op_inT hu
  | .NotIn => op2_mem op_notIn_seq fun z => nomatch z
  | .Is => op2_no
  | .IsNot => op2_no

/-! ### built-in functions -/
abbrev RoL (H F : Hp) (A : rm.A) : List V → List D → Prop := Paired (Ro H F A)
def CallS (X : Cx) (f : Value) (g : List D → (Val → Prop) → Prop) : Prop :=
  ∃ r : List V → Hp → VK → Prop, CallR X f r ∧ ∀ (rm : RM) (fx : Fx rm) (σ : L2.St) (H : Hp) (Γ : Ctx) (s : rm.S) (F : Hp) (A : rm.A) (xs : List V) (ds : List D) (Q : VK), SR fx σ H Γ s F A → RoL H F A xs ds → g ds (KQ fx σ H F A Γ s Q) → r xs H Q
theorem RoL.one {xs : List V} {d : D} (h : RoL H F A xs [d]) : ∃ x, xs = [x] ∧ Ro H F A x d := by
  cases h with
  | cons a b => cases b; exact ⟨_, rfl, a⟩
theorem RoL.two {xs : List V} {d e : D} (h : RoL H F A xs [d, e]) : ∃ x y, xs = [x, y] ∧ Ro H F A x d ∧ Ro H F A y e := by
  cases h with
  | cons a b =>
    cases b with
    | cons b c => cases c; exact ⟨_, _, rfl, a, b⟩
theorem CallR.or {f : Value} {r r' : List V → Hp → VK → Prop} (h : CallR X f r) (h' : CallR X f r') : CallR X f (fun x H Q => r x H Q ∨ r' x H Q) := by
  intro pins s σ H xs us Q I rx q
  rcases q with q | q
  · exact h pins s σ H xs us Q I rx q
  · exact h' pins s σ H xs us Q I rx q
theorem cs_len : CallS X (.builtin "len") lenD := by
  refine ⟨_, CallR.or call_len_seq call_len, ?_⟩
  intro rm fx σ H Γ s F A xs ds Q R hxs h
  unfold lenD at h
  split at h
  · obtain ⟨x, rfl, hx⟩ := hxs.one
    obtain ⟨a, vs, e1, q1, r1⟩ := hx.lst R.fh
    exact .inl ⟨a, vs, by rw [e1], .inl (.inl q1), by rw [r1.length]; exact KQ.dat R (.int _) h⟩
  · obtain ⟨x, rfl, hx⟩ := hxs.one
    obtain ⟨a, vs, e1, q1, r1⟩ := hx.tup
    exact .inl ⟨a, vs, by rw [e1], .inr (.inl (.inl (R.fh _ _ q1))), by rw [r1.length]; exact KQ.dat R (.int _) h⟩
  · obtain ⟨x, rfl, hx⟩ := hxs.one
    rw [flat_str hx]
    exact .inr ⟨_, _, rfl, ⟨big_sz h.1, rfl⟩, KQ.dat R (.int _) h.2⟩
  · exact h.elim
theorem cs_int2 {n : String} {f : Int → Int → Int} (hc : CallR X (.builtin n) (fun xs H Q => ∃ i j, xs = [.int i, .int j] ∧ Q (.int (f i j)) H)) : CallS X (.builtin n) (int2D f) := by
  refine ⟨_, hc, ?_⟩
  intro rm fx σ H Γ s F A xs ds Q R hxs h
  unfold int2D at h
  split at h
  · obtain ⟨x, y, rfl, hx, hy⟩ := hxs.two
    rw [flat_int hx, flat_int hy]
    exact ⟨_, _, rfl, KQ.dat R (.int _) h⟩
  · exact h.elim
theorem Ro.ints {x : V} {ds : List D} {ns : List Int} (fh : Sub F H) (h : Ro H F A x (.list ds)) (e : intsD ds = some ns) : ∃ a, x = V.ref a ∧ Rd H a (.lst (ns.map V.int)) := by
  obtain ⟨a, vs, e1, q1, r1⟩ := h.lst fh
  rw [intsD_eq e] at r1
  rw [r1.of_ints] at q1
  exact ⟨a, e1, q1⟩
theorem cs_minL (hc : X.calm = true) : CallS X (.builtin "min") minLD := by
  refine ⟨_, cr_min hc, ?_⟩
  intro rm fx σ H Γ s F A xs ds Q R hxs h
  unfold minLD at h
  split at h
  · obtain ⟨x, rfl, hx⟩ := hxs.one
    obtain ⟨ns, e, hl, q⟩ := h
    obtain ⟨a, e1, q1⟩ := hx.ints R.fh e
    exact ⟨a, ns, by rw [e1], .inl q1, hl, fun m h1 h2 => KQ.dat R (.int _) (q m h1 h2)⟩
  · exact h.elim
theorem cs_maxL (hc : X.calm = true) : CallS X (.builtin "max") maxLD := by
  refine ⟨_, cr_max hc, ?_⟩
  intro rm fx σ H Γ s F A xs ds Q R hxs h
  unfold maxLD at h
  split at h
  · obtain ⟨x, rfl, hx⟩ := hxs.one
    obtain ⟨ns, e, hl, q⟩ := h
    obtain ⟨a, e1, q1⟩ := hx.ints R.fh e
    exact ⟨a, ns, by rw [e1], .inl q1, hl, fun m h1 h2 => KQ.dat R (.int _) (q m h1 h2)⟩
  · exact h.elim
theorem cs_sum (hc : X.calm = true) : CallS X (.builtin "sum") sumD := by
  refine ⟨_, cr_sum hc, ?_⟩
  intro rm fx σ H Γ s F A xs ds Q R hxs h
  unfold sumD at h
  split at h
  · obtain ⟨x, rfl, hx⟩ := hxs.one
    obtain ⟨ns, e, q⟩ := h
    obtain ⟨a, e1, q1⟩ := hx.ints R.fh e
    exact ⟨a, ns, by rw [e1], .inl q1, KQ.dat R (.int _) q⟩
  · exact h.elim
theorem cs_sorted : CallS X (.builtin "sorted") sortedD := by
  refine ⟨_, cr_sortedI, ?_⟩
  intro rm fx σ H Γ s F A xs ds Q R hxs h
  unfold sortedD at h
  split at h
  · obtain ⟨x, rfl, hx⟩ := hxs.one
    obtain ⟨ns, e, q⟩ := h
    obtain ⟨a, e1, q1⟩ := hx.ints R.fh e
    exact ⟨a, ns, by rw [e1], .inl q1, fun ns' p h1 h2 hp => KQ.mk R hp (RpL.ints ns') (q ns' h1 h2)⟩
  · exact h.elim
theorem cs_list : CallS X (.type "list") listD := by
  refine ⟨_, call_list_of, ?_⟩
  intro rm fx σ H Γ s F A xs ds Q R hxs h
  unfold listD at h
  split at h
  · obtain ⟨x, rfl, hx⟩ := hxs.one
    obtain ⟨a, vs, e1, q1, r1⟩ := hx.lst R.fh
    exact ⟨a, vs, by rw [e1], .inl (.inl q1), fun p hp => KQ.mk R hp r1 h⟩
  · obtain ⟨x, rfl, hx⟩ := hxs.one
    obtain ⟨a, vs, e1, q1, r1⟩ := hx.tup
    exact ⟨a, vs, by rw [e1], .inr (.inl (.inl (R.fh _ _ q1))), fun p hp => KQ.mk R hp r1 h⟩
  · exact h.elim
theorem cs_tuple : CallS X (.type "tuple") tupleD := by
  refine ⟨_, call_tuple_of, ?_⟩
  intro rm fx σ H Γ s F A xs ds Q R hxs h
  unfold tupleD at h
  split at h
  · obtain ⟨x, rfl, hx⟩ := hxs.one
    obtain ⟨a, vs, e1, q1, r1⟩ := hx.lst R.fh
    exact ⟨a, vs, by rw [e1], .inl ⟨.inl q1, fun p hp => KQ.mkT R hp r1 h⟩⟩
  · obtain ⟨x, rfl, hx⟩ := hxs.one
    obtain ⟨a, vs, e1, q1, r1⟩ := hx.tup
    subst e1
    exact ⟨a, vs, rfl, .inr ⟨.inl (.inl (R.fh _ _ q1)), KQ.dat R (.tup q1 r1) h⟩⟩
  · exact h.elim
theorem cs_abs : CallS X (.builtin "abs") absD := by
  refine ⟨_, call_abs, ?_⟩
  intro rm fx σ H Γ s F A xs ds Q R hxs h
  unfold absD at h
  split at h
  · obtain ⟨x, rfl, hx⟩ := hxs.one
    rw [flat_int hx]
    exact ⟨_, rfl, KQ.dat R (.int _) h⟩
  · exact h.elim
theorem cs_toInt : CallS X (.type "int") toIntD := by
  refine ⟨_, call_int1, ?_⟩
  intro rm fx σ H Γ s F A xs ds Q R hxs h
  unfold toIntD at h
  split at h
  · obtain ⟨x, rfl, hx⟩ := hxs.one
    rw [flat_int hx]
    exact .inl ⟨_, rfl, KQ.dat R (.int _) h⟩
  · obtain ⟨x, rfl, hx⟩ := hxs.one
    rw [flat_bool hx]
    exact .inr ⟨_, rfl, KQ.dat R (.int _) h⟩
  · exact h.elim
theorem cs_toStr : CallS X (.type "str") toStrD := by
  refine ⟨_, call_str_int, ?_⟩
  intro rm fx σ H Γ s F A xs ds Q R hxs h
  unfold toStrD at h
  split at h
  · obtain ⟨x, rfl, hx⟩ := hxs.one
    rw [flat_int hx]
    exact ⟨_, rfl, h.1, KQ.dat R (.str _) h.2⟩
  · exact h.elim
/-! isinstance: the type of data -/
def tyN : D → String
  | .none => "NoneType"
  | .bool _ => "bool"
  | .int _ => "int"
  | .str _ => "str"
  | .list _ => "list"
  | .tuple _ => "tuple"
  | .dict _ => "dict"
theorem Ro.ty {K : PySem.W.Frag} {x : V} {d : D} (R : SR fx σ H Γ s F A) (h : Ro H F A x d) : TyX K H x (.type (tyN d)) := by
  rcases h with h | ⟨a, vs, ds, rfl, rfl, e3, _, e5⟩
  · cases h with
    | non => exact .base .non
    | bl b => exact .base (.bl b)
    | int i => exact .base (.int i)
    | str x => exact .base (.str x)
    | lst h r =>
      rcases R.fh.rd h with h | ⟨o, h⟩
      · exact .base (.lst h)
      · exact .base (.frz h)
    | tup h r => exact .base (.tup (R.fh _ _ h))
    | dic h r => exact .base (.dK (R.fh _ _ h))
  · exact .base (.lst e3)
theorem kit_all {K : PySem.W.Frag} (d : D) :
    PySem.W.kitOne K (.type (tyN d)) (.type "int") = some (isIntD d) ∧ PySem.W.kitOne K (.type (tyN d)) (.type "bool") = some (isBoolD d) ∧ PySem.W.kitOne K (.type (tyN d)) (.type "list") = some (isListD d) ∧
    PySem.W.kitOne K (.type (tyN d)) (.type "tuple") = some (isTupD d) ∧ PySem.W.kitOne K (.type (tyN d)) (.type "str") = some (isStrD d) := by
  cases d with
  | none => exact ⟨kit_ty (show kitB "NoneType" "int" = some false by decide +kernel), kit_ty (show kitB "NoneType" "bool" = some false by decide +kernel), kit_ty (show kitB "NoneType" "list" = some false by decide +kernel), kit_ty (show kitB "NoneType" "tuple" = some false by decide +kernel), kit_ty (show kitB "NoneType" "str" = some false by decide +kernel)⟩
  | bool _ => exact ⟨kit_ty (show kitB "bool" "int" = some true by decide +kernel), kit_ty (show kitB "bool" "bool" = some true by decide +kernel), kit_ty (show kitB "bool" "list" = some false by decide +kernel), kit_ty (show kitB "bool" "tuple" = some false by decide +kernel), kit_ty (show kitB "bool" "str" = some false by decide +kernel)⟩
  | int _ => exact ⟨kit_ty (show kitB "int" "int" = some true by decide +kernel), kit_ty (show kitB "int" "bool" = some false by decide +kernel), kit_ty (show kitB "int" "list" = some false by decide +kernel), kit_ty (show kitB "int" "tuple" = some false by decide +kernel), kit_ty (show kitB "int" "str" = some false by decide +kernel)⟩
  | str _ => exact ⟨kit_ty (show kitB "str" "int" = some false by decide +kernel), kit_ty (show kitB "str" "bool" = some false by decide +kernel), kit_ty (show kitB "str" "list" = some false by decide +kernel), kit_ty (show kitB "str" "tuple" = some false by decide +kernel), kit_ty (show kitB "str" "str" = some true by decide +kernel)⟩
  | list _ => exact ⟨kit_ty (show kitB "list" "int" = some false by decide +kernel), kit_ty (show kitB "list" "bool" = some false by decide +kernel), kit_ty (show kitB "list" "list" = some true by decide +kernel), kit_ty (show kitB "list" "tuple" = some false by decide +kernel), kit_ty (show kitB "list" "str" = some false by decide +kernel)⟩
  | tuple _ => exact ⟨kit_ty (show kitB "tuple" "int" = some false by decide +kernel), kit_ty (show kitB "tuple" "bool" = some false by decide +kernel), kit_ty (show kitB "tuple" "list" = some false by decide +kernel), kit_ty (show kitB "tuple" "tuple" = some true by decide +kernel), kit_ty (show kitB "tuple" "str" = some false by decide +kernel)⟩
  | dict _ => exact ⟨kit_ty (show kitB "dict" "int" = some false by decide +kernel), kit_ty (show kitB "dict" "bool" = some false by decide +kernel), kit_ty (show kitB "dict" "list" = some false by decide +kernel), kit_ty (show kitB "dict" "tuple" = some false by decide +kernel), kit_ty (show kitB "dict" "str" = some false by decide +kernel)⟩
end Ac
namespace Ac
open PySem PySem.Spec PyProof.Rows L2

/-! ### shapes of expressions -/
/-- none of those that a list of arguments, a subscript or a loop would read otherwise -/
def shp : Expr → Bool
  | .Starred .. | .Set .. | .Slice .. | .SetComp .. | .DictComp .. | .GeneratorExp .. | .IfExp .. | .NamedExpr .. => false
  | _ => true
theorem star1 {e : Expr} {es : List Expr} {env : Env} (h : shp e = true) : starEach (e :: es) env = (false, eval e env) :: starEach es env := by
  cases e <;> first | rfl | cases h
def shpL (es : List Expr) : Bool := es.all shp
theorem stars {env : Env} {pos : Pos} : ∀ {es : List Expr}, shpL es = true → (backTo pos (starEach es env)).any (·.1) = false
  | [], _ => rfl
  | e :: es, h => by
    unfold shpL at h
    rw [List.all_cons, Bool.and_eq_true] at h
    rw [star1 h.1]
    have ih := stars (env := env) (pos := pos) (es := es) h.2
    unfold backTo at ih ⊢
    rw [List.map_cons, List.any_cons, ih]
    rfl
theorem fold1 {e : Expr} {env : Env} (h : shp e = true) : ∀ x, foldedSetIterable e env x = pure x := by
  cases e <;> first | (intro x; rfl) | cases h
theorem plain1 {e : Expr} (h : shp e = true) : PlainIx e := by
  cases e <;> first | (intro o i; rfl) | cases h
theorem mark1 {e : Expr} {op : CmpOp} (h : shp e = true) : behindInMarks op e = false := by
  cases e <;> first | rfl | cases h
def isComp : Expr → Bool
  | .ListComp .. => true
  | _ => false
theorem swap1 {e : Expr} {t : Option Expr} {l : Nat} {env : Env} (h : shp e = true) (hc : isComp e = false) : swapsWith e t l env = pure false := by
  cases e <;> first | rfl | exact Bool.noConfusion hc | exact Bool.noConfusion h
/-- read as a test by its value -/
def tst : Expr → Bool
  | .UnaryOp .Not .. | .BoolOp .. | .IfExp .. | .Compare .. => false
  | _ => true
theorem tst1 {e : Expr} {env : Env} (h : tst e = true) : ∀ whole, isTrue e env whole = (do let v ← whole; standAt e.pos; holding [v] (truthy v)) := by
  cases e with
  | UnaryOp op a p => cases op <;> first | (intro w; rfl) | cases h
  | BoolOp _ _ _ => cases h
  | IfExp _ _ _ _ => cases h
  | Compare _ _ _ _ => cases h
  | _ => intro w; rfl

/-! ### what a text's rules may lean on -/
structure Sx where
  N : List Str
  sc : Scope
  fb : Str → Bool
  bn : List Str
  cn : List (Str × Int)
  xt : Bool := false
theorem PE_imp {X : Cx} {e : Expr} {t t' : TE} (h : PE X e t) (hi : ∀ σ H Q, t' σ H Q → t σ H Q) : PE X e t' := ⟨fun pins s σ H Q I q => h.run pins s σ H Q I (hi σ H Q q)⟩
theorem PT_imp {X : Cx} {e : Expr} {t t' : TT} (h : PT X e t) (hi : ∀ σ H Q, t' σ H Q → t σ H Q) : PT X e t' := ⟨fun pins s σ H Q I q => h.run pins s σ H Q I (hi σ H Q q)⟩
theorem PW_imp {X : Cx} {e : Expr} {t t' : TT} (h : PW X e t) (hi : ∀ σ H Q, t' σ H Q → t σ H Q) : PW X e t' := ⟨fun wh pins s σ H Q I q => h.run wh pins s σ H Q I (hi σ H Q q)⟩
theorem PA_imp {X : Cx} {e : List Expr} {t t' : TA} (h : PA X e t) (hi : ∀ σ H Q, t' σ H Q → t σ H Q) : PA X e t' := ⟨fun pos pins s σ H Q I q => h.run pos pins s σ H Q I (hi σ H Q q)⟩
theorem PI_imp {X : Cx} {tg e : Expr} {t t' : TI} (h : PI X tg e t) (hi : ∀ σ H Q, t' σ H Q → t σ H Q) : PI X tg e t' := ⟨fun pins s σ H Q I q => h.run pins s σ H Q I (hi σ H Q q)⟩
theorem PI_or {X : Cx} {tg e : Expr} {t t' : TI} (h : PI X tg e t) (h' : PI X tg e t') : PI X tg e (fun σ H Q => t σ H Q ∨ t' σ H Q) := ⟨fun pins s σ H Q I q => q.elim (h.run pins s σ H Q I) (h'.run pins s σ H Q I)⟩
theorem PO_imp {X : Cx} {e : Option Expr} {t t' : TO} (h : PO X e t) (hi : ∀ σ H Q, t' σ H Q → t σ H Q) : PO X e t' := ⟨fun pins s σ H Q I q => h.run pins s σ H Q I (hi σ H Q q)⟩

section
variable {rm : RM} {X : Cx} {k : Nat} {t : Sx}

/-! ### readings -/
/-- what is wished of an exception: by its number, the slots and the heap where it is raised -/
abbrev WN := Nat → L2.St → Hp → Prop
def W0 : WN := fun _ _ _ => False
def XcOk (W : WN) (fx : Fx rm) (xc : Nat → Ctx → rm.S → Prop) : Prop := ∀ n Γ s σ H F A, SR fx σ H Γ s F A → xc n Γ s → W n σ H
theorem xk0 {fx : Fx rm} : XcOk W0 fx xn := fun _ _ _ _ _ _ _ _ h => h
def WXof (cl : Nat → Addr) (W : WN) : WX := fun cls d σ H => ∃ n, cls = .ref (cl n) ∧ d = none ∧ W n σ H
theorem tk0 {X : Cx} {cl : Nat → Addr} : Takes X (WXof cl W0) := takes0.imp fun _ _ _ _ ⟨_, _, _, h⟩ => h

def KE (fx : Fx rm) (σ : L2.St) (H F : Hp) (A : rm.A) (Q : VK) : Val → Ctx → rm.S → Prop := fun v Γ' s' => ∀ x H' F' A', SR fx σ H' Γ' s' F' A' → HX H A H' A' → Sub F F' → RV fx σ H' F' A' Γ' x v → Q x H'
def rdE (W : WN) (c : E rm.S) : TE := fun σ H Q => ∃ (fx : Fx rm) (Γ : Ctx) (s : rm.S) (F : Hp) (A : rm.A), SR fx σ H Γ s F A ∧ ∃ xc, XcOk W fx xc ∧ wE xc c Γ s (KE fx σ H F A Q)
/-- the value of an operand: of a name its own -/
def RoC (c : E rm.S) (σ : L2.St) (H F : Hp) (A : rm.A) (x : V) (d : D) : Prop := Ro H F A x d ∧ (match c with | .var i => σ[i]? = some (some x) | _ => Rp F x d)
def rdP (W : WN) (c : E rm.S) : TE := fun σ H Q => ∃ (fx : Fx rm) (Γ : Ctx) (s : rm.S) (F : Hp) (A : rm.A), SR fx σ H Γ s F A ∧ ∃ xc, XcOk W fx xc ∧
  opn c (wE xc c) Γ s fun d Γ' s' => ∀ x H' F' A', SR fx σ H' Γ' s' F' A' → HX H A H' A' → Sub F F' → RoC c σ H' F' A' x d → Q x H'
def rdT (W : WN) (c : E rm.S) : TT := fun σ H Q => ∃ (fx : Fx rm) (Γ : Ctx) (s : rm.S) (F : Hp) (A : rm.A), SR fx σ H Γ s F A ∧ ∃ xc, XcOk W fx xc ∧
  wT xc c Γ s fun b Γ' s' => ∀ H' F' A', SR fx σ H' Γ' s' F' A' → HX H A H' A' → Sub F F' → Q b H'
def ArgL (σ : L2.St) (H F : Hp) (A : rm.A) : Es rm.S → List V → List D → Prop
  | .nil, [], [] => True
  | .cons e r, x :: xs, d :: ds => RoC e σ H F A x d ∧ ArgL σ H F A r xs ds
  | _, _, _ => False
def rdA (W : WN) (c : Es rm.S) : TA := fun σ H Q => ∃ (fx : Fx rm) (Γ : Ctx) (s : rm.S) (F : Hp) (A : rm.A), SR fx σ H Γ s F A ∧ ∃ xc, XcOk W fx xc ∧
  wA xc c Γ s fun ds Γ' s' => ∀ xs H' F' A', SR fx σ H' Γ' s' F' A' → HX H A H' A' → Sub F F' → ArgL σ H' F' A' c xs ds → Q xs H'
def rdX (W : WN) (c : Es rm.S) : TA := fun σ H Q => ∃ (fx : Fx rm) (Γ : Ctx) (s : rm.S) (F : Hp) (A : rm.A), SR fx σ H Γ s F A ∧ ∃ xc, XcOk W fx xc ∧
  wX xc c Γ s fun ds Γ' s' => ∀ xs H' F' A', SR fx σ H' Γ' s' F' A' → HX H A H' A' → Sub F F' → RpL F' xs ds → Q xs H'
def RH (F : Hp) (A : rm.A) (x : V) : Val → Prop
  | .dat d => Rp F x d
  | .hdl k => rm.hd A k x
  | _ => False
abbrev RHL (F : Hp) (A : rm.A) : List V → List Val → Prop := Paired (RH F A)
theorem RH.mono {F F' : Hp} {A A' : rm.A} {x : V} {v : Val} (h : RH F A x v) (sb : Sub F F') (le : rm.le A A') : RH F' A' x v := by
  cases v with
  | dat d => exact Rp.mono sb h
  | hdl k => exact rm.le_hd le h
  | own _ => exact h
  | new _ => exact h
def rdV (W : WN) (c : Es rm.S) : TA := fun σ H Q => ∃ (fx : Fx rm) (Γ : Ctx) (s : rm.S) (F : Hp) (A : rm.A), SR fx σ H Γ s F A ∧ ∃ xc, XcOk W fx xc ∧
  wV xc c Γ s fun vs Γ' s' => ∀ xs H' F' A', SR fx σ H' Γ' s' F' A' → HX H A H' A' → Sub F F' → RHL F' A' xs vs → Q xs H'
def rdPart (W : WN) (c : Es rm.S) : TO := fun σ H Q => ∃ (fx : Fx rm) (Γ : Ctx) (s : rm.S) (F : Hp) (A : rm.A), SR fx σ H Γ s F A ∧ ∃ xc, XcOk W fx xc ∧
  wP xc c Γ s fun o Γ' s' => ∀ H' F' A', SR fx σ H' Γ' s' F' A' → HX H A H' A' → Sub F F' → Q o H'
def rdC (W : WN) (c : Es rm.S) : TT := fun σ H Q => ∃ (fx : Fx rm) (Γ : Ctx) (s : rm.S) (F : Hp) (A : rm.A), SR fx σ H Γ s F A ∧ ∃ xc, XcOk W fx xc ∧
  wC xc c Γ s fun o Γ' s' => ∀ H' F' A', SR fx σ H' Γ' s' F' A' → HX H A H' A' → Sub F F' → Q o H'
/-- what a walk gives, wherever what it walks still stands -/
def Yl (J : L2.It) (G F : Hp) (xs : List D) : Prop := ∀ (i : Nat) (H2 : Hp), Sub G H2 →
  (i < xs.length → J.go i H2 ∧ ∀ x H3, J.yld i H2 x H3 → ∃ d, xs[i]? = some d ∧ ((H3 = H2 ∧ Rp F x d) ∨ ∃ T vs ds, H2 T = none ∧ H3 = upd H2 T (.tup vs) ∧ x = V.ref T ∧ d = .tuple ds ∧ RpL F vs ds)) ∧ (i = xs.length → J.stop i H2)
end
end Ac
namespace Ac
open PySem PySem.Spec PyProof.Rows L2
section
variable {rm : RM} {X : Cx} {k : Nat} {t : Sx} {W : WN} {fx : Fx rm} {xc : Nat → Ctx → rm.S → Prop} {σ : L2.St} {H F : Hp} {Γ : Ctx} {s : rm.S} {A : rm.A}
theorem opn_nv {S : Type} {c : E S} {wa : Ctx → S → (Val → Ctx → S → Prop) → Prop} {Γ : Ctx} {s : S} {Q : D → Ctx → S → Prop} (h : ∀ i, c ≠ .var i) : opn c wa Γ s Q = wa Γ s fun v Γ' s' => asD v fun d => Q d Γ' s' := by
  cases c with
  | var i => exact absurd rfl (h i)
  | _ => rfl
theorem boolD_some {d : D} {k : Bool → Prop} (h : boolD d k) : ∃ b, d = .bool b ∧ k b := by
  cases d <;> first | exact ⟨_, rfl, h⟩ | exact h.elim
/-- an expression as an operand -/
theorem to_opn {c : E rm.S} {e : Expr} (h : PE X e (rdE W c)) (hv : ∀ i, c ≠ .var i) : PE X e (rdP W c) := by
  refine PE_imp h fun σ H Q q => ?_
  obtain ⟨fx, Γ, s, F, A, R, xc, xk, q⟩ := q
  rw [opn_nv hv] at q
  refine ⟨fx, Γ, s, F, A, R, xc, xk, wE_mono c (fun v Γ' s' q => ?_) q⟩
  intro x H' F' A' R' hx sb rv
  obtain ⟨d, F'', k, R'', sb', rp⟩ := R'.stay rv q
  refine k x H' F'' A' R'' hx (sb.trans sb') ⟨.inl rp, ?_⟩
  cases c with
  | var i => exact absurd rfl (hv i)
  | _ => exact rp
/-- a test by its value -/
theorem to_test {c : E rm.S} {e : Expr} (h : PE X e (rdP W c)) (ht : tst e = true) : PT X e (rdT W c) := by
  refine PT_imp (pt_val h (tst1 ht)) fun σ H Q q => ?_
  obtain ⟨fx, Γ, s, F, A, R, xc, xk, q⟩ := q
  refine ⟨fx, Γ, s, F, A, R, xc, xk, opnE_mono c (fun d Γ' s' q => ?_) q⟩
  intro x H' F' A' R' hx sb ro
  obtain ⟨b, rfl, q⟩ := boolD_some q
  exact ⟨b, flat_bool ro.1, q H' F' A' R' hx sb⟩
/-! ### names, constants -/
theorem n_varE {i : Nat} {x : Str} {p : Pos} (hx : PE X (.Name x p) (tVar i)) : PE X (.Name x p) (rdE W (.var i : E rm.S)) := by
  refine PE_imp hx fun σ H Q q => ?_
  obtain ⟨fx, Γ, s, F, A, R, xc, xk, q⟩ := q
  unfold wE at q
  split at q
  · rename_i d e
    obtain ⟨y, h1, h2⟩ := R.sl i _ e
    exact ⟨y, h1, q y H F A R (HX.refl H A) (Sub.refl F) h2⟩
  · rename_i xs e
    obtain ⟨a, vs, h1, h2, h3, h4, R'⟩ := R.frzOwn e
    exact ⟨_, h1, q _ H _ A R' (HX.refl H A) (upd_sub h3) (Rp.lst (.inl upd_same) (h4.mono (upd_sub h3)))⟩
  · rename_i n e
    obtain ⟨y, h1, h2⟩ := R.sl i _ e
    exact ⟨y, h1, q y H F A R (HX.refl H A) (Sub.refl F) h2⟩
  · exact q.elim
theorem n_varP {i : Nat} {x : Str} {p : Pos} (hx : PE X (.Name x p) (tVar i)) : PE X (.Name x p) (rdP W (.var i : E rm.S)) := by
  refine PE_imp hx fun σ H Q q => ?_
  obtain ⟨fx, Γ, s, F, A, R, xc, xk, q⟩ := q
  change rdO (look Γ i) _ at q
  cases e : look Γ i with
  | none => rw [e] at q; exact q.elim
  | some v =>
    rw [e] at q
    obtain ⟨y, h1, h2⟩ := R.sl i _ e
    cases v with
    | dat d => exact ⟨y, h1, q y H F A R (HX.refl H A) (Sub.refl F) ⟨.inl h2, h1⟩⟩
    | own xs =>
      obtain ⟨a, vs, e1, e2, e3, e4, e5, e6⟩ := h2
      exact ⟨y, h1, q y H F A R (HX.refl H A) (Sub.refl F) ⟨.inr ⟨a, vs, xs, e1, rfl, e2, e4, e6⟩, h1⟩⟩
    | new xs => exact q.elim
    | hdl n => exact q.elim
theorem n_cst {c : E rm.S} {e : Expr} {v : V} {d : D} (h : PE X e (tC v)) (hr : ∀ F, Rp F v d) (hw : ∀ xc Γ s Q, wE xc c Γ s Q = Q (.dat d) Γ s) : PE X e (rdE W c) := by
  refine PE_imp h fun σ H Q q => ?_
  obtain ⟨fx, Γ, s, F, A, R, xc, xk, q⟩ := q
  rw [hw] at q
  exact q v H F A R (HX.refl H A) (Sub.refl F) (hr F)
/-! ### operations -/
theorem KE.kq {fx : Fx rm} {σ : L2.St} {H F H2 F2 : Hp} {A A2 : rm.A} {Q : VK} {v : Val} {Γ2 : Ctx} {s2 : rm.S} (h : KE fx σ H F A Q v Γ2 s2) (hx : HX H A H2 A2) (sb : Sub F F2) : KQ fx σ H2 F2 A2 Γ2 s2 Q v :=
  fun z H' F' R' hx' sb' rv => h z H' F' A2 R' (hx.trans hx') (sb.trans sb') rv
theorem op_rd {ca cb : E rm.S} {f : Value → Value → Sem Value} {g : D → D → (Val → Prop) → Prop} {r : R2}
    (hr : ∀ (rm : RM) (fx : Fx rm) (σ : L2.St) (H : Hp) (Γ : Ctx) (s : rm.S) (F : Hp) (A : rm.A) (x y : V) (d e : D) (Q : VK), SR fx σ H Γ s F A → Ro H F A x d → Ro H F A y e → g d e (KQ fx σ H F A Γ s Q) → r x y H Q)
    (hm : ∀ {x y : D} {k k' : Val → Prop}, (∀ v, k v → k' v) → g x y k → g x y k') {Q : VK} (R : SR fx σ H Γ s F A) (xk : XcOk W fx xc)
    (h : opn ca (wE xc ca) Γ s fun x Γ1 s1 => opn cb (wE xc cb) Γ1 s1 fun y Γ2 s2 => g x y fun v => KE fx σ H F A Q v Γ2 s2) : tOp r (rdP W ca) (rdP W cb) σ H Q := by
  refine ⟨fx, Γ, s, F, A, R, xc, xk, opnE_mono ca (fun d Γ1 s1 h => ?_) h⟩
  intro x H1 F1 A1 R1 hx1 sb1 ro1
  refine ⟨fx, Γ1, s1, F1, A1, R1, xc, xk, opnE_mono cb (fun e Γ2 s2 h => ?_) h⟩
  intro y H2 F2 A2 R2 hx2 sb2 ro2
  exact hr rm fx σ H2 Γ2 s2 F2 A2 x y d e Q R2 (ro1.1.mono hx2 sb2) ro2.1 (hm (fun v q => q.kq (hx1.trans hx2) (sb1.trans sb2)) h)
theorem n_op {ca cb : E rm.S} {a b : Expr} {o : Operator} {p : Pos} (ha : PE X a (rdP W ca)) (hb : PE X b (rdP W cb)) : PE X (.BinOp a o b p) (rdE W (.op o ca cb)) := by
  obtain ⟨r, hr, hs⟩ := op2_bin (X := X) o
  refine PE_imp (pe_op hr ha hb) fun σ H Q q => ?_
  obtain ⟨fx, Γ, s, F, A, R, xc, xk, q⟩ := q
  unfold wE at q
  exact op_rd (f := binaryOp o) hs opD_mono R xk q
theorem n_cmp {ca cb : E rm.S} {a b : Expr} {o : CmpOp} {p : Pos} (hu : X.A.units + 65 < cLine) (ha : PE X a (rdP W ca)) (hb : PE X b (rdP W cb)) (hm : behindInMarks o b = false) : PE X (.Compare a [o] [b] p) (rdE W (.cmp o ca cb)) ∧ PT X (.Compare a [o] [b] p) (rdT W (.cmp o ca cb)) := by
  obtain ⟨r, hr, hs⟩ := op2_cmp (X := X) hu o
  constructor
  · refine PE_imp (pe_cmpR hr ha hb hm) fun σ H Q q => ?_
    obtain ⟨fx, Γ, s, F, A, R, xc, xk, q⟩ := q
    unfold wE at q
    exact op_rd (f := compareOp o) hs cmpD_mono R xk q
  · refine PT_imp (pt_cmpR hr ha hb hm) fun σ H Q q => ?_
    obtain ⟨fx, Γ, s, F, A, R, xc, xk, q⟩ := q
    change opn (.cmp o ca cb) _ Γ s _ at q
    rw [opn_nv (c := (.cmp o ca cb)) (fun i h => nomatch h)] at q
    unfold wE at q
    refine op_rd (f := compareOp o) hs cmpD_mono R xk (opnE_mono ca (fun d Γ1 s1 => opnE_mono cb fun e Γ2 s2 => cmpD_mono fun v q => ?_) q)
    intro x H' F' A' R' hx sb rv
    cases v with
    | dat d =>
      obtain ⟨b, rfl, q⟩ := boolD_some q
      cases rv
      exact ⟨_, rfl, q H' F' A' R' hx sb⟩
    | new xs => exact q.elim
    | own xs => exact q.elim
    | hdl n => exact q.elim
theorem n_neg {ca : E rm.S} {a : Expr} {p : Pos} (ha : PE X a (rdP W ca)) : PE X (.UnaryOp .USub a p) (rdE W (.neg ca)) := by
  refine PE_imp (pe_un un_neg ha) fun σ H Q q => ?_
  obtain ⟨fx, Γ, s, F, A, R, xc, xk, q⟩ := q
  unfold wE at q
  refine ⟨fx, Γ, s, F, A, R, xc, xk, opnE_mono ca (fun d Γ1 s1 h => ?_) q⟩
  intro x H1 F1 A1 R1 hx1 sb1 ro1
  unfold negX at h
  split at h
  · exact ⟨_, flat_int ro1.1, h _ H1 F1 A1 R1 hx1 sb1 (.int _)⟩
  · exact h.elim
theorem n_nt {ca : E rm.S} {a : Expr} {p : Pos} (ha : PE X a (rdP W ca)) (ht : PT X a (rdT W ca)) : PE X (.UnaryOp .Not a p) (rdE W (.nt ca)) ∧ PT X (.UnaryOp .Not a p) (rdT W (.nt ca)) := by
  constructor
  · refine PE_imp (pe_not ha) fun σ H Q q => ?_
    obtain ⟨fx, Γ, s, F, A, R, xc, xk, q⟩ := q
    unfold wE at q
    refine ⟨fx, Γ, s, F, A, R, xc, xk, opnE_mono ca (fun d Γ1 s1 h => ?_) q⟩
    intro x H1 F1 A1 R1 hx1 sb1 ro1
    obtain ⟨b, rfl, h⟩ := boolD_some h
    exact ⟨_, flat_bool ro1.1, h _ H1 F1 A1 R1 hx1 sb1 (.bl _)⟩
  · refine PT_imp (pt_not ht) fun σ H Q q => ?_
    obtain ⟨fx, Γ, s, F, A, R, xc, xk, q⟩ := q
    change opn (.nt ca) _ Γ s _ at q
    rw [opn_nv (c := (.nt ca)) (fun i h => nomatch h)] at q
    unfold wE at q
    refine ⟨fx, Γ, s, F, A, R, xc, xk, opnE_mono ca (fun d Γ1 s1 h => ?_) q⟩
    obtain ⟨b, rfl, h⟩ := boolD_some h
    exact h
theorem n_an {ca cb : E rm.S} {a b : Expr} {rest : List Expr} {p : Pos} (ha : PE X a (rdP W ca)) (hb : PE X (.BoolOp .And (b :: rest) p) (rdP W cb)) : PE X (.BoolOp .And (a :: b :: rest) p) (rdE W (.an ca cb)) := by
  refine PE_imp (pe_and ha hb) fun σ H Q q => ?_
  obtain ⟨fx, Γ, s, F, A, R, xc, xk, q⟩ := q
  unfold wE at q
  refine ⟨fx, Γ, s, F, A, R, xc, xk, opnE_mono ca (fun d Γ1 s1 h => ?_) q⟩
  intro x H1 F1 A1 R1 hx1 sb1 ro1
  obtain ⟨c, rfl, h⟩ := boolD_some h
  refine ⟨c, flat_bool ro1.1, ite_mono (fun h => ?_) (fun h => h _ H1 F1 A1 R1 hx1 sb1 (.bl _)) h⟩
  refine ⟨fx, Γ1, s1, F1, A1, R1, xc, xk, opnE_mono cb (fun e Γ2 s2 h => ?_) h⟩
  intro y H2 F2 A2 R2 hx2 sb2 ro2
  obtain ⟨c', rfl, h⟩ := boolD_some h
  exact h y H2 F2 A2 R2 (hx1.trans hx2) (sb1.trans sb2) (by rw [flat_bool ro2.1]; exact .bl _)
theorem n_or {ca cb : E rm.S} {a b : Expr} {rest : List Expr} {p : Pos} (ha : PE X a (rdP W ca)) (hb : PE X (.BoolOp .Or (b :: rest) p) (rdP W cb)) : PE X (.BoolOp .Or (a :: b :: rest) p) (rdE W (.or ca cb)) := by
  refine PE_imp (pe_or ha hb) fun σ H Q q => ?_
  obtain ⟨fx, Γ, s, F, A, R, xc, xk, q⟩ := q
  unfold wE at q
  refine ⟨fx, Γ, s, F, A, R, xc, xk, opnE_mono ca (fun d Γ1 s1 h => ?_) q⟩
  intro x H1 F1 A1 R1 hx1 sb1 ro1
  obtain ⟨c, rfl, h⟩ := boolD_some h
  refine ⟨c, flat_bool ro1.1, ite_mono (fun h => h _ H1 F1 A1 R1 hx1 sb1 (.bl _)) (fun h => ?_) h⟩
  refine ⟨fx, Γ1, s1, F1, A1, R1, xc, xk, opnE_mono cb (fun e Γ2 s2 h => ?_) h⟩
  intro y H2 F2 A2 R2 hx2 sb2 ro2
  obtain ⟨c', rfl, h⟩ := boolD_some h
  exact h y H2 F2 A2 R2 (hx1.trans hx2) (sb1.trans sb2) (by rw [flat_bool ro2.1]; exact .bl _)
theorem n_anT {ca cb : E rm.S} {a b : Expr} {rest : List Expr} {p : Pos} (ha : PT X a (rdT W ca)) (hb : PW X (.BoolOp .And (b :: rest) p) (rdT W cb)) : PW X (.BoolOp .And (a :: b :: rest) p) (rdT W (.an ca cb)) := by
  refine PW_imp (pw_and ha hb) fun σ H Q q => ?_
  obtain ⟨fx, Γ, s, F, A, R, xc, xk, q⟩ := q
  change opn (.an ca cb) _ Γ s _ at q
  rw [opn_nv (c := (.an ca cb)) (fun i h => nomatch h)] at q
  unfold wE at q
  refine ⟨fx, Γ, s, F, A, R, xc, xk, opnE_mono ca (fun d Γ1 s1 h => ?_) q⟩
  obtain ⟨c, rfl, h⟩ := boolD_some h
  intro H1 F1 A1 R1 hx1 sb1
  refine ite_mono (fun h => ?_) (fun h => h H1 F1 A1 R1 hx1 sb1) h
  refine ⟨fx, Γ1, s1, F1, A1, R1, xc, xk, opnE_mono cb (fun e Γ2 s2 h => ?_) h⟩
  obtain ⟨c', rfl, h⟩ := boolD_some h
  exact fun H2 F2 A2 R2 hx2 sb2 => h H2 F2 A2 R2 (hx1.trans hx2) (sb1.trans sb2)
theorem n_orT {ca cb : E rm.S} {a b : Expr} {rest : List Expr} {p : Pos} (ha : PT X a (rdT W ca)) (hb : PW X (.BoolOp .Or (b :: rest) p) (rdT W cb)) : PW X (.BoolOp .Or (a :: b :: rest) p) (rdT W (.or ca cb)) := by
  refine PW_imp (pw_or ha hb) fun σ H Q q => ?_
  obtain ⟨fx, Γ, s, F, A, R, xc, xk, q⟩ := q
  change opn (.or ca cb) _ Γ s _ at q
  rw [opn_nv (c := (.or ca cb)) (fun i h => nomatch h)] at q
  unfold wE at q
  refine ⟨fx, Γ, s, F, A, R, xc, xk, opnE_mono ca (fun d Γ1 s1 h => ?_) q⟩
  obtain ⟨c, rfl, h⟩ := boolD_some h
  intro H1 F1 A1 R1 hx1 sb1
  refine ite_mono (fun h => h H1 F1 A1 R1 hx1 sb1) (fun h => ?_) h
  refine ⟨fx, Γ1, s1, F1, A1, R1, xc, xk, opnE_mono cb (fun e Γ2 s2 h => ?_) h⟩
  obtain ⟨c', rfl, h⟩ := boolD_some h
  exact fun H2 F2 A2 R2 hx2 sb2 => h H2 F2 A2 R2 (hx1.trans hx2) (sb1.trans sb2)
theorem ch_rd {ca cb cc : E rm.S} {g g' : D → D → (Val → Prop) → Prop} {r r' : R2}
    (hr : ∀ (rm : RM) (fx : Fx rm) (σ : L2.St) (H : Hp) (Γ : Ctx) (s : rm.S) (F : Hp) (A : rm.A) (x y : V) (d e : D) (Q : VK), SR fx σ H Γ s F A → Ro H F A x d → Ro H F A y e → g d e (KQ fx σ H F A Γ s Q) → r x y H Q)
    (hr' : ∀ (rm : RM) (fx : Fx rm) (σ : L2.St) (H : Hp) (Γ : Ctx) (s : rm.S) (F : Hp) (A : rm.A) (x y : V) (d e : D) (Q : VK), SR fx σ H Γ s F A → Ro H F A x d → Ro H F A y e → g' d e (KQ fx σ H F A Γ s Q) → r' x y H Q)
    (hm : ∀ {x y : D} {k k' : Val → Prop}, (∀ v, k v → k' v) → g x y k → g x y k') (hm' : ∀ {x y : D} {k k' : Val → Prop}, (∀ v, k v → k' v) → g' x y k → g' x y k') {Q : VK} (R : SR fx σ H Γ s F A) (xk : XcOk W fx xc)
    (h : opn ca (wE xc ca) Γ s fun x Γ1 s1 => opn cb (wE xc cb) Γ1 s1 fun y Γ2 s2 => g x y fun v => asD v fun d => boolD d fun k => if k = true then opn cc (wE xc cc) Γ2 s2 fun z Γ3 s3 => g' y z fun v => KE fx σ H F A Q v Γ3 s3 else KE fx σ H F A Q (.dat (.bool false)) Γ2 s2) : tChain r r' (rdP W ca) (rdP W cb) (rdP W cc) σ H Q := by
  refine ⟨fx, Γ, s, F, A, R, xc, xk, opnE_mono ca (fun d Γ1 s1 h => ?_) h⟩
  intro x H1 F1 A1 R1 hx1 sb1 ro1
  refine ⟨fx, Γ1, s1, F1, A1, R1, xc, xk, opnE_mono cb (fun e Γ2 s2 h => ?_) h⟩
  intro y H2 F2 A2 R2 hx2 sb2 ro2
  refine hr rm fx σ H2 Γ2 s2 F2 A2 x y d e _ R2 (ro1.1.mono hx2 sb2) ro2.1 (hm (fun v q => ?_) h)
  intro z H3 F3 R3 hx3 sb3 rv
  cases v with
  | dat d' =>
    obtain ⟨kk, rfl, q⟩ := boolD_some q
    cases rv
    refine ⟨kk, rfl, ite_mono (fun q => ?_) (fun q => q _ H3 F3 A2 R3 ((hx1.trans hx2).trans hx3) ((sb1.trans sb2).trans sb3) (.bl _)) q⟩
    refine ⟨fx, Γ2, s2, F3, A2, R3, xc, xk, opnE_mono cc (fun e' Γ3 s3 h => ?_) q⟩
    intro w H4 F4 A4 R4 hx4 sb4 ro4
    exact hr' rm fx σ H4 Γ3 s3 F4 A4 y w e e' Q R4 ((ro2.1.mono hx3 sb3).mono hx4 sb4) ro4.1 (hm' (fun v q => q.kq (((hx1.trans hx2).trans hx3).trans hx4) (((sb1.trans sb2).trans sb3).trans sb4)) h)
  | new xs => exact q.elim
  | own xs => exact q.elim
  | hdl n => exact q.elim
theorem n_ch {ca cb cc : E rm.S} {a b c : Expr} {o o' : CmpOp} {p : Pos} (hu : X.A.units + 65 < cLine) (ha : PE X a (rdP W ca)) (hb : PE X b (rdP W cb)) (hc : PE X c (rdP W cc)) (hm : lastMarks [o, o'] [b, c] = false) :
    PE X (.Compare a [o, o'] [b, c] p) (rdE W (.ch o o' ca cb cc)) ∧ PT X (.Compare a [o, o'] [b, c] p) (rdT W (.ch o o' ca cb cc)) := by
  obtain ⟨r, hr, hs⟩ := op2_cmp (X := X) hu o
  obtain ⟨r', hr', hs'⟩ := op2_cmp (X := X) hu o'
  constructor
  · refine PE_imp (pe_chain hr hr' ha hb hc hm) fun σ H Q q => ?_
    obtain ⟨fx, Γ, s, F, A, R, xc, xk, q⟩ := q
    unfold wE at q
    exact ch_rd hs hs' cmpD_mono cmpD_mono R xk q
  · refine PT_imp (pt_chain hr hr' ha hb hc hm) fun σ H Q q => ?_
    obtain ⟨fx, Γ, s, F, A, R, xc, xk, q⟩ := q
    change opn (.ch o o' ca cb cc) _ Γ s _ at q
    rw [opn_nv (c := (.ch o o' ca cb cc)) (fun i h => nomatch h)] at q
    have q2 := wE_mono (.ch o o' ca cb cc) (Q' := KE fx σ H F A fun x H' => ∃ k, x = .bl k ∧ Q k H') (fun v Γ' s' q => by
      intro x H' F' A' R' hx sb rv
      cases v with
      | dat d =>
        obtain ⟨b, rfl, q⟩ := boolD_some q
        cases rv
        exact ⟨_, rfl, q H' F' A' R' hx sb⟩
      | new xs => exact q.elim
      | own xs => exact q.elim
      | hdl n => exact q.elim) q
    unfold wE at q2
    exact ch_rd hs hs' cmpD_mono cmpD_mono R xk q2
theorem isnone_iff {x : V} {d : D} (h : Ro H F A x d) : decide (x = .non) = noneD d := by
  rcases h with h | ⟨a, vs, ds, rfl, rfl, _⟩
  · cases h <;> rfl
  · rfl
theorem n_isn {ca : E rm.S} {a : Expr} {j : Nat} {p p' : Pos} (ha : PE X a (rdP W ca)) :
    (PE X (.Compare a [.Is] [.Constant .none j p'] p) (rdE W (.isn true ca)) ∧ PT X (.Compare a [.Is] [.Constant .none j p'] p) (rdT W (.isn true ca))) ∧
    (PE X (.Compare a [.IsNot] [.Constant .none j p'] p) (rdE W (.isn false ca)) ∧ PT X (.Compare a [.IsNot] [.Constant .none j p'] p) (rdT W (.isn false ca))) := by
  refine ⟨⟨PE_imp (pe_cmp (pc_isN ha)) fun σ H Q q => ?_, PT_imp (pt_cmp (pc_isN ha)) fun σ H Q q => ?_⟩, ⟨PE_imp (pe_cmp (pc_notN ha)) fun σ H Q q => ?_, PT_imp (pt_cmp (pc_notN ha)) fun σ H Q q => ?_⟩⟩
  · obtain ⟨fx, Γ, s, F, A, R, xc, xk, q⟩ := q
    unfold wE at q
    refine ⟨fx, Γ, s, F, A, R, xc, xk, opnE_mono ca (fun d Γ1 s1 h => ?_) q⟩
    intro x H1 F1 A1 R1 hx1 sb1 ro1
    rw [isnone_iff ro1.1]
    exact h _ H1 F1 A1 R1 hx1 sb1 (.bl _)
  · obtain ⟨fx, Γ, s, F, A, R, xc, xk, q⟩ := q
    change opn (.isn true ca) _ Γ s _ at q
    rw [opn_nv (c := (.isn true ca)) (fun i h => nomatch h)] at q
    unfold wE at q
    refine ⟨fx, Γ, s, F, A, R, xc, xk, opnE_mono ca (fun d Γ1 s1 h => ?_) q⟩
    intro x H1 F1 A1 R1 hx1 sb1 ro1
    refine ⟨_, rfl, ?_⟩
    rw [isnone_iff ro1.1]
    exact h H1 F1 A1 R1 hx1 sb1
  · obtain ⟨fx, Γ, s, F, A, R, xc, xk, q⟩ := q
    unfold wE at q
    refine ⟨fx, Γ, s, F, A, R, xc, xk, opnE_mono ca (fun d Γ1 s1 h => ?_) q⟩
    intro x H1 F1 A1 R1 hx1 sb1 ro1
    rw [isnone_iff ro1.1]
    exact h _ H1 F1 A1 R1 hx1 sb1 (.bl _)
  · obtain ⟨fx, Γ, s, F, A, R, xc, xk, q⟩ := q
    change opn (.isn false ca) _ Γ s _ at q
    rw [opn_nv (c := (.isn false ca)) (fun i h => nomatch h)] at q
    unfold wE at q
    refine ⟨fx, Γ, s, F, A, R, xc, xk, opnE_mono ca (fun d Γ1 s1 h => ?_) q⟩
    intro x H1 F1 A1 R1 hx1 sb1 ro1
    refine ⟨_, rfl, ?_⟩
    rw [isnone_iff ro1.1]
    exact h H1 F1 A1 R1 hx1 sb1
theorem n_isb {ca : E rm.S} {a : Expr} {j : Nat} {b : Bool} {p p' : Pos} (ha : PE X a (rdP W ca)) :
    (PE X (.Compare a [.Is] [.Constant (.bool b) j p'] p) (rdE W (.isb true b ca)) ∧ PT X (.Compare a [.Is] [.Constant (.bool b) j p'] p) (rdT W (.isb true b ca))) ∧
    (PE X (.Compare a [.IsNot] [.Constant (.bool b) j p'] p) (rdE W (.isb false b ca)) ∧ PT X (.Compare a [.IsNot] [.Constant (.bool b) j p'] p) (rdT W (.isb false b ca))) := by
  have e1 : ∀ c b : Bool, decide (c = b) = (if true = true then c == b else !(c == b)) := by decide
  have e2 : ∀ c b : Bool, (!decide (c = b)) = (if false = true then c == b else !(c == b)) := by decide
  refine ⟨⟨PE_imp (pe_cmpR op_isBl ha (pe_bl (b := b)) (nomark _)) fun σ H Q q => ?_, PT_imp (pt_cmpR op_isBl ha (pe_bl (b := b)) (nomark _)) fun σ H Q q => ?_⟩, ⟨PE_imp (pe_cmpR op_notBl ha (pe_bl (b := b)) (nomark _)) fun σ H Q q => ?_, PT_imp (pt_cmpR op_notBl ha (pe_bl (b := b)) (nomark _)) fun σ H Q q => ?_⟩⟩
  · obtain ⟨fx, Γ, s, F, A, R, xc, xk, q⟩ := q
    unfold wE at q
    refine ⟨fx, Γ, s, F, A, R, xc, xk, opnE_mono ca (fun d Γ1 s1 h => ?_) q⟩
    intro x H1 F1 A1 R1 hx1 sb1 ro1
    obtain ⟨c, rfl, h⟩ := boolD_some h
    refine ⟨_, b, flat_bool ro1.1, rfl, ?_⟩
    rw [e1]
    exact h _ H1 F1 A1 R1 hx1 sb1 (.bl _)
  · obtain ⟨fx, Γ, s, F, A, R, xc, xk, q⟩ := q
    change opn (.isb true b ca) _ Γ s _ at q
    rw [opn_nv (c := (.isb true b ca)) (fun i h => nomatch h)] at q
    unfold wE at q
    refine ⟨fx, Γ, s, F, A, R, xc, xk, opnE_mono ca (fun d Γ1 s1 h => ?_) q⟩
    intro x H1 F1 A1 R1 hx1 sb1 ro1
    obtain ⟨c, rfl, h⟩ := boolD_some h
    refine ⟨_, b, flat_bool ro1.1, rfl, _, rfl, ?_⟩
    rw [e1]
    exact h H1 F1 A1 R1 hx1 sb1
  · obtain ⟨fx, Γ, s, F, A, R, xc, xk, q⟩ := q
    unfold wE at q
    refine ⟨fx, Γ, s, F, A, R, xc, xk, opnE_mono ca (fun d Γ1 s1 h => ?_) q⟩
    intro x H1 F1 A1 R1 hx1 sb1 ro1
    obtain ⟨c, rfl, h⟩ := boolD_some h
    refine ⟨_, b, flat_bool ro1.1, rfl, ?_⟩
    rw [e2]
    exact h _ H1 F1 A1 R1 hx1 sb1 (.bl _)
  · obtain ⟨fx, Γ, s, F, A, R, xc, xk, q⟩ := q
    change opn (.isb false b ca) _ Γ s _ at q
    rw [opn_nv (c := (.isb false b ca)) (fun i h => nomatch h)] at q
    unfold wE at q
    refine ⟨fx, Γ, s, F, A, R, xc, xk, opnE_mono ca (fun d Γ1 s1 h => ?_) q⟩
    intro x H1 F1 A1 R1 hx1 sb1 ro1
    obtain ⟨c, rfl, h⟩ := boolD_some h
    refine ⟨_, b, flat_bool ro1.1, rfl, _, rfl, ?_⟩
    rw [e2]
    exact h H1 F1 A1 R1 hx1 sb1
end
end Ac
namespace Ac
open PySem PySem.Spec PyProof.Rows L2
/-! ### a def's promise where no repr is under way -/
structure FnG (P : Program) (w : World) (K : PySem.W.Frag) (mg : Str → Option Value) (base : Heap) (k : Nat) (f : Addr) (fd : FuncData) (ps : List Str) (sp : Sp) : Prop where
  len : ∀ vs H Q E, sp vs H Q E → vs.length = ps.length
  run : ∀ (A : Around) (ou : List Env) (s : Shared) (H : Hp) (ar : Args) (us : List Value) (vs : List V) (Q : VK) (E : XK), Room k A → A.guards = some [] → Env0 P w K mg base A ou s H → BindsTo s fd ar (ps.zip us) → Vals vs us → sp vs H Q E →
    codeAny (model P w) A (.call (.ref f) ar) (CR (L2.CX P w) ou P w H s Q E) s
theorem FnG.mono {P : Program} {w : World} {K : PySem.W.Frag} {mg : Str → Option Value} {base : Heap} {j k : Nat} {f : Addr} {fd : FuncData} {ps : List Str} {sp : Sp} (F : FnG P w K mg base j f fd ps sp) (h : j ≤ k) : FnG P w K mg base k f fd ps sp :=
  { len := F.len, run := fun A ou s H ar us vs Q E hr => F.run A ou s H ar us vs Q E (hr.mono h) }
section
variable {P : Program} {w : World} {K : PySem.W.Frag} {mg : Str → Option Value} {base : Heap} {k : Nat} {f : Addr} {x : Str} {st : Stmt} {fd : FuncData} {N ps : List Str} {sp : Sp}
/-- by its body -/
theorem fnG_of (F : Fun K x x st f fd) (S : FnScope N ps (defScope st)) (hlen : ∀ vs H Q E, sp vs H Q E → vs.length = ps.length)
    (hb : ∀ (cdv : Value) (A : Around) (ou : List Env) (s : Shared) (H : Hp) (vs : List V) (Q : VK) (E : XK), Room k (A.deeper (envOfC x (defScope st) s.heap.objs.size f cdv)) → A.guards = some [] → sp vs H Q E →
      ∃ t, PSs (cxOf (L2.CX P w) P w K mg base N x (defScope st) f cdv A ou s H E) (defBody st) t ∧ t { nx := fun _ H' => Q .non H', rt := Q } (L2.start N vs) H) : FnG P w K mg base (k + 1) f fd ps sp := by
  obtain ⟨oc, od, kV, doc, pm, an, cdv, ct, osl, rfl, lk, hcd⟩ := F.ex
  constructor
  · exact hlen
  intro A ou s H ar us vs Q E hr hgd e0 hbd rv hsp
  have hl := hlen vs H Q E hsp
  have hin : ∀ b o, base.get? b = some o → s.heap.get? b = some o := fun b o e => (e0.bs b o e).1
  have KX : K.In s.heap := e0.mod.kin.keeps hin
  have lim : s.heap.NoLimit := e0.mod.nolimit.keeps hin
  refine codeAny_call_function hr.depth (KX _ _ lk) rfl S.co S.gen rfl (PySem.W.codeRec_of KX hcd) (hbd _ _ _ _ ?_)
  refine wpAny_newFunctionEnv_cells S.kind (fun y hy => ?_) fun env he s1 x1 => ?_
  · rcases S.par y.1 (List.of_mem_zip hy).1 with q | q
    · exact Or.inl q
    · exact Or.inr ⟨q, PySem.W.cellsFrom_some _ _ _ (Or.inl q)⟩
  · subst he
    refine ⟨lim.keeps x1.toInCall.keep, codeAny_func ?_⟩
    obtain ⟨t, ht, hq⟩ := hb cdv A ou s H vs Q E (hr.deeper _) hgd hsp
    have I := inv_start (CX := L2.CX P w) (E := E) (mg := mg) S hr.hd e0 hl rv x1
    refine wpAny_mono (ht.run [] s1 (L2.start N vs) H _ I hq) (fun fl s' hs => ?_) fun _ _ z => z
    cases fl with
    | ret u =>
      obtain ⟨v, σ', H', J, rv', q⟩ := hs
      exact ⟨v, H', J.os, J.bare, J.base, J.hok, rv', q⟩
    | next =>
      obtain ⟨σ', H', J, q⟩ := hs
      exact ⟨V.non, H', J.os, J.bare, J.base, J.hok, rfl, q⟩
    | brk => exact hs.elim fun _ z => z.elim fun _ z => z.2.elim
    | cont => exact hs.elim fun _ z => z.elim fun _ z => z.2.elim
end
section
variable {X : Cx} {k : Nat} {f : Addr} {fd : FuncData} {ps : List Str} {sp : Sp} {E : L2.St → XK} {x : Str} {p pos : Pos} {e : Expr} {es : List Expr} {t : TA}
theorem runG {pins : List (Addr × Obj)} {σ : L2.St} {H : Hp} {s : Shared} {Q : VK} {us : List Value} {vs : List V} (F : FnG X.prog X.w X.K X.mg X.base k f fd ps sp) (hr : Room k X.A) (hgd : X.A.guards = some []) (hb : Binds X.K fd ps []) (hx : PassesAt (L2.CX X.prog X.w) X σ (E σ))
    (I : Inv X pins σ H s) (r : Vals vs us) (h : sp vs H Q (E σ)) : wpAny (model X.prog X.w) X.A (call (.ref f) us) (EP X pins σ Q) X.xe s := by
  have hl : us.length = ps.length := by rw [← r.length]; exact F.len _ _ _ _ h
  have hb' : BindsTo s fd ⟨us, []⟩ (ps.zip us) := by
    have z := hb s us I.kIn (by rw [List.append_nil]; exact hl)
    rw [List.append_nil] at z
    exact z
  refine wpAny_call (codeAny_mono (F.run X.A X.stack s H ⟨us, []⟩ us vs Q (E σ) hr hgd I.env0 hb' r h) fun r s' hq => ?_)
  match r, hq with
  | .error e, hq => exact hx pins H s e s' I hq
  | .ok (.ret u), hq => exact I.after hq
  | .ok .next, hq => exact hq.elim
  | .ok .brk, hq => exact hq.elim
  | .ok .cont, hq => exact hq.elim
theorem pe_callG (F : FnG X.prog X.w X.K X.mg X.base k f fd ps sp) (hr : Room k X.A) (hgd : X.A.guards = some []) (hg : Gl X x) (hm : X.mg x = some (.ref f)) (hk : PySem.W.keepIn X.K (.ref f) = true) (hb : Binds X.K fd ps []) (hx : ∀ σ, PassesAt (L2.CX X.prog X.w) X σ (E σ))
    (ha : PA X (e :: es) t) (hdb : (x == ("__debug__" : Str)) = false) (he : starEach (e :: es) X.env = (false, eval e X.env) :: starEach es X.env) (hpl : (backTo pos (starEach es X.env)).any (·.1) = false) :
    PE X (.Call (.Name x p) (e :: es) [] pos) (fun σ H Q => t σ H fun vs H1 => sp vs H1 Q (E σ)) := by
  constructor
  intro pins s σ H Q I h
  refine wpAny_Call_Name_kw (ld_glob I hg hm ?_ hdb)
  refine PySem.W.callWith_K (h₀ := X.base) I.ok.mod.kin hk (thn (ha.run pos pins s σ H _ I h) fun us s1 z => ?_) he hpl
  obtain ⟨vs, H1, I1, r, q⟩ := z
  exact ⟨I1.kIn, runG F hr hgd hb (hx σ) I1 r q⟩
theorem pe_callG0 (F : FnG X.prog X.w X.K X.mg X.base k f fd ps sp) (hr : Room k X.A) (hgd : X.A.guards = some []) (hg : Gl X x) (hm : X.mg x = some (.ref f)) (hk : PySem.W.keepIn X.K (.ref f) = true) (hb : Binds X.K fd ps []) (hx : ∀ σ, PassesAt (L2.CX X.prog X.w) X σ (E σ))
    (hdb : (x == ("__debug__" : Str)) = false) : PE X (.Call (.Name x p) [] [] pos) (fun σ H Q => sp [] H Q (E σ)) := by
  constructor
  intro pins s σ H Q I h
  exact wpAny_Call_Name_kw (ld_glob I hg hm (PySem.W.callWith_K0 I.kIn hk (runG (us := []) F hr hgd hb (hx σ) I .nil h)) hdb)
end
/-! ### the law's call -/
def oneH (a : Addr) (o : HO) : Hp := fun b => if b = a then some o else none
theorem oneH_some {a b : Addr} {o u : HO} (h : oneH a o b = some u) : b = a ∧ u = o := by
  unfold oneH at h
  split at h
  · exact ⟨‹_›, (Option.some.inj h).symm⟩
  · cases h
theorem oneH_none {a b : Addr} {o : HO} (h : b ≠ a) : oneH a o b = none := by
  unfold oneH
  rw [if_neg h]
theorem lawG {P : Program} {w : World} {K : PySem.W.Frag} {mg mb : Str → Option Value} {k : Nat} {fa a : Addr} {fd : FuncData} {x : Str} {sp : Sp} {s1 : Shared} {vs : List Value} {ns : List Int}
    (KX : K.In s1.heap) (g1 : s1.heap.Ns mainGlobals mg) (g2 : s1.heap.Ns builtinsNs mb) (g3 : ∀ y : Str, y ≠ "__name__" → mb y = bootBuiltins y) (lim : s1.heap.NoLimit) (gn : s1.gens = #[])
    (ha : s1.heap.get? a = some { cls := .type "list", data := .seq vs.toArray }) (hi : IntsAre vs ns) (hl : ns.length ≤ sizeLine) (hr : Room k callerA) (hK : K.lookup a = none) {mm : Str → Option Value} (hsm : s1.heap.Ns sysModules mm)
    (F : ∀ base : Heap, K.In base → base.Ns mainGlobals mg → (∃ o, base.get? sysModules = some o) → FnG P w K mg base k fa fd [x] sp) (bd : ∀ (s : Shared) (u : Value), BindsTo s fd ⟨[u], []⟩ [(x, u)])
    (hsp : ∀ H : Hp, Rd H a (.lst (ns.map V.int)) → sp [.ref a] H (fun v _ => v = .bl true) fun _ _ _ => False) :
    codeAny (model P w) callerA (.call (.ref fa) ⟨[.ref a], []⟩) (fun r s' => r = .ok (.ret (.bool true)) ∧ OldK s1.heap s'.heap ∧ s'.os = s1.os ∧ AllBare s'.gens) s1 := by
  let ob : Obj := { cls := .type "list", data := .seq vs.toArray }
  let H0 : Hp := oneH a (.frz ob (.lst (ns.map V.int)))
  have e0 : H0 a = some (.frz ob (.lst (ns.map V.int))) := if_pos rfl
  have hok : HOk P w H0 s1.heap := fun b u z => by
    obtain ⟨rfl, rfl⟩ := oneH_some z
    exact ⟨ha, by rw [List.length_map]; exact hl, vs, _, vals_ints hi, ha⟩
  have keepB : ∀ b o, s1.heap.get? b = some o → b ≠ a → (hidT s1.heap H0).get? b = some o := fun b o e n => hidT_get e (oneH_none n)
  have apart : ∀ (b : Addr) (o : Obj) (es : Array DictEntry) (ep : Nat), s1.heap.get? b = some o → o.data = .dict es ep → b ≠ a := fun b o es ep e d z => by
    subst z
    rw [ha] at e
    cases e
    cases d
  have nsB : ∀ {b : Addr} {m : Str → Option Value}, s1.heap.Ns b m → (hidT s1.heap H0).Ns b m := fun {b m} z => by
    obtain ⟨o, es, ep, e, d, r⟩ := z
    exact ⟨o, es, ep, keepB b o e (apart b o es ep e d), d, r⟩
  have hKb : K.In (hidT s1.heap H0) := fun b o e => keepB b o (KX b o e) fun z => by
    subst z
    rw [hK] at e
    cases e
  have hM : Mod K mg (hidT s1.heap H0) := { kin := hKb, glob := nsB g1, blt := ⟨mb, nsB g2, g3⟩, nolimit := by obtain ⟨mc, z1, z2⟩ := lim; exact ⟨mc, nsB z1, z2⟩ }
  have en : Env0 P w K mg (hidT s1.heap H0) callerA [] s1 H0 :=
    { frames := rfl, mod := hM, bs := fun b o e => of_hidT e, bsz := Nat.le_of_eq (hidT_size _ _), funs := trivial, frf := fun b hb => (nomatch hb), hok := hok, bare := .of_eq gn }
  have hsb : ∃ o, (hidT s1.heap H0).get? sysModules = some o := by obtain ⟨o, _, _, e, _⟩ := nsB hsm; exact ⟨o, e⟩
  refine codeAny_mono ((F _ hKb (nsB g1) hsb).run callerA [] s1 H0 ⟨[.ref a], []⟩ [.ref a] [.ref a] _ _ hr rfl en (bd s1 (.ref a)) (.cons rfl .nil) (hsp H0 (.inr ⟨_, e0⟩))) fun r s' hq => ?_
  match r, hq with
  | .error e, hq =>
    obtain ⟨_, _, _, _, _, _, _, _, _, _, _, _, z⟩ := hq
    exact z.elim
  | .ok (.ret u), hq =>
    obtain ⟨v, H', os, bare, un, hok', r', q⟩ := hq
    have q : v = V.bl true := q
    subst q
    obtain rfl : u = Value.bool true := r'
    refine ⟨rfl, OldK.of_keep fun b o e => ?_, os, bare⟩
    by_cases z : b = a
    · subst z
      rw [ha] at e
      cases e
      exact (hok' b _ (un.frzs b ob _ e0)).1
    · exact un.keep b o e (oneH_none z) (fun z => (nomatch z)) (fun z => (nomatch z))
  | .ok .next, hq => exact hq.elim
  | .ok .brk, hq => exact hq.elim
  | .ok .cont, hq => exact hq.elim
end Ac
namespace Ac
open PySem PySem.Spec PyProof.Rows L2
section
variable {rm : RM} {X : Cx} {k : Nat} {t : Sx} {W : WN} {fx : Fx rm} {xc : Nat → Ctx → rm.S → Prop} {σ : L2.St} {H F : Hp} {Γ : Ctx} {s : rm.S} {A : rm.A}
/-! ### items, slices -/
theorem ixD_at {xs : List D} {vs : List V} {i : Int} {K : D → Prop} (r : RpL F vs xs) (h : ixD xs i K) : ∃ d v, atI vs i = some v ∧ Rp F v d ∧ K d := by
  unfold ixD at h
  split at h
  · rename_i d e
    cases e1 : ixN xs.length i with
    | none => rw [e1] at e; cases e
    | some j =>
      rw [e1] at e
      obtain ⟨v, hv, rp⟩ := r.get (i := j) (y := d) e
      refine ⟨d, v, ?_, rp, h⟩
      unfold atI
      rw [r.length, e1]
      exact hv
  · exact h.elim
theorem n_ix {ca cb : E rm.S} {a b : Expr} {p : Pos} (ha : PE X a (rdP W ca)) (hb : PE X b (rdP W cb)) (hs : PlainIx b) : PE X (.Subscript a b p) (rdE W (.ix ca cb)) := by
  refine PE_imp (pe_ix ix_seq ha hb hs) fun σ H Q q => ?_
  obtain ⟨fx, Γ, s, F, A, R, xc, xk, q⟩ := q
  unfold wE at q
  refine op_rd (f := fun _ _ => pure .none) (g := fun x y k => ixX x y fun d => k (.dat d)) ?_ ?_ R xk q
  · intro rm fx σ H Γ s F A x y d e Q R hx hy h
    unfold ixX at h
    split at h
    · obtain ⟨a, vs, e1, q1, r1⟩ := hx.lst R.fh
      obtain ⟨d, v, h1, h2, h3⟩ := ixD_at r1 h
      exact .inl ⟨a, vs, _, v, e1, flat_int hy, .inl q1, h1, KQ.dat R h2 h3⟩
    · obtain ⟨a, vs, e1, q1, r1⟩ := hx.tup
      obtain ⟨d, v, h1, h2, h3⟩ := ixD_at r1 h
      exact .inr (.inl ⟨a, vs, _, v, e1, flat_int hy, .inl (.inl (R.fh _ _ q1)), h1, KQ.dat R h2 h3⟩)
    · exact h.elim
  · intro x y k k' hk h
    exact ixX_mono (fun d => hk _) h
theorem cut_rel {xs : List D} {vs : List V} {lo hi : Option Int} (r : RpL F vs xs) : RpL F (cutV vs lo hi) (cutD xs lo hi) := by
  unfold cutV cutD
  rw [r.length]
  exact (r.drop _).take _
theorem n_part0 : PO X none (rdPart W (.nil : Es rm.S)) := by
  refine PO_imp po_none fun σ H Q q => ?_
  obtain ⟨fx, Γ, s, F, A, R, xc, xk, q⟩ := q
  unfold wP at q
  exact q H F A R (HX.refl H A) (Sub.refl F)
theorem n_part1 {c : E rm.S} {r : Es rm.S} {e : Expr} (h : PE X e (rdP W c)) : PO X (some e) (rdPart W (.cons c r)) := by
  refine PO_imp (po_some h) fun σ H Q q => ?_
  obtain ⟨fx, Γ, s, F, A, R, xc, xk, q⟩ := q
  unfold wP at q
  refine ⟨fx, Γ, s, F, A, R, xc, xk, opnE_mono c (fun d Γ1 s1 h => ?_) q⟩
  intro x H1 F1 A1 R1 hx1 sb1 ro1
  unfold intX at h
  split at h
  · exact ⟨_, flat_int ro1.1, h H1 F1 A1 R1 hx1 sb1⟩
  · exact h.elim
theorem n_sl {ca : E rm.S} {cl ch : Es rm.S} {a : Expr} {lo hi : Option Expr} {p p2 : Pos} (ha : PE X a (rdP W ca)) (hl : PO X lo (rdPart W cl)) (hh : PO X hi (rdPart W ch)) : PE X (.Subscript a (.Slice lo hi none p2) p) (rdE W (.sl ca cl ch)) := by
  refine PE_imp (pe_slice sl_list ha hl hh) fun σ H Q q => ?_
  obtain ⟨fx, Γ, s, F, A, R, xc, xk, q⟩ := q
  unfold wE at q
  refine ⟨fx, Γ, s, F, A, R, xc, xk, opnE_mono ca (fun d Γ1 s1 q => ?_) q⟩
  intro x H1 F1 A1 R1 hx1 sb1 ro1
  refine ⟨fx, Γ1, s1, F1, A1, R1, xc, xk, wP_mono cl (fun l Γ2 s2 q => ?_) q⟩
  intro H2 F2 A2 R2 hx2 sb2
  refine ⟨fx, Γ2, s2, F2, A2, R2, xc, xk, wP_mono ch (fun h Γ3 s3 q => ?_) q⟩
  intro H3 F3 A3 R3 hx3 sb3
  unfold slX at q
  split at q
  · obtain ⟨a, vs, e1, q1, r1⟩ := ((ro1.1.mono hx2 sb2).mono hx3 sb3).lst R3.fh
    exact ⟨a, vs, e1, .inl q1, fun p hp => KQ.mk R3 hp (cut_rel r1) (q.kq ((hx1.trans hx2).trans hx3) ((sb1.trans sb2).trans sb3))⟩
  · exact q.elim
theorem n_rv {ca : E rm.S} {a : Expr} {kk : Nat} {p p1 p2 p3 : Pos} (ha : PE X a (rdP W ca)) : PE X (.Subscript a (.Slice none none (some (.UnaryOp .USub (.Constant (.int 1) kk p1) p2)) p3) p) (rdE W (.rv ca)) := by
  refine PE_imp (pe_revL ha) fun σ H Q q => ?_
  obtain ⟨fx, Γ, s, F, A, R, xc, xk, q⟩ := q
  unfold wE at q
  refine ⟨fx, Γ, s, F, A, R, xc, xk, opnE_mono ca (fun d Γ1 s1 q => ?_) q⟩
  intro x H1 F1 A1 R1 hx1 sb1 ro1
  unfold rvX at q
  split at q
  · obtain ⟨a, vs, e1, q1, r1⟩ := ro1.1.lst R1.fh
    exact ⟨a, vs, e1, .inl q1, fun p hp => KQ.mk R1 hp r1.reverse (q.kq hx1 sb1)⟩
  · exact q.elim
/-! ### arguments -/
theorem RoC.mono {c : E rm.S} {H' F' : Hp} {A' : rm.A} {x : V} {d : D} (h : RoC c σ H F A x d) (hx : HX H A H' A') (sb : Sub F F') : RoC c σ H' F' A' x d := by
  refine ⟨h.1.mono hx sb, ?_⟩
  have h2 := h.2
  cases c with
  | var i => exact h2
  | _ => exact Rp.mono sb h2
theorem n_a0 : PA X [] (rdA W (.nil : Es rm.S)) := by
  refine PA_imp pa_nil fun σ H Q q => ?_
  obtain ⟨fx, Γ, s, F, A, R, xc, xk, q⟩ := q
  unfold wA at q
  exact q [] H F A R (HX.refl H A) (Sub.refl F) trivial
theorem n_a1 {c : E rm.S} {r : Es rm.S} {e : Expr} {es : List Expr} (h : PE X e (rdP W c)) (hr : PA X es (rdA W r)) (hs : shp e = true) : PA X (e :: es) (rdA W (.cons c r)) := by
  refine PA_imp (pa_cons h hr (star1 hs)) fun σ H Q q => ?_
  obtain ⟨fx, Γ, s, F, A, R, xc, xk, q⟩ := q
  unfold wA at q
  refine ⟨fx, Γ, s, F, A, R, xc, xk, opnE_mono c (fun d Γ1 s1 q => ?_) q⟩
  intro x H1 F1 A1 R1 hx1 sb1 ro1
  refine ⟨fx, Γ1, s1, F1, A1, R1, xc, xk, wA_mono r (fun ds Γ2 s2 q => ?_) q⟩
  intro xs H2 F2 A2 R2 hx2 sb2 ar
  exact q (x :: xs) H2 F2 A2 R2 (hx1.trans hx2) (sb1.trans sb2) ⟨ro1.mono hx2 sb2, ar⟩
theorem n_x0 : PA X [] (rdX W (.nil : Es rm.S)) := by
  refine PA_imp pa_nil fun σ H Q q => ?_
  obtain ⟨fx, Γ, s, F, A, R, xc, xk, q⟩ := q
  unfold wX at q
  exact q [] H F A R (HX.refl H A) (Sub.refl F) .nil
theorem n_x1 {c : E rm.S} {r : Es rm.S} {e : Expr} {es : List Expr} (h : PE X e (rdE W c)) (hr : PA X es (rdX W r)) (hs : shp e = true) : PA X (e :: es) (rdX W (.cons c r)) := by
  refine PA_imp (pa_cons h hr (star1 hs)) fun σ H Q q => ?_
  obtain ⟨fx, Γ, s, F, A, R, xc, xk, q⟩ := q
  unfold wX at q
  refine ⟨fx, Γ, s, F, A, R, xc, xk, wE_mono c (fun v Γ1 s1 q => ?_) q⟩
  intro x H1 F1 A1 R1 hx1 sb1 rv
  obtain ⟨d, F1', q, R1', sb1', rp⟩ := R1.stay rv q
  refine ⟨fx, Γ1, s1, F1', A1, R1', xc, xk, wX_mono r (fun ds Γ2 s2 q => ?_) q⟩
  intro xs H2 F2 A2 R2 hx2 sb2 ar
  exact q (x :: xs) H2 F2 A2 R2 (hx1.trans hx2) ((sb1.trans sb1').trans sb2) (.cons (rp.mono sb2) ar)
theorem n_v0 : PA X [] (rdV W (.nil : Es rm.S)) := by
  refine PA_imp pa_nil fun σ H Q q => ?_
  obtain ⟨fx, Γ, s, F, A, R, xc, xk, q⟩ := q
  unfold wV at q
  exact q [] H F A R (HX.refl H A) (Sub.refl F) .nil
theorem n_v1 {c : E rm.S} {r : Es rm.S} {e : Expr} {es : List Expr} (h : PE X e (rdE W c)) (hr : PA X es (rdV W r)) (hs : shp e = true) : PA X (e :: es) (rdV W (.cons c r)) := by
  refine PA_imp (pa_cons h hr (star1 hs)) fun σ H Q q => ?_
  obtain ⟨fx, Γ, s, F, A, R, xc, xk, q⟩ := q
  unfold wV at q
  refine ⟨fx, Γ, s, F, A, R, xc, xk, wE_mono c (fun v Γ1 s1 q => ?_) q⟩
  intro x H1 F1 A1 R1 hx1 sb1 rv
  cases v with
  | dat d =>
    refine ⟨fx, Γ1, s1, F1, A1, R1, xc, xk, wV_mono r (fun ds Γ2 s2 q => ?_) q⟩
    intro xs H2 F2 A2 R2 hx2 sb2 ar
    exact q (x :: xs) H2 F2 A2 R2 (hx1.trans hx2) (sb1.trans sb2) (.cons (Rp.mono sb2 rv) ar)
  | new xs =>
    obtain ⟨d, F1', q, R1', sb1', rp⟩ := R1.stay (v := .new xs) (k := fun d => d = .list xs) rv rfl
    subst q
    rename_i q
    refine ⟨fx, Γ1, s1, F1', A1, R1', xc, xk, wV_mono r (fun ds Γ2 s2 q => ?_) q⟩
    intro xs H2 F2 A2 R2 hx2 sb2 ar
    exact q (x :: xs) H2 F2 A2 R2 (hx1.trans hx2) ((sb1.trans sb1').trans sb2) (.cons (Rp.mono sb2 rp) ar)
  | own xs => exact q.elim
  | hdl n =>
    refine ⟨fx, Γ1, s1, F1, A1, R1, xc, xk, wV_mono r (fun ds Γ2 s2 q => ?_) q⟩
    intro xs H2 F2 A2 R2 hx2 sb2 ar
    exact q (x :: xs) H2 F2 A2 R2 (hx1.trans hx2) (sb1.trans sb2) (.cons (rm.le_hd hx2.1 rv) ar)
/-! ### displays -/
theorem n_ls {cs : Es rm.S} {es : List Expr} {p : Pos} (h : PA X es (rdX W cs)) : PE X (.List es p) (rdE W (.ls cs)) := by
  refine PE_imp (pe_lst h) fun σ H Q q => ?_
  obtain ⟨fx, Γ, s, F, A, R, xc, xk, q⟩ := q
  unfold wE at q
  refine ⟨fx, Γ, s, F, A, R, xc, xk, wX_mono cs (fun ds Γ1 s1 q => ?_) q⟩
  intro xs H1 F1 A1 R1 hx1 sb1 ar
  exact ⟨by rw [ar.length]; exact big_sz q.1, fun p hp => KQ.mk R1 hp ar (q.2.kq hx1 sb1)⟩
theorem n_tp {cs : Es rm.S} {es : List Expr} {kk : Nat} {p : Pos} (h : PA X es (rdX W cs)) : PE X (.Tuple es kk p) (rdE W (.tp cs)) := by
  refine PE_imp (pe_tup h) fun σ H Q q => ?_
  obtain ⟨fx, Γ, s, F, A, R, xc, xk, q⟩ := q
  unfold wE at q
  refine ⟨fx, Γ, s, F, A, R, xc, xk, wX_mono cs (fun ds Γ1 s1 q => ?_) q⟩
  intro xs H1 F1 A1 R1 hx1 sb1 ar
  exact ⟨by rw [ar.length]; exact big_sz q.1, fun p hp => KQ.mkT R1 hp ar (q.2.kq hx1 sb1)⟩
theorem n_rep {cs : Es rm.S} {cb : E rm.S} {es : List Expr} {b : Expr} {p p2 : Pos} (h : PA X es (rdX W cs)) (hb : PE X b (rdP W cb)) : PE X (.BinOp (.List es p2) .Mult b p) (rdE W (.rep cs cb)) := by
  refine PE_imp (pe_op op_rep (pe_lst h) hb) fun σ H Q q => ?_
  obtain ⟨fx, Γ, s, F, A, R, xc, xk, q⟩ := q
  unfold wE at q
  refine ⟨fx, Γ, s, F, A, R, xc, xk, wX_mono cs (fun ds Γ1 s1 q => ?_) q⟩
  intro xs H1 F1 A1 R1 hx1 sb1 ar
  refine ⟨by rw [ar.length]; exact big_sz q.1, fun l hl => ?_⟩
  refine ⟨fx, Γ1, s1, F1, A1, R1.alloc hl, xc, xk, opnE_mono cb (fun e Γ2 s2 q => ?_) q.2⟩
  intro y H2 F2 A2 R2 hx2 sb2 ro2
  have hl2 := (hx2.2 l (.lst xs) upd_same (R1.nft hl)).1
  unfold repX at q
  split at q
  · rename_i j
    obtain ⟨⟨q0, q1, q2⟩, q3⟩ := q
    exact ⟨l, j, xs, rfl, flat_int ro2.1, hl2, by omega, by omega, by rw [ar.length]; exact big_sz q2, fun p hp => KQ.mk R2 hp ((ar.mono sb2).rep j.toNat) (q3.kq ((hx1.trans (R1.hx hl)).trans hx2) (sb1.trans sb2))⟩
  · exact q.elim
/-! ### built-in functions -/
theorem ArgL.roL : ∀ {cs : Es rm.S} {xs : List V} {ds : List D}, ArgL σ H F A cs xs ds → RoL H F A xs ds
  | .nil, [], [], _ => .nil
  | .cons e r, x :: xs, d :: ds, h => .cons h.1.1 (ArgL.roL h.2)
  | .nil, _ :: _, _, h => h.elim
  | .nil, [], _ :: _, h => h.elim
  | .cons _ _, [], _, h => h.elim
  | .cons _ _, _ :: _, [], h => h.elim
theorem cb_rd {b : BI} {cs : Es rm.S} {g : List D → (Val → Prop) → Prop} {r : List V → Hp → VK → Prop} (hb : biD b = g)
    (hr : ∀ (rm : RM) (fx : Fx rm) (σ : L2.St) (H : Hp) (Γ : Ctx) (s : rm.S) (F : Hp) (A : rm.A) (xs : List V) (ds : List D) (Q : VK), SR fx σ H Γ s F A → RoL H F A xs ds → g ds (KQ fx σ H F A Γ s Q) → r xs H Q)
    {Q : VK} (q : rdE W (.bi b cs) σ H Q) : tCB r (rdA W cs) σ H Q := by
  obtain ⟨fx, Γ, s, F, A, R, xc, xk, q⟩ := q
  unfold wE at q
  refine ⟨fx, Γ, s, F, A, R, xc, xk, wA_mono cs (fun ds Γ1 s1 q => ?_) q⟩
  intro xs H1 F1 A1 R1 hx1 sb1 ar
  refine hr rm fx σ H1 Γ1 s1 F1 A1 xs ds Q R1 ar.roL ?_
  rw [← hb]
  exact biD_mono (fun v q => q.kq hx1 sb1) q
theorem n_biB {b : BI} {cs : Es rm.S} {x : Str} {id : String} {e : Expr} {es : List Expr} {p p2 : Pos} (hc : CallS X (.builtin id) (biD b)) (hg : Gl X x) (hm : X.mg x = none) (hv : bootBuiltins x = some (.builtin id)) (ha : PA X (e :: es) (rdA W cs)) (hs : shpL (e :: es) = true)
    (hn : x ≠ "__name__") (hdb : (x == ("__debug__" : Str)) = false) : PE X (.Call (.Name x p2) (e :: es) [] p) (rdE W (.bi b cs)) := by
  obtain ⟨r, h1, h2⟩ := hc
  unfold shpL at hs
  rw [List.all_cons, Bool.and_eq_true] at hs
  exact PE_imp (pe_callB h1 hg hm hv ha hn hdb (star1 hs.1) (stars hs.2)) fun σ H Q q => cb_rd rfl h2 q
theorem n_biT {b : BI} {cs : Es rm.S} {x : Str} {T : String} {e : Expr} {es : List Expr} {p p2 : Pos} (hc : CallS X (.type T) (biD b)) (hg : Gl X x) (hm : X.mg x = none) (hv : bootBuiltins x = some (.type T)) (ha : PA X (e :: es) (rdA W cs)) (hs : shpL (e :: es) = true)
    (hn : x ≠ "__name__") (hdb : (x == ("__debug__" : Str)) = false) : PE X (.Call (.Name x p2) (e :: es) [] p) (rdE W (.bi b cs)) := by
  obtain ⟨r, h1, h2⟩ := hc
  unfold shpL at hs
  rw [List.all_cons, Bool.and_eq_true] at hs
  exact PE_imp (pe_callTy h1 hg hm hv ha hn hdb (star1 hs.1) (stars hs.2)) fun σ H Q q => cb_rd rfl h2 q
theorem n_isi {b : BI} {c : E rm.S} {T : String} {x : Str} {f : D → Bool} {e : Expr} {p p2 p3 : Pos} (hb : biD b = isD f) (hk : ∀ d, PySem.W.kitOne X.K (.type (tyN d)) (.type T) = some (f d)) (hg : Gl X "isinstance") (hm : X.mg "isinstance" = none) (he : PE X e (rdP W c)) (hs : shp e = true)
    (hT : PE X (.Name x p3) (tC (.ty T))) : PE X (.Call (.Name "isinstance" p2) [e, .Name x p3] [] p) (rdE W (.bi b (.cons c .nil))) := by
  refine PE_imp (pe_callB call_isi hg hm PyProof.Rows.boot_isinstance (pa_cons he (pa_cons hT pa_nil) (star1 hs)) (he := star1 hs)) fun σ H Q q => ?_
  obtain ⟨fx, Γ, s, F, A, R, xc, xk, q⟩ := q
  unfold wE wA at q
  rw [hb] at q
  refine ⟨fx, Γ, s, F, A, R, xc, xk, opnE_mono c (fun d Γ1 s1 q => ?_) q⟩
  intro x H1 F1 A1 R1 hx1 sb1 ro1
  unfold wA at q
  exact ⟨x, .ty T, _, _, _, rfl, .ty T, ro1.1.ty R1, hk d, q _ H1 F1 A1 R1 hx1 sb1 (.bl _)⟩
/-! ### calls of defs -/
def RVp (H H' F' : Hp) (x : V) : Val → Prop
  | .dat d => Rp F' x d
  | .new xs => ∃ p vs, x = .ref p ∧ H' p = some (.lst vs) ∧ F' p = none ∧ H p = none ∧ RpL F' vs xs
  | _ => False
/-- the promise of a def of plain data -/
def spP (cl : Nat → Addr) (φ : Summ) : Sp := fun vs H Q E => ∃ F ds, Sub F H ∧ RpL F vs ds ∧ φ.run ds (fun v => ∀ x H' F', Sub H H' → Sub F F' → Sub F' H' → (∀ a, H a ≠ none → F' a = F a) → RVp H H' F' x v → Q x H') (fun n => ∀ H', Sub H H' → E (.ref (cl n)) none H')
def GoodP (cl : Nat → Addr) (X : Cx) (k : Nat) (x : Str) (φ : Summ) : Prop := ∃ f fd ps, FnG X.prog X.w X.K X.mg X.base k f fd ps (spP cl φ) ∧ X.mg x = some (.ref f) ∧ PySem.W.keepIn X.K (.ref f) = true ∧ Binds X.K fd ps []
theorem argsOk_put {Γ : Ctx} {i : Nat} {ys : List D} (e : look Γ i = some (.own ys)) : ∀ r : Es rm.S, argsOk r Γ → argsOk r (put Γ i (some (.dat (.list ys))))
  | .nil, _ => trivial
  | .cons c r, h => by
    cases c with
    | var j =>
      have h' : (match look Γ j with | some (.dat _) => True | some (.own _) => True | _ => False) ∧ argsOk r Γ := h
      refine ⟨?_, argsOk_put e r h'.2⟩
      by_cases z : j = i
      · subst z
        rw [look_put_same (look_lt e)]
        trivial
      · rw [look_put_ne z]
        exact h'.1
    | _ => exact argsOk_put e r h
theorem ArgL_mono {F' : Hp} (sb : Sub F F') : ∀ {cs : Es rm.S} {xs : List V} {ds : List D}, ArgL σ H F A cs xs ds → ArgL σ H F' A cs xs ds
  | .nil, [], [], _ => trivial
  | .cons e r, x :: xs, d :: ds, h => ⟨h.1.mono (HX.refl H A) sb, ArgL_mono sb h.2⟩
  | .nil, _ :: _, _, h => h.elim
  | .nil, [], _ :: _, h => h.elim
  | .cons _ _, [], _, h => h.elim
  | .cons _ _, _ :: _, [], h => h.elim
/-- an own list that is handed in, put to what stays -/
theorem frzA_ok : ∀ {cs : Es rm.S} {Γ : Ctx} {F : Hp} {xs : List V} {ds : List D}, SR fx σ H Γ s F A → argsOk cs Γ → ArgL σ H F A cs xs ds → ∃ F', SR fx σ H (frzA cs Γ) s F' A ∧ Sub F F' ∧ RpL F' xs ds
  | .nil, Γ, F, [], [], R, _, _ => ⟨F, R, Sub.refl F, .nil⟩
  | .nil, _, _, _ :: _, _, _, _, h => h.elim
  | .nil, _, _, [], _ :: _, _, _, h => h.elim
  | .cons _ _, _, _, [], _, _, _, h => h.elim
  | .cons _ _, _, _, _ :: _, [], _, _, h => h.elim
  | .cons c r, Γ, F, x :: xs, d :: ds, R, ok, h => by
   cases c with
   | var i =>
    obtain ⟨⟨ro, hx⟩, h2⟩ := h
    have hx : σ[i]? = some (some x) := hx
    have ok' : (match look Γ i with | some (.dat _) => True | some (.own _) => True | _ => False) ∧ argsOk r Γ := ok
    cases e : look Γ i with
    | none => rw [e] at ok'; exact ok'.1.elim
    | some v =>
      cases v with
      | new xs => rw [e] at ok'; exact ok'.1.elim
      | hdl n => rw [e] at ok'; exact ok'.1.elim
      | dat d' =>
        have rp : Rp F x d := by
          rcases ro with ro | ⟨a, vs, ds', rfl, rfl, e3, _, e5⟩
          · exact ro
          · obtain ⟨y, h1, h3⟩ := R.sl i _ e
            rw [hx] at h1
            cases h1
            cases h3 with
            | lst q1 q2 =>
              rcases q1 with q1 | ⟨o, q1⟩
              · have z := R.fh _ _ q1
                rw [e3] at z
                cases z
                exact .lst (.inl q1) e5
              · have z := R.fh _ _ q1
                rw [e3] at z
                cases z
            | tup q1 q2 =>
              have z := R.fh _ _ q1
              rw [e3] at z
              cases z
            | dic q1 q2 =>
              have z := R.fh _ _ q1
              rw [e3] at z
              cases z
        have ez : frzV Γ i = Γ := by unfold frzV; rw [e]
        have ok2 : argsOk r Γ := ok'.2
        obtain ⟨F', R', sb, rl⟩ := frzA_ok (cs := r) R ok2 h2
        refine ⟨F', ?_, sb, .cons (rp.mono sb) rl⟩
        show SR fx σ H (frzA r (frzV Γ i)) s F' A
        rw [ez]
        exact R'
      | own ys =>
        obtain ⟨a, vs, h1, e2, e3, e6, R1⟩ := R.frzOwn e
        rw [hx] at h1
        cases h1
        have rp : Rp (upd F a (.lst vs)) (V.ref a) d := by
          rcases ro with ro | ⟨a', vs', ds', q1, rfl, q3, _, q5⟩
          · exact ro.mono (upd_sub e3)
          · cases q1
            rw [e2] at q3
            cases q3
            exact .lst (.inl upd_same) (q5.mono (upd_sub e3))
        have ez : frzV Γ i = put Γ i (some (.dat (.list ys))) := by unfold frzV; rw [e]
        have ok2 : argsOk r (put Γ i (some (.dat (.list ys)))) := argsOk_put e r ok'.2
        have h2' : ArgL σ H (upd F a (.lst vs)) A r xs ds := ArgL_mono (upd_sub e3) h2
        obtain ⟨F', R', sb, rl⟩ := frzA_ok (cs := r) R1 ok2 h2'
        refine ⟨F', ?_, (upd_sub e3).trans sb, .cons (rp.mono sb) rl⟩
        show SR fx σ H (frzA r (frzV Γ i)) s F' A
        rw [ez]
        exact R'
   | _ =>
    obtain ⟨⟨ro, hx⟩, h2⟩ := h
    obtain ⟨F', R', sb, rl⟩ := frzA_ok (cs := r) R ok h2
    exact ⟨F', R', sb, .cons (Rp.mono sb hx) rl⟩
theorem same_of {F' : Hp} {x : V} {v : Val} {H' : Hp} (h : RVp H H' F' x v) (sc : scalV v = true) (F2 : Hp) {A' : rm.A} {Γ' : Ctx} : RV fx σ H' F2 A' Γ' x v := by
  cases v with
  | dat d => cases h <;> first | exact .non | exact .bl _ | exact .int _ | exact .str _ | cases sc
  | _ => cases sc
/-- the state behind a call that has put things to the heap -/
theorem SR.grow (R : SR fx σ H Γ s F A) {H' : Hp} (hh : Sub H H') : SR fx σ H' Γ s F A where
  fh := R.fh.trans hh
  fz := R.fz
  f0 := R.f0
  lk := fun a o e => ⟨hh a o (R.lk a o e).1, (R.lk a o e).2⟩
  a0 := R.a0
  ok := rm.frame R.ok fun a ha => by
    cases e : H a with
    | none => exact absurd e (rm.ex R.ok ha)
    | some o => exact hh a o e
  ln := R.ln
  sl := fun i w e => by
    obtain ⟨z, e1, e2⟩ := R.sl i w e
    refine ⟨z, e1, ?_⟩
    cases w with
    | own ys => obtain ⟨a, vs, w1, w2, w3⟩ := e2; exact ⟨a, vs, w1, hh _ _ w2, w3⟩
    | _ => exact e2
  dj := R.dj
theorem SR.growF (Rc : SR fx σ H Γ s F A) {H' F' : Hp} (hh : Sub H H') (ff : Sub F F') (fh' : Sub F' H') (nf : ∀ a, H a ≠ none → F' a = F a) : SR fx σ H' Γ s F' A := by
  refine { fh := fh', fz := fun a o e n => ?_, f0 := Rc.f0.trans ff, lk := fun a o e => ?_, a0 := Rc.a0, ok := (Rc.grow hh).ok, ln := Rc.ln, sl := fun i w e => ?_, dj := Rc.dj }
  · have ne := rm.ex Rc.ok n
    rw [nf a ne] at e
    exact Rc.fz a o e n
  · obtain ⟨w1, w2, w3⟩ := Rc.lk a o e
    exact ⟨hh a o w1, (nf a (by rw [w1]; exact nofun)).trans w2, w3⟩
  · obtain ⟨z, e1, e2⟩ := Rc.sl i w e
    refine ⟨z, e1, ?_⟩
    cases w with
    | own ys =>
      obtain ⟨a, vs, w1, w2, w3, w4, w5, w6⟩ := e2
      exact ⟨a, vs, w1, hh _ _ w2, (nf a (by rw [w2]; exact nofun)).trans w3, w4, w5, w6.mono ff⟩
    | dat d => exact Rp.mono ff e2
    | _ => exact e2
/-- what a call of a plain def gives, in the state -/
theorem SR.called (R1 : SR fx σ H Γ s F A) {Γc : Ctx} {Fc H' F' : Hp} {x : V} {v : Val} (Rc : SR fx σ H Γc s Fc A) (hh : Sub H H') (ff : Sub Fc F') (fh' : Sub F' H') (nf : ∀ a, H a ≠ none → F' a = Fc a) (rv : RVp H H' F' x v) :
    SR fx σ H' Γc s F' A ∧ RV fx σ H' F' A Γc x v := by
  refine ⟨Rc.growF hh ff fh' nf, ?_⟩
  cases v with
  | dat d => exact rv
  | own ys => exact rv.elim
  | hdl n => exact rv.elim
  | new ys =>
    obtain ⟨a, vs, w1, w2, w3, w4, w5⟩ := rv
    refine ⟨a, vs, w1, w2, w3, R1.nft w4, R1.nL w4, w5, fun i zs e z => ?_⟩
    obtain ⟨z', e1, a', vs', g1, g2, _⟩ := Rc.sl i _ e
    rw [z] at e1
    cases e1
    cases g1
    rw [w4] at g2
    cases g2
theorem HX.grow {H H' : Hp} {A : rm.A} (hh : Sub H H') : HX H A H' A := ⟨rm.le_refl A, fun a o e n => ⟨hh a o e, n⟩⟩
theorem n_call {cl : Nat → Addr} {φ : Summ} {x : Str} {cs : Es rm.S} {e0 : Expr} {es : List Expr} {p p2 : Pos} (g : GoodP cl X k x φ) (hr : Room k X.A) (hgd : X.A.guards = some []) (hg : Gl X x) (tk : Takes X (WXof cl W)) (ha : PA X (e0 :: es) (rdA W cs)) (hs : shpL (e0 :: es) = true) (hdb : (x == ("__debug__" : Str)) = false) : PE X (.Call (.Name x p2) (e0 :: es) [] p) (rdE W (.call x φ cs)) := by
  obtain ⟨f, fd, ps, G, h1, h2, h3⟩ := g
  unfold shpL at hs
  rw [List.all_cons, Bool.and_eq_true] at hs
  refine PE_imp (pe_callG (E := fun σ => WE (WXof cl W) σ) G hr hgd hg h1 h2 h3 (fun σ => passAt tk σ) ha hdb (star1 hs.1) (stars hs.2)) fun σ H Q q => ?_
  obtain ⟨fx, Γ, s, F, A, R, xc, xk, q⟩ := q
  unfold wE at q
  refine ⟨fx, Γ, s, F, A, R, xc, xk, wA_mono cs (fun ds Γ1 s1 q => ?_) q⟩
  intro xs H1 F1 A1 R1 hx1 sb1 ar
  obtain ⟨Fc, Rc, sbc, rl⟩ := frzA_ok R1 q.1 ar
  refine ⟨Fc, ds, Rc.fh, rl, φ.mono (fun v q => ?_) (fun n q => ?_) q.2⟩
  · intro y H' F' hh ff fh' nf rv
    cases sv : scalV v with
    | true =>
      rw [if_pos sv] at q
      exact q y H' F1 A1 (R1.grow hh) (hx1.trans (HX.grow hh)) sb1 (same_of rv sv F1)
    | false =>
      rw [if_neg (by rw [sv]; exact Bool.false_ne_true)] at q
      obtain ⟨R2, rv2⟩ := R1.called Rc hh ff fh' nf rv
      exact q y H' F' A1 R2 (hx1.trans (HX.grow hh)) ((sb1.trans sbc).trans ff) rv2
  · intro H' hh
    exact ⟨n, rfl, rfl, xk n _ _ _ _ _ _ (Rc.grow hh) q⟩
theorem n_cal0 {cl : Nat → Addr} {φ : Summ} {x : Str} {p p2 : Pos} (g : GoodP cl X k x φ) (hr : Room k X.A) (hgd : X.A.guards = some []) (hg : Gl X x) (hdb : (x == ("__debug__" : Str)) = false) : PE X (.Call (.Name x p2) [] [] p) (rdE W (.cal0 x φ : E rm.S)) := by
  obtain ⟨f, fd, ps, G, h1, h2, h3⟩ := g
  refine PE_imp (pe_callG0 (E := fun σ => WE (WXof cl W0) σ) G hr hgd hg h1 h2 h3 (fun σ => passAt tk0 σ) hdb) fun σ H Q q => ?_
  obtain ⟨fx, Γ, s, F, A, R, xc, xk, q⟩ := q
  unfold wE at q
  refine ⟨F, [], R.fh, .nil, φ.mono (fun v q => ?_) (fun n q => q.elim) q⟩
  intro y H' F' hh ff fh' nf rv
  obtain ⟨R2, rv2⟩ := R.called R hh ff fh' nf rv
  exact q y H' F' A R2 (HX.grow hh) ff rv2
def RVe (H H' F' : Hp) (A' : rm.A) (x : V) : Val → Prop
  | .dat d => Rp F' x d
  | .new xs => ∃ p vs, x = .ref p ∧ H' p = some (.lst vs) ∧ F' p = none ∧ H p = none ∧ ¬ rm.ft A' p ∧ RpL F' vs xs
  | .hdl n => rm.hd A' n x
  | .own _ => False
/-- the promise of a def with a state -/
def spE (rm : RM) (cl : Nat → Addr) (φ : ESumm rm.S) : Sp := fun vs H Q E => ∃ (F : Hp) (A : rm.A) (s : rm.S) (ws : List Val), Sub F H ∧ (∀ a o, F a = some o → ¬ rm.ft A a) ∧ rm.ok A s H ∧ RHL F A vs ws ∧
  φ.run ws s (fun v s' => ∀ x H' F' A', HX H A H' A' → Sub F F' → Sub F' H' → (∀ a o, F' a = some o → ¬ rm.ft A' a) → (∀ a, H a ≠ none → ¬ rm.ft A a → F' a = F a) → rm.ok A' s' H' → RVe H H' F' A' x v → Q x H')
    (fun n s' => ∀ H' A', HX H A H' A' → rm.ok A' s' H' → E (.ref (cl n)) none H')
def GoodE (rm : RM) (cl : Nat → Addr) (X : Cx) (k : Nat) (x : Str) (φ : ESumm rm.S) : Prop := ∃ f fd ps, FnG X.prog X.w X.K X.mg X.base k f fd ps (spE rm cl φ) ∧ X.mg x = some (.ref f) ∧ PySem.W.keepIn X.K (.ref f) = true ∧ Binds X.K fd ps []
/-- the state behind a def with a state -/
theorem SR.after (R1 : SR fx σ H Γ s F A) {H' F' : Hp} {A' : rm.A} {s2 : rm.S} (hxx : HX H A H' A') (ff : Sub F F') (fh' : Sub F' H') (fz' : ∀ a o, F' a = some o → ¬ rm.ft A' a) (nf : ∀ a, H a ≠ none → ¬ rm.ft A a → F' a = F a) (okk : rm.ok A' s2 H') : SR fx σ H' Γ s2 F' A' := by
  refine { fh := fh', fz := fz', f0 := R1.f0.trans ff, lk := fun a o e => ?_, a0 := rm.le_trans R1.a0 hxx.1, ok := okk, ln := R1.ln, sl := fun i w e => ?_, dj := R1.dj }
  · obtain ⟨w1, w2, w3⟩ := R1.lk a o e
    obtain ⟨g1, g2⟩ := hxx.2 a o w1 w3
    exact ⟨g1, (nf a (by rw [w1]; exact nofun) w3).trans w2, g2⟩
  · obtain ⟨z, e1, e2⟩ := R1.sl i w e
    refine ⟨z, e1, ?_⟩
    cases w with
    | own ys =>
      obtain ⟨a, vs, w1, w2, w3, w4, w5, w6⟩ := e2
      obtain ⟨g1, g2⟩ := hxx.2 a _ w2 w4
      exact ⟨a, vs, w1, g1, (nf a (by rw [w2]; exact nofun) w4).trans w3, g2, w5, w6.mono ff⟩
    | dat d => exact Rp.mono ff e2
    | hdl n => exact rm.le_hd hxx.1 e2
    | new ys => exact e2
theorem SR.afterX (R1 : SR fx σ H Γ s F A) {H' : Hp} {A' : rm.A} {s2 : rm.S} (hxx : HX H A H' A') (okk : rm.ok A' s2 H') : SR fx σ H' Γ s2 F A' :=
  R1.after hxx (Sub.refl F) (fun a o e => (hxx.2 a o (R1.fh a o e) (R1.fz a o e)).1) (fun a o e => (hxx.2 a o (R1.fh a o e) (R1.fz a o e)).2) (fun _ _ _ => rfl) okk
theorem n_calE {cl : Nat → Addr} {φ : ESumm rm.S} {x : Str} {cs : Es rm.S} {e0 : Expr} {es : List Expr} {p p2 : Pos} (g : GoodE rm cl X k x φ) (hr : Room k X.A) (hgd : X.A.guards = some []) (hg : Gl X x) (tk : Takes X (WXof cl W)) (ha : PA X (e0 :: es) (rdV W cs)) (hs : shpL (e0 :: es) = true) (hdb : (x == ("__debug__" : Str)) = false) : PE X (.Call (.Name x p2) (e0 :: es) [] p) (rdE W (.calE x φ cs)) := by
  obtain ⟨f, fd, ps, G, h1, h2, h3⟩ := g
  unfold shpL at hs
  rw [List.all_cons, Bool.and_eq_true] at hs
  refine PE_imp (pe_callG (E := fun σ => WE (WXof cl W) σ) G hr hgd hg h1 h2 h3 (fun σ => passAt tk σ) ha hdb (star1 hs.1) (stars hs.2)) fun σ H Q q => ?_
  obtain ⟨fx, Γ, s, F, A, R, xc, xk, q⟩ := q
  unfold wE at q
  refine ⟨fx, Γ, s, F, A, R, xc, xk, wV_mono cs (fun vs Γ1 s1 q => ?_) q⟩
  intro xs H1 F1 A1 R1 hx1 sb1 ar
  refine ⟨F1, A1, s1, vs, R1.fh, R1.fz, R1.ok, ar, φ.mono (fun v s2 q => ?_) (fun n s2 q => ?_) q⟩
  · intro y H' F' A' hxx ff fh' fz' nf okk rv
    refine q y H' F' A' (R1.after hxx ff fh' fz' nf okk) (hx1.trans hxx) (sb1.trans ff) ?_
    cases v with
    | dat d => exact rv
    | own ys => exact rv.elim
    | hdl n => exact rv
    | new ys =>
      obtain ⟨a, vs, w1, w2, w3, w4, w5, w6⟩ := rv
      refine ⟨a, vs, w1, w2, w3, w5, R1.nL w4, w6, fun i zs e z => ?_⟩
      obtain ⟨z', e1, a', vs', g1, g2, _⟩ := R1.sl i _ e
      rw [z] at e1
      cases e1
      cases g1
      rw [w4] at g2
      cases g2
  · intro H' A' hxx okk
    exact ⟨n, rfl, rfl, xk n _ _ _ _ _ _ (R1.afterX hxx okk) q⟩
/-! ### methods of data; a list's pop -/
theorem n_d0 {p : Pos} : PE X (.Dict [] [] p) (rdE W (.d0 : E rm.S)) := by
  refine PE_imp pe_dnewK fun σ H Q q => ?_
  obtain ⟨fx, Γ, s, F, A, R, xc, xk, q⟩ := q
  unfold wE at q
  intro p hp
  exact q (.ref p) _ (upd F p (.dK [])) A (R.lay hp) (R.hx hp) (upd_sub (R.nF hp)) (Rp.dic upd_same .nil)
/-! ### what is walked -/
def rdI (W : WN) (it : It rm.S) : TI := fun σ H R => ∃ (fx : Fx rm) (Γ : Ctx) (s : rm.S) (F : Hp) (A : rm.A), SR fx σ H Γ s F A ∧ ∃ xc, XcOk W fx xc ∧
  wI xc it Γ s fun xs Γ' s' => ∀ J H' F' A' G, SR fx σ H' Γ' s' F' A' → HX H A H' A' → Sub F F' → (∀ a o, G a = some o → H' a = some o ∧ ¬ rm.ft A' a) → Yl J G F' xs → R J H'
def rdJ (W : WN) (it : It rm.S) : TI := fun σ H R => ∃ (fx : Fx rm) (Γ : Ctx) (s : rm.S) (F : Hp) (A : rm.A), SR fx σ H Γ s F A ∧ ∃ xc, XcOk W fx xc ∧
  wJ xc it Γ s fun xs Γ' s' => ∀ J H' F' A', SR fx σ H' Γ' s' F' A' → HX H A H' A' → Sub F F' → Yl J F' F' xs → R J H'
theorem sq_inj {K : PySem.W.Frag} {pins : List (Addr × Obj)} {sh : Shared} : True := trivial
/-- the one cell, and no more -/
def one (a : Addr) (o : HO) : Hp := fun b => if b = a then some o else none
theorem one_sub {a : Addr} {o : HO} {H : Hp} (h : H a = some o) : Sub (one a o) H := fun b u e => by
  unfold one at e
  split at e
  · rename_i z; subst z; cases e; exact h
  · cases e
theorem one_same {a : Addr} {o : HO} : one a o a = some o := by unfold one; rw [if_pos rfl]
theorem two_sub {G1 G2 H : Hp} (h1 : Sub G1 H) (h2 : Sub G2 H) : Sub (fun b => match G1 b with | some o => some o | none => G2 b) H := fun b u e => by
  dsimp only at e
  split at e
  · rename_i o z; cases e; exact h1 b _ z
  · exact h2 b u e
/-- a list as it is read in the heap, without the model -/
theorem rd_l {K : PySem.W.Frag} {a : Addr} {vs : List V} (h : Rd H a (.lst vs)) : SqL K H a vs := .inl h
end
end Ac
namespace Ac
open PySem PySem.Spec PyProof.Rows L2
section
variable {rm : RM} {X : Cx} {k : Nat} {t : Sx} {W : WN} {fx : Fx rm} {xc : Nat → Ctx → rm.S → Prop} {σ : L2.St} {H F : Hp} {Γ : Ctx} {s : rm.S} {A : rm.A}
/-- a list or a tuple is walked -/
def iSeq (K : PySem.W.Frag) (tl : TE) : TI := fun σ H R => tl σ H fun x H1 => (∃ a, x = .ref a ∧ (∃ xs, SqL K H1 a xs) ∧ R (Itl K a) H1) ∨ ∃ a, x = .ref a ∧ (∃ xs, SqT K H1 a xs) ∧ R (Itt K a) H1
theorem pi_seq {tg l : Expr} {tl : TE} (hl : PE X l tl) : PI X tg l (iSeq X.K tl) := by
  refine ⟨fun pins s σ H R I h => ?_⟩
  refine thn (hl.run pins s σ H _ I h) fun v s1 ⟨x, H1, I1, r1, q1⟩ => ?_
  have fp : ∀ b ∈ [s1.heap.objs.size], FpOk X pins H1 b := fun b hb => by
    have e : b = s1.heap.objs.size := by simpa using hb
    subst e
    exact I1.fpOk (Nat.le_refl _) (I1.hok.fresh (Nat.le_refl _))
  rcases q1 with ⟨a, rfl, ⟨xs, hq⟩, q⟩ | ⟨a, rfl, ⟨xs, hq⟩, q⟩
  · cases r1
    obtain ⟨its, rv, p, hz⟩ := I1.list hq
    refine wpAny_pyIter_list p.isList ?_
    exact ⟨s1.heap.objs.size, [s1.heap.objs.size], _, _, H1, rfl, I1.kept (t' := s1.toks) fun b o e => Heap.get?_push_of_some _ e, turn_list a _, ⟨_, Heap.get?_push_size _ rfl, rfl, rfl⟩, fp, q⟩
  · cases r1
    obtain ⟨its, rv, p, hz⟩ := I1.tuple hq
    refine wpAny_pyIter_tuple (show s1.heap.IsTuple a its.toArray from p) ?_
    exact ⟨s1.heap.objs.size, [s1.heap.objs.size], _, _, H1, rfl, I1.kept (t' := s1.toks) fun b o e => Heap.get?_push_of_some _ e, turn_tuple a _, ⟨_, Heap.get?_push_size _ rfl, rfl, rfl⟩, fp, q⟩
theorem lstD_some {d : D} {k : List D → Prop} (h : lstD d k) : ∃ xs, d = .list xs ∧ k xs := by
  cases d <;> first | exact ⟨_, rfl, h⟩ | exact h.elim
/-! ### yields -/
theorem get_lt {α : Type} {l : List α} {i : Nat} (h : i < l.length) : ∃ x, l[i]? = some x := ⟨l[i], List.getElem?_eq_getElem h⟩
theorem yl_list {K : PySem.W.Frag} {G : Hp} {a : Addr} {vs : List V} {ds : List D} (h : Rd G a (.lst vs)) (r : RpL F vs ds) : Yl (Itl K a) G F ds := fun i H2 sb => by
  have hq : SqL K H2 a vs := .inl (sb.rd h)
  refine ⟨fun hi => ?_, fun hi => ⟨vs, hq, by rw [r.length, hi]; exact Nat.le_refl _⟩⟩
  obtain ⟨v, hv⟩ := get_lt (l := vs) (i := i) (by rw [r.length]; exact hi)
  refine ⟨⟨vs, v, hq, hv⟩, fun x H3 y => ?_⟩
  obtain ⟨e, y⟩ := y
  obtain ⟨d, hd, rp⟩ := r.get' (y vs hq)
  exact ⟨d, hd, .inl ⟨e, rp⟩⟩
theorem yl_tup {K : PySem.W.Frag} {G : Hp} {a : Addr} {vs : List V} {ds : List D} (h : G a = some (.tup vs)) (r : RpL F vs ds) : Yl (Itt K a) G F ds := fun i H2 sb => by
  have hq : SqT K H2 a vs := .inl (.inl (sb _ _ h))
  refine ⟨fun hi => ?_, fun hi => ⟨vs, hq, by rw [r.length, hi]; exact Nat.le_refl _⟩⟩
  obtain ⟨v, hv⟩ := get_lt (l := vs) (i := i) (by rw [r.length]; exact hi)
  refine ⟨⟨vs, v, hq, hv⟩, fun x H3 y => ?_⟩
  obtain ⟨e, y⟩ := y
  obtain ⟨d, hd, rp⟩ := r.get' (y vs hq)
  exact ⟨d, hd, .inl ⟨e, rp⟩⟩
theorem yl_rng {G : Hp} {lo : Int} {n : Nat} {f : Nat → D} (hf : ∀ i, f i = .int (lo + (i : Nat))) : Yl (Itr lo n) G F ((List.range n).map f) := fun i H2 sb => by
  refine ⟨fun hi => ?_, fun hi => ?_⟩
  · rw [List.length_map, List.length_range] at hi
    refine ⟨hi, fun x H3 y => ?_⟩
    obtain ⟨e, rfl⟩ := y
    refine ⟨_, ?_, .inl ⟨e, .int _⟩⟩
    rw [List.getElem?_map, List.getElem?_range hi]
    show some (f i) = _
    rw [hf]
  · rw [List.length_map, List.length_range] at hi
    exact Nat.le_of_eq hi.symm
theorem yl_rngc {G : Hp} {lo c : Int} {n : Nat} : Yl (Itc lo c n) G F ((List.range n).map fun i => .int (lo + (i : Nat) * c)) := fun i H2 sb => by
  refine ⟨fun hi => ?_, fun hi => ?_⟩
  · rw [List.length_map, List.length_range] at hi
    refine ⟨hi, fun x H3 y => ?_⟩
    obtain ⟨e, rfl⟩ := y
    refine ⟨_, ?_, .inl ⟨e, .int _⟩⟩
    rw [List.getElem?_map, List.getElem?_range hi]
    rfl
  · rw [List.length_map, List.length_range] at hi
    exact Nat.le_of_eq hi.symm
theorem enumD_len (xs : List D) : (enumD xs).length = xs.length := by unfold enumD; rw [List.length_map, List.length_zipIdx]
theorem enumD_get {xs : List D} {i : Nat} {d : D} (h : xs[i]? = some d) : (enumD xs)[i]? = some (.tuple [.int (i : Nat), d]) := by
  unfold enumD
  rw [List.getElem?_map, List.getElem?_zipIdx, h]
  simp
theorem yl_enum {K : PySem.W.Frag} {G : Hp} {a : Addr} {vs : List V} {ds : List D} (h : Rd G a (.lst vs)) (r : RpL F vs ds) : Yl (Ite K a) G F (enumD ds) := fun i H2 sb => by
  have hq : SqL K H2 a vs := .inl (sb.rd h)
  refine ⟨fun hi => ?_, fun hi => ⟨vs, hq, by rw [r.length, hi, enumD_len]; exact Nat.le_refl _⟩⟩
  rw [enumD_len] at hi
  obtain ⟨v, hv⟩ := get_lt (l := vs) (i := i) (by rw [r.length]; exact hi)
  refine ⟨⟨vs, v, hq, hv⟩, fun x H3 y => ?_⟩
  obtain ⟨T, y, e1, e2, e3, e4⟩ := y
  obtain ⟨d, hd, rp⟩ := r.get' (e4 vs hq)
  exact ⟨_, enumD_get hd, .inr ⟨T, _, _, e2, e3, e1, rfl, .cons (.int _) (.cons rp .nil)⟩⟩
theorem zipD_get {xs ys : List D} {i : Nat} {d e : D} (h : xs[i]? = some d) (h2 : ys[i]? = some e) : (zipD xs ys)[i]? = some (.tuple [d, e]) := by
  unfold zipD
  rw [List.getElem?_map, List.getElem?_zip_eq_some (z := (d, e)) |>.mpr ⟨h, h2⟩]
  rfl
theorem zipD_len (xs ys : List D) : (zipD xs ys).length = min xs.length ys.length := by unfold zipD; rw [List.length_map, List.length_zip]
theorem yl_zip {K : PySem.W.Frag} {G : Hp} {a b : Addr} {vs ws : List V} {ds es : List D} (h : Rd G a (.lst vs)) (h2 : Rd G b (.lst ws)) (r : RpL F vs ds) (r2 : RpL F ws es) : Yl (Itz K a b) G F (zipD ds es) := fun i H2 sb => by
  have hq : SqL K H2 a vs := .inl (sb.rd h)
  have hq2 : SqL K H2 b ws := .inl (sb.rd h2)
  refine ⟨fun hi => ?_, fun hi => ⟨vs, ws, hq, hq2, ?_⟩⟩
  · rw [zipD_len] at hi
    obtain ⟨v, hv⟩ := get_lt (l := vs) (i := i) (by rw [r.length]; omega)
    obtain ⟨w, hw⟩ := get_lt (l := ws) (i := i) (by rw [r2.length]; omega)
    refine ⟨⟨vs, ws, v, w, hq, hq2, hv, hw⟩, fun x H3 y => ?_⟩
    obtain ⟨T, y, z, e1, e2, e3, e4, e5⟩ := y
    obtain ⟨d, hd, rp⟩ := r.get' (e4 vs hq)
    obtain ⟨d', hd', rp'⟩ := r2.get' (e5 ws hq2)
    exact ⟨_, zipD_get hd hd', .inr ⟨T, _, _, e2, e3, e1, rfl, .cons rp (.cons rp' .nil)⟩⟩
  · rw [zipD_len] at hi
    rw [r.length, r2.length]
    omega
theorem Ro.lstG {x : V} {ds : List D} (R : SR fx σ H Γ s F A) (h : Ro H F A x (.list ds)) : ∃ a vs G, x = V.ref a ∧ Rd G a (.lst vs) ∧ RpL F vs ds ∧ ∀ b o, G b = some o → H b = some o ∧ ¬ rm.ft A b := by
  rcases h with h | ⟨a, vs, ds', e1, e2, e3, e4, e5⟩
  · cases h with
    | lst h r => exact ⟨_, _, F, rfl, h, r, fun b o e => ⟨R.fh b o e, R.fz b o e⟩⟩
  · cases e2
    refine ⟨a, vs, one a (.lst vs), e1, .inl one_same, e5, fun b o e => ⟨one_sub e3 b o e, ?_⟩⟩
    unfold one at e
    split at e
    · rename_i z; subst z; exact e4
    · cases e
/-! ### walks in a comprehension -/
theorem n_iSeq {c : E rm.S} {e tg : Expr} (h : PE X e (rdP W c)) : PI X tg e (rdI W (.seq c)) := by
  refine PI_imp (pi_seq h) fun σ H R q => ?_
  obtain ⟨fx, Γ, s, F, A, R1, xc, xk, q⟩ := q
  unfold wI at q
  refine ⟨fx, Γ, s, F, A, R1, xc, xk, opnE_mono c (fun d Γ1 s1 q => ?_) q⟩
  intro x H1 F1 A1 R1 hx1 sb1 ro1
  unfold seqD at q
  split at q
  · obtain ⟨a, vs, G, e1, e2, e3, e4⟩ := ro1.1.lstG R1
    exact .inl ⟨a, e1, ⟨vs, .inl ((show Sub G H1 from fun b o e => (e4 b o e).1).rd e2)⟩, q _ H1 F1 A1 G R1 hx1 sb1 e4 (yl_list e2 e3)⟩
  · obtain ⟨a, vs, e1, e2, e3⟩ := ro1.1.tup
    exact .inr ⟨a, e1, ⟨vs, .inl (.inl (R1.fh _ _ e2))⟩, q _ H1 F1 A1 F1 R1 hx1 sb1 (fun b o e => ⟨R1.fh b o e, R1.fz b o e⟩) (yl_tup e2 e3)⟩
  · exact q.elim
theorem ArgL.cons' {c : E rm.S} {r : Es rm.S} {xs : List V} {ds : List D} (h : ArgL σ H F A (.cons c r) xs ds) : ∃ x xs' d ds', xs = x :: xs' ∧ ds = d :: ds' ∧ RoC c σ H F A x d ∧ ArgL σ H F A r xs' ds' := by
  cases xs with
  | nil => exact h.elim
  | cons x xs' =>
    cases ds with
    | nil => exact h.elim
    | cons d ds' => exact ⟨x, xs', d, ds', rfl, rfl, h.1, h.2⟩
theorem ArgL.nil' {xs : List V} {ds : List D} (h : ArgL σ H F A (.nil : Es rm.S) xs ds) : xs = [] ∧ ds = [] := by
  cases xs with
  | cons x xs' => exact h.elim
  | nil =>
    cases ds with
    | cons d ds' => exact h.elim
    | nil => exact ⟨rfl, rfl⟩
theorem ArgL.one {c : E rm.S} {xs : List V} {ds : List D} (h : ArgL σ H F A (.cons c .nil) xs ds) : ∃ x d, xs = [x] ∧ ds = [d] ∧ Ro H F A x d := by
  obtain ⟨x, xs, d, ds, rfl, rfl, h1, h⟩ := h.cons'
  obtain ⟨rfl, rfl⟩ := h.nil'
  exact ⟨x, d, rfl, rfl, h1.1⟩
theorem ArgL.two {c c2 : E rm.S} {xs : List V} {ds : List D} (h : ArgL σ H F A (.cons c (.cons c2 .nil)) xs ds) : ∃ x d y e, xs = [x, y] ∧ ds = [d, e] ∧ Ro H F A x d ∧ Ro H F A y e := by
  obtain ⟨x, xs, d, ds, rfl, rfl, h1, h⟩ := h.cons'
  obtain ⟨y, e, rfl, rfl, h2⟩ := h.one
  exact ⟨x, d, y, e, rfl, rfl, h1.1, h2⟩
theorem ArgL.three {c c2 c3 : E rm.S} {xs : List V} {ds : List D} (h : ArgL σ H F A (.cons c (.cons c2 (.cons c3 .nil))) xs ds) : ∃ x d y e z f, xs = [x, y, z] ∧ ds = [d, e, f] ∧ Ro H F A x d ∧ Ro H F A y e ∧ Ro H F A z f := by
  obtain ⟨x, xs, d, ds, rfl, rfl, h1, h⟩ := h.cons'
  obtain ⟨y, e, z, f, rfl, rfl, h2, h3⟩ := h.two
  exact ⟨x, d, y, e, z, f, rfl, rfl, h1.1, h2, h3⟩
/-- range(..), whatever follows -/
theorem rng1_rd {c : E rm.S} {R : L2.It → Hp → Prop} {Pq : List D → Ctx → rm.S → Prop} (R0 : SR fx σ H Γ s F A) (xk : XcOk W fx xc) (q : wA xc (.cons c .nil) Γ s fun ds Γ1 s1 => rngD ds fun xs => Pq xs Γ1 s1)
    (hp : ∀ xs Γ' s', Pq xs Γ' s' → ∀ J H' F' A', SR fx σ H' Γ' s' F' A' → HX H A H' A' → Sub F F' → (∀ G F2, Yl J G F2 xs) → R J H') : iRng1 (rdA W (.cons c .nil)) σ H R := by
  refine ⟨fx, Γ, s, F, A, R0, xc, xk, wA_mono _ (fun ds Γ1 s1 q => ?_) q⟩
  intro xs H1 F1 A1 R1 hx1 sb1 ar
  obtain ⟨x, d, rfl, rfl, ro⟩ := ar.one
  unfold rngD at q
  split at q
  · rename_i n z
    cases z
    exact ⟨n, by rw [flat_int ro], q.1.1, q.1.2, hp _ _ _ q.2 _ H1 F1 A1 R1 hx1 sb1 fun G F2 => yl_rng fun i => by rw [Int.zero_add]⟩
  · rename_i z; cases z
  · rename_i z; cases z
  · exact q.elim
theorem rng2_rd {c c2 : E rm.S} {R : L2.It → Hp → Prop} {Pq : List D → Ctx → rm.S → Prop} (R0 : SR fx σ H Γ s F A) (xk : XcOk W fx xc) (q : wA xc (.cons c (.cons c2 .nil)) Γ s fun ds Γ1 s1 => rngD ds fun xs => Pq xs Γ1 s1)
    (hp : ∀ xs Γ' s', Pq xs Γ' s' → ∀ J H' F' A', SR fx σ H' Γ' s' F' A' → HX H A H' A' → Sub F F' → (∀ G F2, Yl J G F2 xs) → R J H') : iRng2 (rdA W (.cons c (.cons c2 .nil))) σ H R := by
  refine ⟨fx, Γ, s, F, A, R0, xc, xk, wA_mono _ (fun ds Γ1 s1 q => ?_) q⟩
  intro xs H1 F1 A1 R1 hx1 sb1 ar
  obtain ⟨x, d, y, e, rfl, rfl, ro, ro2⟩ := ar.two
  unfold rngD at q
  split at q
  · rename_i z; cases z
  · rename_i n m z
    cases z
    exact ⟨n, m, by rw [flat_int ro, flat_int ro2], q.1, hp _ _ _ q.2 _ H1 F1 A1 R1 hx1 sb1 fun G F2 => yl_rng fun i => rfl⟩
  · rename_i z; cases z
  · exact q.elim
theorem rng3_rd {c c2 c3 : E rm.S} {R : L2.It → Hp → Prop} {Pq : List D → Ctx → rm.S → Prop} (R0 : SR fx σ H Γ s F A) (xk : XcOk W fx xc) (q : wA xc (.cons c (.cons c2 (.cons c3 .nil))) Γ s fun ds Γ1 s1 => rngD ds fun xs => Pq xs Γ1 s1)
    (hp : ∀ xs Γ' s', Pq xs Γ' s' → ∀ J H' F' A', SR fx σ H' Γ' s' F' A' → HX H A H' A' → Sub F F' → (∀ G F2, Yl J G F2 xs) → R J H') : iRng3 (rdA W (.cons c (.cons c2 (.cons c3 .nil)))) σ H R := by
  refine ⟨fx, Γ, s, F, A, R0, xc, xk, wA_mono _ (fun ds Γ1 s1 q => ?_) q⟩
  intro xs H1 F1 A1 R1 hx1 sb1 ar
  obtain ⟨x, d, y, e, z', f, rfl, rfl, ro, ro2, ro3⟩ := ar.three
  unfold rngD at q
  split at q
  · rename_i z; cases z
  · rename_i z; cases z
  · rename_i n m l z
    cases z
    obtain ⟨q0, q1, q2⟩ := q
    subst q0
    exact ⟨n, m, -1, (n - m).toNat, by rw [flat_int ro, flat_int ro2, flat_int ro3], RgC.neg q1.1 q1.2.1 q1.2.2.1 q1.2.2.2, hp _ _ _ q2 _ H1 F1 A1 R1 hx1 sb1 fun G F2 => yl_rngc⟩
  · exact q.elim
theorem nogc {H' : Hp} {A' : rm.A} : ∀ a o, (fun _ => none : Hp) a = some o → H' a = some o ∧ ¬ rm.ft A' a := fun a o e => nomatch e
theorem n_iEnu {c : E rm.S} {e : Expr} {elts : List Expr} {kk : Nat} {tp p p2 : Pos} (hg : Gl X "enumerate") (hm : X.mg "enumerate" = none) (h : PE X e (rdP W c)) (hs : shp e = true) : PI X (.Tuple elts kk tp) (.Call (.Name "enumerate" p2) [e] [] p) (rdI W (.enu c)) := by
  refine PI_imp (pi_enum hg hm (pa_cons h pa_nil (star1 hs)) (star1 hs)) fun σ H R q => ?_
  obtain ⟨fx, Γ, s, F, A, R1, xc, xk, q⟩ := q
  unfold wI at q
  refine ⟨fx, Γ, s, F, A, R1, xc, xk, opnE_mono c (fun d Γ1 s1 q => ?_) q⟩
  intro x H1 F1 A1 R1 hx1 sb1 ro1
  unfold lstD at q
  split at q
  · obtain ⟨a, vs, G, e1, e2, e3, e4⟩ := ro1.1.lstG R1
    exact ⟨a, vs, by rw [e1], .inl ((show Sub G H1 from fun b o e => (e4 b o e).1).rd e2), q _ H1 F1 A1 G R1 hx1 sb1 e4 (yl_enum e2 e3)⟩
  · exact q.elim
theorem n_iZip {c c2 : E rm.S} {e e2 : Expr} {elts : List Expr} {kk : Nat} {tp p p2 : Pos} (hg : Gl X "zip") (hm : X.mg "zip" = none) (h : PE X e (rdP W c)) (h2 : PE X e2 (rdP W c2)) (hs : shp e = true) (hs2 : shp e2 = true) : PI X (.Tuple elts kk tp) (.Call (.Name "zip" p2) [e, e2] [] p) (rdI W (.zip c c2)) := by
  refine PI_imp (pi_zip hg hm (pa_cons h (pa_cons h2 pa_nil (star1 hs2)) (star1 hs)) (star1 hs) (stars (by unfold shpL; rw [List.all_cons, hs2]; rfl))) fun σ H R q => ?_
  obtain ⟨fx, Γ, s, F, A, R1, xc, xk, q⟩ := q
  unfold wI at q
  refine ⟨fx, Γ, s, F, A, R1, xc, xk, opnE_mono c (fun d Γ1 s1 q => ?_) q⟩
  intro x H1 F1 A1 R1 hx1 sb1 ro1
  refine ⟨fx, Γ1, s1, F1, A1, R1, xc, xk, opnE_mono c2 (fun d2 Γ2 s2 q => ?_) q⟩
  intro y H2 F2 A2 R2 hx2 sb2 ro2
  obtain ⟨xs, ex, qx⟩ := lstD_some q
  obtain ⟨ys, ey, qy⟩ := lstD_some qx
  subst ex ey
  · obtain ⟨a, vs, G, e1, e2, e3, e4⟩ := (ro1.1.mono hx2 sb2).lstG R2
    obtain ⟨b, ws, G', f1, f2, f3, f4⟩ := ro2.1.lstG R2
    have s1 : Sub G H2 := fun b o e => (e4 b o e).1
    have s2 : Sub G' H2 := fun b o e => (f4 b o e).1
    have nx : ∀ b o, (fun b => match G b with | some o => some o | none => G' b : Hp) b = some o → H2 b = some o ∧ ¬ rm.ft A2 b := fun b o e => by
      dsimp only at e
      split at e
      · rename_i z; cases e; exact e4 b _ z
      · exact f4 b o e
    have g1 : Sub G (fun b => match G b with | some o => some o | none => G' b : Hp) := fun b o e => by dsimp only; rw [e]
    have g2 : Rd (fun b => match G b with | some o => some o | none => G' b : Hp) b (.lst ws) := by
      rcases f2 with f2 | ⟨o, f2⟩
      · cases z : G b with
        | none => left; dsimp only; rw [z]; exact f2
        | some o =>
          have h3 := s1 b o z
          rw [s2 _ _ f2] at h3
          cases h3
          left; dsimp only; rw [z]
      · cases z : G b with
        | none => right; exact ⟨o, by dsimp only; rw [z]; exact f2⟩
        | some o' =>
          have h3 := s1 b o' z
          rw [s2 _ _ f2] at h3
          cases h3
          right; exact ⟨o, by dsimp only; rw [z]⟩
    exact ⟨a, b, vs, ws, by rw [e1, f1], .inl (s1.rd e2), .inl (s2.rd f2), qy _ H2 F2 A2 _ R2 (hx1.trans hx2) (sb1.trans sb2) nx (yl_zip (g1.rd e2) g2 e3 f3)⟩
end
end Ac
namespace Ac
open PySem PySem.Spec PyProof.Rows L2
section
variable {rm : RM} {X : Cx} {k : Nat} {t : Sx} {W : WN} {fx : Fx rm} {xc : Nat → Ctx → rm.S → Prop} {σ : L2.St} {H F : Hp} {Γ : Ctx} {s : rm.S} {A : rm.A}
/-! ### slots wiped -/
theorem wipe_in {σ : L2.St} {i : Nat} : ∀ {vs : List Nat}, i ∈ vs → i < σ.length → (wipe σ vs)[i]? = some none
  | v :: vs, h, hl => by
    unfold wipe
    by_cases e : v = i
    · subst e
      rw [List.getElem?_set_self (by rw [wipe_length]; exact hl)]
    · rw [List.getElem?_set_ne e]
      exact wipe_in (by cases h with | head => exact absurd rfl e | tail _ h => exact h) hl
theorem wipe_ext {σ τ : L2.St} {vs : List Nat} (hl : σ.length = τ.length) (h : ∀ i, i ∉ vs → σ[i]? = τ[i]?) : wipe σ vs = wipe τ vs := by
  apply List.ext_getElem?
  intro i
  by_cases hi : i ∈ vs
  · by_cases hi2 : i < σ.length
    · rw [wipe_in hi hi2, wipe_in hi (by rw [← hl]; exact hi2)]
    · rw [List.getElem?_eq_none (by rw [wipe_length]; omega), List.getElem?_eq_none (by rw [wipe_length]; omega)]
  · rw [wipe_out hi, wipe_out hi, h i hi]
theorem wipe_set {σ : L2.St} {vs : List Nat} {i : Nat} {x : Option V} (h : i ∈ vs) : wipe (σ.set i x) vs = wipe σ vs :=
  wipe_ext (by rw [List.length_set]) fun j hj => by rw [List.getElem?_set_ne (fun e => hj (by rw [← e]; exact h))]
theorem wipe_wipe {σ : L2.St} {vs : List Nat} : wipe (wipe σ vs) vs = wipe σ vs := wipe_ext (wipe_length σ vs) fun i hi => wipe_out hi
theorem wipeG_length : ∀ {vs : List Nat} {Γ : Ctx}, (wipeG vs Γ).length = Γ.length
  | [], _ => rfl
  | v :: vs, Γ => by
    show (put (wipeG vs Γ) v none).length = _
    rw [put_length, wipeG_length]
theorem look_wipeG : ∀ {vs : List Nat} {Γ : Ctx} {i : Nat} {v : Val}, look (wipeG vs Γ) i = some v → i ∉ vs ∧ look Γ i = some v
  | [], _, _, _, h => ⟨nofun, h⟩
  | w :: vs, Γ, i, v, h => by
    have h' : look (put (wipeG vs Γ) w none) i = some v := h
    rcases look_put h' with ⟨_, z⟩ | ⟨ne, h2⟩
    · cases z
    · obtain ⟨h3, h4⟩ := look_wipeG h2
      exact ⟨fun m => by cases m with | head => exact ne rfl | tail _ m => exact h3 m, h4⟩
theorem SR.wipe (R : SR fx σ H Γ s F A) (vs : List Nat) : SR fx (L2.wipe σ vs) H (wipeG vs Γ) s F A where
  fh := R.fh
  fz := R.fz
  f0 := R.f0
  lk := R.lk
  a0 := R.a0
  ok := R.ok
  ln := by rw [wipeG_length, wipe_length]; exact R.ln
  sl := fun i v e => by
    obtain ⟨h1, h2⟩ := look_wipeG e
    obtain ⟨x, h3, h4⟩ := R.sl i v h2
    exact ⟨x, by rw [wipe_out h1]; exact h3, h4⟩
  dj := fun i j a xs ys e1 e2 s1 s2 => by
    obtain ⟨h1, h2⟩ := look_wipeG e1
    obtain ⟨h3, h4⟩ := look_wipeG e2
    rw [wipe_out h1] at s1
    rw [wipe_out h3] at s2
    exact R.dj i j a xs ys h2 h4 s1 s2
theorem backG_length {Γ0 : Ctx} : ∀ {vs : List Nat} {Γ : Ctx}, (backG Γ0 vs Γ).length = Γ.length
  | [], _ => rfl
  | v :: vs, Γ => by
    show (put (backG Γ0 vs Γ) v _).length = _
    rw [put_length, backG_length]
theorem look_backG {Γ0 : Ctx} : ∀ {vs : List Nat} {Γ : Ctx} {i : Nat} {v : Val}, look (backG Γ0 vs Γ) i = some v → (i ∈ vs ∧ look Γ0 i = some v ∧ ∀ xs, v ≠ .own xs) ∨ (i ∉ vs ∧ look Γ i = some v)
  | [], _, _, _, h => .inr ⟨nofun, h⟩
  | w :: vs, Γ, i, v, h => by
    have h' : look (put (backG Γ0 vs Γ) w (match look Γ0 w with | some (.own _) => none | v => v)) i = some v := h
    rcases look_put h' with ⟨e, z⟩ | ⟨ne, h2⟩
    · subst e
      left
      refine ⟨List.mem_cons_self, ?_⟩
      split at z
      · cases z
      · rename_i hn
        exact ⟨z, fun xs e => hn xs (by rw [z, e])⟩
    · rcases look_backG h2 with ⟨h3, h4⟩ | ⟨h3, h4⟩
      · exact .inl ⟨List.mem_cons_of_mem _ h3, h4⟩
      · exact .inr ⟨fun m => by cases m with | head => exact ne rfl | tail _ m => exact h3 m, h4⟩
/-- the names that were hidden are back -/
theorem SR.back {H1 F1 : Hp} {Γ1 : Ctx} {s1 : rm.S} {A1 : rm.A} {vs : List Nat} (R1 : SR fx σ H1 Γ1 s1 F1 A1) (R : SR fx (L2.wipe σ vs) H Γ s F A) (hx : HX H1 A1 H A) (sb : Sub F1 F) : SR fx σ H (backG Γ1 vs Γ) s F A where
  fh := R.fh
  fz := R.fz
  f0 := R.f0
  lk := R.lk
  a0 := R.a0
  ok := R.ok
  ln := by rw [backG_length, R.ln, wipe_length]
  sl := fun i v e => by
    rcases look_backG e with ⟨_, h2, h3⟩ | ⟨h1, h2⟩
    · obtain ⟨x, h4, h5⟩ := R1.sl i v h2
      refine ⟨x, h4, ?_⟩
      cases v with
      | dat d => exact Rp.mono sb h5
      | own xs => exact absurd rfl (h3 xs)
      | new xs => exact h5
      | hdl n => exact rm.le_hd hx.1 h5
    · obtain ⟨x, h4, h5⟩ := R.sl i v h2
      rw [wipe_out h1] at h4
      exact ⟨x, h4, h5⟩
  dj := fun i j a xs ys e1 e2 s1 s2 => by
    rcases look_backG e1 with ⟨_, _, h3⟩ | ⟨h1, h2⟩
    · exact absurd rfl (h3 xs)
    · rcases look_backG e2 with ⟨_, _, h3⟩ | ⟨h3, h4⟩
      · exact absurd rfl (h3 ys)
      · exact R.dj i j a xs ys h2 h4 (by rw [wipe_out h1]; exact s1) (by rw [wipe_out h3]; exact s2)
/-! ### a thing aside, that a loop fills -/
def fxL (fx : Fx rm) (p : Addr) (o : HO) : Fx rm := { fx with L := upd fx.L p o }
theorem SR.addL (R : SR fx σ H Γ s F A) {p : Addr} {o : HO} (hp : H p = some o) (hf : F p = none) (hz : ¬ rm.ft A p) (no : NoOwn σ Γ p) : SR (fxL fx p o) σ H Γ s F A where
  fh := R.fh
  fz := R.fz
  f0 := R.f0
  lk := fun a u e => by
    by_cases h : a = p
    · subst h
      have e' : upd fx.L a o a = some u := e
      rw [upd_same] at e'
      cases e'
      exact ⟨hp, hf, hz⟩
    · exact R.lk a u (by have e' : upd fx.L p o a = some u := e; rw [upd_ne h] at e'; exact e')
  a0 := R.a0
  ok := R.ok
  ln := R.ln
  sl := fun i v e => by
    obtain ⟨x, h1, h2⟩ := R.sl i v e
    refine ⟨x, h1, ?_⟩
    cases v with
    | own xs =>
      obtain ⟨a, vs, e1, e2, e3, e4, e5, e6⟩ := h2
      have h : a ≠ p := fun z => by rw [e1, z] at h1; exact no i xs e h1
      exact ⟨a, vs, e1, e2, e3, e4, by show upd fx.L p o a = none; rw [upd_ne h]; exact e5, e6⟩
    | _ => exact h2
  dj := R.dj
theorem SR.delL {p : Addr} {o : HO} (R : SR (fxL fx p o) σ H Γ s F A) (hl : fx.L p = none) : SR fx σ H Γ s F A where
  fh := R.fh
  fz := R.fz
  f0 := R.f0
  lk := fun a u e => R.lk a u (by
    show upd fx.L p o a = some u
    rw [upd_ne (fun z => by rw [z, hl] at e; cases e)]
    exact e)
  a0 := R.a0
  ok := R.ok
  ln := R.ln
  sl := fun i v e => by
    obtain ⟨x, h1, h2⟩ := R.sl i v e
    refine ⟨x, h1, ?_⟩
    cases v with
    | own xs =>
      obtain ⟨a, vs, e1, e2, e3, e4, e5, e6⟩ := h2
      refine ⟨a, vs, e1, e2, e3, e4, ?_, e6⟩
      have e5' : upd fx.L p o a = none := e5
      by_cases h : a = p
      · rw [h, upd_same] at e5'; cases e5'
      · rw [upd_ne h] at e5'; exact e5'
    | _ => exact h2
  dj := R.dj
theorem SR.lkP {p : Addr} {o : HO} (R : SR (fxL fx p o) σ H Γ s F A) : H p = some o ∧ F p = none ∧ ¬ rm.ft A p := R.lk p o (show upd fx.L p o p = some o from upd_same)
theorem SR.lkNo {p : Addr} {o : HO} (R : SR (fxL fx p o) σ H Γ s F A) : NoOwn σ Γ p := fun i ys e z => by
  obtain ⟨x, h1, a, vs, e1, e2, e3, e4, e5, e6⟩ := R.sl i _ e
  rw [z] at h1
  cases h1
  cases e1
  have e5' : upd fx.L p o p = none := e5
  rw [upd_same] at e5'
  cases e5'
/-- it is changed -/
theorem SR.chg {p : Addr} {o o' : HO} (R : SR (fxL fx p o) σ H Γ s F A) (hl : fx.L p = none) : SR (fxL fx p o') σ (upd H p o') Γ s F A := by
  obtain ⟨hp, hf, hz⟩ := R.lkP
  have no := R.lkNo
  have R0 := R.delL hl
  have R1 : SR fx σ (upd H p o') Γ s F A := {
    fh := fun a u e => by
      have h : a ≠ p := fun z => by rw [z, hf] at e; cases e
      rw [upd_ne h]
      exact R0.fh a u e
    fz := R0.fz
    f0 := R0.f0
    lk := fun a u e => by
      have h : a ≠ p := fun z => by rw [z, hl] at e; cases e
      rw [upd_ne h]
      exact R0.lk a u e
    a0 := R0.a0
    ok := rm.frame R0.ok fun q hq => upd_ne fun e => hz (by rw [← e]; exact hq)
    ln := R0.ln
    sl := fun i v e => by
      obtain ⟨x, h1, h2⟩ := R0.sl i v e
      refine ⟨x, h1, ?_⟩
      cases v with
      | own xs =>
        obtain ⟨a, vs, e1, e2, e3⟩ := h2
        have h : a ≠ p := fun z => by rw [e1, z] at h1; exact no i xs e h1
        exact ⟨a, vs, e1, by rw [upd_ne h]; exact e2, e3⟩
      | _ => exact h2
    dj := R0.dj }
  exact R1.addL upd_same hf hz no
/-! ### targets -/
def rdGs : List Nat → TGs
  | [] => gNil
  | i :: r => gCons (gName i) (rdGs r)
def rdG (K : PySem.W.Frag) : Tg → TG
  | .nm i => gName i
  | .tp is => gTup K is.length (rdGs is)
def tgIn : Tg → List Nat → Prop
  | .nm i, vs => i ∈ vs
  | .tp is, vs => ∀ i ∈ is, i ∈ vs
theorem putAll_rd : ∀ {is : List Nat} {ds : List D} {xs : List V} {σ : L2.St} {Γ : Ctx} {K : Ctx → Prop}, SR fx σ H Γ s F A → RpL F xs ds → putAll is ds Γ K →
    rdGs is xs σ H fun σ2 H2 => H2 = H ∧ (∀ vs, (∀ i ∈ is, i ∈ vs) → wipe σ2 vs = wipe σ vs) ∧ ∃ Γ2, K Γ2 ∧ SR fx σ2 H Γ2 s F A
  | [], [], _, σ, Γ, K, R, .nil, q => ⟨rfl, rfl, fun _ _ => rfl, Γ, q, R⟩
  | [], _ :: _, _, _, _, _, _, _, q => q.elim
  | _ :: _, [], _, _, _, _, _, _, q => q.elim
  | i :: is, d :: ds, _, σ, Γ, K, R, .cons (v := x) (vs := xs) h r, q => by
    refine ⟨x, xs, rfl, ?_⟩
    have ih := putAll_rd (is := is) (R.putD (i := i) h) r q
    show rdGs is xs (σ.set i (some x)) H _
    refine rdGs_mono is (fun σ2 H2 z => ?_) ih
    obtain ⟨z1, z2, z3⟩ := z
    exact ⟨z1, fun vs hv => (z2 vs fun j hj => hv j (List.mem_cons_of_mem _ hj)).trans (wipe_set (hv i List.mem_cons_self)), z3⟩
where
  rdGs_mono : ∀ (is : List Nat) {xs : List V} {σ : L2.St} {H : Hp} {Q Q' : L2.St → Hp → Prop}, (∀ σ H, Q σ H → Q' σ H) → rdGs is xs σ H Q → rdGs is xs σ H Q'
    | [], _, _, _, _, _, h, q => ⟨q.1, h _ _ q.2⟩
    | i :: is, _, _, _, _, _, h, ⟨v, r, e, q⟩ => ⟨v, r, e, rdGs_mono is h q⟩
theorem bindT_rd {K : PySem.W.Frag} {tg : Tg} {d : D} {x : V} {Kc : Ctx → Prop} (R : SR fx σ H Γ s F A) (h : Rp F x d) (q : bindT tg d Γ Kc) :
    rdG K tg x σ H fun σ2 H2 => H2 = H ∧ (∀ vs, tgIn tg vs → wipe σ2 vs = wipe σ vs) ∧ ∃ Γ2, Kc Γ2 ∧ SR fx σ2 H Γ2 s F A := by
  cases tg with
  | nm i => exact ⟨rfl, fun vs hv => wipe_set hv, _, q, R.putD h⟩
  | tp is =>
    cases h with
    | tup h1 r =>
      rename_i a vs ds
      have hl : vs.length = is.length := by
        rw [r.length]
        exact putAll_len q
      exact ⟨a, vs, rfl, .inl (.inl (R.fh _ _ h1)), hl, putAll_rd R r q⟩
    | _ => exact q.elim
where
  putAll_len : ∀ {is : List Nat} {ds : List D} {Γ : Ctx} {K : Ctx → Prop}, putAll is ds Γ K → ds.length = is.length
    | [], [], _, _, _ => rfl
    | [], _ :: _, _, _, q => q.elim
    | _ :: _, [], _, _, q => q.elim
    | _ :: is, _ :: ds, _, _, q => by rw [List.length_cons, List.length_cons, putAll_len (is := is) (ds := ds) q]
/-- what a walk has given, in the state -/
theorem SR.yield {H3 : Hp} {x : V} {d : D} (R : SR fx σ H Γ s F A) {F0 : Hp} (sb : Sub F0 F) (h : (H3 = H ∧ Rp F0 x d) ∨ ∃ T vs ds, H T = none ∧ H3 = upd H T (.tup vs) ∧ x = V.ref T ∧ d = .tuple ds ∧ RpL F0 vs ds) :
    ∃ F3, SR fx σ H3 Γ s F3 A ∧ HX H A H3 A ∧ Sub F F3 ∧ Rp F3 x d := by
  rcases h with ⟨rfl, h⟩ | ⟨T, vs, ds, h1, rfl, rfl, rfl, h⟩
  · exact ⟨F, R, HX.refl _ _, Sub.refl F, h.mono sb⟩
  · exact ⟨_, R.lay h1, R.hx h1, upd_sub (R.nF h1), .tup upd_same ((h.mono sb).mono (upd_sub (R.nF h1)))⟩
/-! ### a comprehension -/
theorem n_comp {own : List Nat} {tc : Tg} {it : It rm.S} {c : Es rm.S} {ce : E rm.S} {elt tg iter : Expr} {ifs : List Expr} {scope : Scope} {ol : List (Str × Nat)} {p : Pos} (hol : ol.map (·.2) = own) (hc : X.calm = true) (hN : X.N.Nodup)
    (hi : PI X tg iter (rdI W it)) (ok : BlkOk X.N X.env.scope scope ol)
    (hg : ∀ (s : Shared) (H : Hp) (C : Addr) (cl : List (Str × Addr)) (fp : List Addr), PG (X.blk s H scope (compEnvC scope cl C X.env) fp) tg (rdG X.K tc))
    (ht : ∀ (s : Shared) (H : Hp) (C : Addr) (cl : List (Str × Addr)) (fp : List Addr), PTs (X.blk s H scope (compEnvC scope cl C X.env) fp) ifs (rdC W0 c))
    (he : ∀ (s : Shared) (H : Hp) (C : Addr) (cl : List (Str × Addr)) (fp : List Addr), PE (X.blk s H scope (compEnvC scope cl C X.env) fp) elt (rdE W0 ce)) (hs : shp iter = true) (hin : tgIn tc own) :
    PE X (.ListComp elt [⟨tg, iter, ifs, 0⟩] scope p) (rdE W (.comp own tc it c ce)) ∧ ∀ σ H Q, rdE W (.comp own tc it c ce) σ H Q → tLc (rdI W it) (rdG X.K tc) (rdC W0 c) (rdE W0 ce) own σ H Q := by
  have key : ∀ σ H Q, rdE W (.comp own tc it c ce) σ H Q → tLc (rdI W it) (rdG X.K tc) (rdC W0 c) (rdE W0 ce) own σ H Q := by
    intro σ H Q q
    obtain ⟨fx, Γ, s, F, A, R, xc, xk, q⟩ := q
    unfold wE at q
    refine ⟨fx, Γ, s, F, A, R, xc, xk, wI_mono it (fun xs Γ1 s1 q => ?_) q⟩
    intro J H1 F1 A1 G R1 hx1 sb1 hG yl p hp
    obtain ⟨hbig, q⟩ := q
    have hlp := R1.nL hp
    refine ⟨fun i m H2 => m = xs.length - i ∧ i ≤ xs.length ∧ ∃ Γ2 s2 F2 A2 vs acc, SR (fxL fx p (.lst vs)) (wipe σ own) H2 Γ2 s2 F2 A2 ∧ HX H1 A1 H2 A2 ∧ Sub F1 F2 ∧ RpL F2 vs acc ∧ acc.length ≤ i ∧
      cLoop (fun x Γ s k => bindT tc x Γ fun Γ' => wC xn c Γ' s fun b Γ2 s2 => if b = true then wE xn ce Γ2 s2 (fun v Γ3 s3 => asD v fun d => k (some d) (wipeG own Γ3) s3) else k none (wipeG own Γ2) s2) (xs.drop i) Γ2 s2 acc
        (fun ys Γ' s' => KE fx σ H F A Q (.new ys) (backG Γ1 own Γ') s'), ⟨xs.length, rfl, Nat.zero_le _, wipeG own Γ1, s1, F1, A1, [], [], ?_, R1.hx hp, Sub.refl F1, .nil, Nat.le_refl _, q⟩, ?_⟩
    · exact ((R1.wipe own).alloc hp).addL upd_same (R1.nF hp) (R1.nft hp) ((R1.wipe own).noOwn hp)
    · rintro i m H2 ⟨rfl, hi, Γ2, s2, F2, A2, vs, acc, R2, hx2, sb2, rl, hal, q⟩
      have gs : Sub G H2 := fun b o e => (hx2.2 b o (hG b o e).1 (hG b o e).2).1
      by_cases hlt : i < xs.length
      · obtain ⟨x0, e0⟩ := get_lt (l := xs) hlt
        have ed : xs.drop i = x0 :: xs.drop (i + 1) := by
          rw [List.drop_eq_getElem_cons hlt]
          rw [List.getElem?_eq_getElem hlt] at e0
          rw [Option.some.inj e0]
        rw [ed] at q
        obtain ⟨go, yld⟩ := (yl i H2 gs).1 hlt
        refine .inr ⟨go, fun H' => ∃ Γ2 s2 F2 A2 vs acc, SR (fxL fx p (.lst vs)) (wipe σ own) H' Γ2 s2 F2 A2 ∧ HX H1 A1 H' A2 ∧ Sub F1 F2 ∧ RpL F2 vs acc ∧ acc.length ≤ i + 1 ∧
          cLoop (fun x Γ s k => bindT tc x Γ fun Γ' => wC xn c Γ' s fun b Γ2 s2 => if b = true then wE xn ce Γ2 s2 (fun v Γ3 s3 => asD v fun d => k (some d) (wipeG own Γ3) s3) else k none (wipeG own Γ2) s2) (xs.drop (i + 1)) Γ2 s2 acc
            (fun ys Γ' s' => KE fx σ H F A Q (.new ys) (backG Γ1 own Γ') s'), fun H' w => ⟨xs.length - (i + 1), by omega, rfl, hlt, w⟩, fun x H3 y => ?_⟩
        obtain ⟨d, hd, hy⟩ := yld x H3 y
        rw [e0] at hd
        cases hd
        obtain ⟨F3, R3, hx3, sb3, rp⟩ := R2.yield sb2 hy
        have q' : bindT tc x0 Γ2 _ := q
        have g := bindT_rd (K := X.K) R3 rp q'
        refine gmono tc (fun σ2 H4 z => ?_) g
        obtain ⟨rfl, wp, Γ3, q3, R4⟩ := z
        have ew : wipe σ2 own = wipe σ own := (wp own hin).trans wipe_wipe
        refine ⟨ew, ⟨_, Γ3, s2, F3, A2, R4, xn, xk0, wC_mono c (fun b Γ4 s4 q => ?_) q3⟩⟩
        intro H5 F5 A5 R5 hx5 sb5
        refine ite_mono (fun q => ?_) (fun q => ?_) q
        · refine ⟨_, Γ4, s4, F5, A5, R5, xn, xk0, wE_mono ce (fun v Γ6 s6 q => ?_) q⟩
          intro y6 H6 F6 A6 R6 hx6 sb6 rv
          obtain ⟨d, F7, q, R7, sb7, rp7⟩ := R6.stay rv q
          obtain ⟨w1, w2, w3⟩ := R7.lkP
          have hlen : vs.length < sizeLine := Nat.lt_of_lt_of_le (Nat.lt_of_le_of_lt (by rw [rl.length]; exact hal) hlt) (big_sz hbig)
          refine ⟨vs, w1, hlen, wipeG own Γ6, s6, F7, A6, vs ++ [y6], acc ++ [d], ?_, ?_, ?_, ?_, ?_, q⟩
          · have R8 := (R7.wipe own).chg (o' := .lst (vs ++ [y6])) hlp
            rw [ew] at R8
            exact R8
          · have z := ((hx2.trans hx3).trans hx5).trans hx6
            refine ⟨z.1, fun a o e n => ?_⟩
            obtain ⟨z1, z2⟩ := z.2 a o e n
            refine ⟨?_, z2⟩
            rw [upd_ne (fun z => by rw [z, hp] at e; cases e)]
            exact z1
          · exact (((sb2.trans sb3).trans sb5).trans sb6).trans sb7
          · exact (((((rl.mono sb3).mono sb5).mono sb6).mono sb7)).append (.cons rp7 .nil)
          · rw [List.length_append, List.length_singleton]; omega
        · refine ⟨wipeG own Γ4, s4, F5, A5, vs, acc, ?_, (hx2.trans hx3).trans hx5, (sb2.trans sb3).trans sb5, (rl.mono sb3).mono sb5, by omega, ?_⟩
          · have R8 := R5.wipe own
            rw [ew] at R8
            exact R8
          · have e3 : acc ++ (none : Option D).toList = acc := List.append_nil acc
            have q4 : cLoop _ (xs.drop (i + 1)) (wipeG own Γ4) s4 (acc ++ (none : Option D).toList) _ := q
            rw [e3] at q4
            exact q4
      · have e : i = xs.length := by omega
        subst e
        refine .inl ⟨(yl _ H2 gs).2 rfl, ?_⟩
        rw [List.drop_length] at q
        have q' : KE fx σ H F A Q (.new acc) (backG Γ1 own Γ2) s2 := q
        obtain ⟨w1, w2, w3⟩ := R2.lkP
        have no := R2.lkNo
        refine q' (V.ref p) H2 F2 A2 (R1.back (R2.delL hlp) hx2 sb2) (hx1.trans hx2) (sb1.trans sb2) ⟨p, vs, rfl, w1, w2, w3, hlp, rl, fun j ys ej z => ?_⟩
        rcases look_backG ej with ⟨_, _, h3⟩ | ⟨h1, h2⟩
        · exact h3 ys rfl
        · exact no j ys h2 (by rw [wipe_out h1]; exact z)
  refine ⟨?_, key⟩
  have h := pe_lc (own := ol) hc hN hi ok hg ht he (fold1 hs) (pos := p)
  rw [hol] at h
  exact PE_imp h key
where
  gmono {K : PySem.W.Frag} : ∀ (tc : Tg) {x : V} {σ : L2.St} {H : Hp} {Q Q' : L2.St → Hp → Prop}, (∀ σ H, Q σ H → Q' σ H) → rdG K tc x σ H Q → rdG K tc x σ H Q'
    | .nm i, _, _, _, _, _, h, q => h _ _ q
    | .tp is, _, _, _, _, _, h, ⟨a, xs, e1, e2, e3, q⟩ => ⟨a, xs, e1, e2, e3, putAll_rd.rdGs_mono is h q⟩
end
end Ac
namespace Ac
open PySem PySem.Spec PyProof.Rows L2
section
variable {rm : RM} {X : Cx} {k : Nat} {t : Sx} {W : WN} {fx : Fx rm} {xc : Nat → Ctx → rm.S → Prop} {σ : L2.St} {H F : Hp} {Γ : Ctx} {s : rm.S} {A : rm.A}
/-! ### statements -/
theorem PS_imp {X : Cx} {st : Stmt} {t t' : TS} (h : PS X st t) (hi : ∀ D σ H, t' D σ H → t D σ H) : PS X st t' := ⟨fun pins s σ H D I q => h.run pins s σ H D I (hi D σ H q)⟩
theorem PSs_imp {X : Cx} {st : List Stmt} {t t' : TS} (h : PSs X st t) (hi : ∀ D σ H, t' D σ H → t D σ H) : PSs X st t' := ⟨fun pins s σ H D I q => h.run pins s σ H D I (hi D σ H q)⟩
structure KOk (W : WN) (fx : Fx rm) (D : Ends) (K : Kn rm.S) : Prop where
  nx : ∀ Γ s σ H F A, SR fx σ H Γ s F A → K.nx Γ s → D.nx σ H
  rt : ∀ v x Γ s σ H F A, SR fx σ H Γ s F A → RV fx σ H F A Γ x v → K.rt v s → D.rt x H
  bk : ∀ Γ s σ H F A, SR fx σ H Γ s F A → K.bk Γ s → D.bk σ H
  ct : ∀ Γ s σ H F A, SR fx σ H Γ s F A → K.ct Γ s → D.ct σ H
  ex : XcOk W fx K.ex
def rd1 (W : WN) (c : St1 rm.S) : TS := fun D σ H => ∃ (fx : Fx rm) (Γ : Ctx) (s : rm.S) (F : Hp) (A : rm.A), SR fx σ H Γ s F A ∧ ∃ K, KOk W fx D K ∧ w1 c Γ s K
def rdS (W : WN) (c : Sm rm.S) : TS := fun D σ H => ∃ (fx : Fx rm) (Γ : Ctx) (s : rm.S) (F : Hp) (A : rm.A), SR fx σ H Γ s F A ∧ ∃ K, KOk W fx D K ∧ wS c Γ s K
def rdSs (W : WN) (c : Sms rm.S) : TS := fun D σ H => ∃ (fx : Fx rm) (Γ : Ctx) (s : rm.S) (F : Hp) (A : rm.A), SR fx σ H Γ s F A ∧ ∃ K, KOk W fx D K ∧ wSs c Γ s K
theorem n_one {st : Stmt} {c : St1 rm.S} (h : PS X st (rd1 W c)) : PS X st (rdS W (.one c)) := PS_imp h fun D σ H q => by
  obtain ⟨fx, Γ, s, F, A, R, K, ko, q⟩ := q
  unfold wS at q
  exact ⟨fx, Γ, s, F, A, R, K, ko, q⟩
theorem n_nil : PSs X [] (rdSs W (.nil : Sms rm.S)) := PSs_imp pss_nil fun D σ H q => by
  obtain ⟨fx, Γ, s, F, A, R, K, ko, q⟩ := q
  unfold wSs at q
  exact ko.nx _ _ _ _ _ _ R q
theorem n_cons {st : Stmt} {rest : List Stmt} {c : Sm rm.S} {r : Sms rm.S} (h : PS X st (rdS W c)) (hr : PSs X rest (rdSs W r)) : PSs X (st :: rest) (rdSs W (.cons c r)) := PSs_imp (pss_cons h hr) fun D σ H q => by
  obtain ⟨fx, Γ, s, F, A, R, K, ko, q⟩ := q
  unfold wSs at q
  exact ⟨fx, Γ, s, F, A, R, { K with nx := fun Γ' s' => wSs r Γ' s' K }, { nx := fun Γ s σ H F A R q => ⟨fx, Γ, s, F, A, R, K, ko, q⟩, rt := ko.rt, bk := ko.bk, ct := ko.ct, ex := ko.ex }, q⟩
/-! ### single statements -/
theorem swp1 {e : Expr} {x : Str} {p : Pos} {l : Nat} {env : Env} (h : shp e = true) (hc : isComp e = false) : swapsWith e (some (.Name x p)) l env = pure false := swap1 h hc
/-- a name that may be stored -/
def Sto (X : Cx) (x : Str) : Prop := Loc X.env.scope x ∧ (X.fn x = true ∨ X.env.scope.names.lookup x = some .local)
theorem n_asg {i : Nat} {x : Str} {c : E rm.S} {e : Expr} {p p2 : Pos} (hN : X.N.Nodup) (hi : X.N[i]? = some x) (hx : Sto X x) (he : PE X e (rdE W c)) (hsw : swapsWith e (some (.Name x p2)) p.line X.env = pure false) : PS X (.Assign [.Name x p2] e p) (rd1 W (.asg i c)) :=
  PS_imp (ps_set hN hi hx.1 he hsw hx.2) fun D σ H q => by
    obtain ⟨fx, Γ, s, F, A, R, K, ko, q⟩ := q
    dsimp only [w1] at q
    refine ⟨fx, Γ, s, F, A, R, K.ex, ko.ex, wE_mono c (fun v Γ' s' q => ?_) q⟩
    intro y H' F' A' R' hx sb rv
    exact ko.nx _ _ _ _ _ _ (R'.putV rv) q
def isTupE : Expr → Bool
  | .Tuple .. => true
  | _ => false
theorem swst {e : Expr} {ts : List Expr} {kk : Nat} {p : Pos} {env : Env} (h : isTupE e = false) : swappedStores [.Tuple ts kk p] e env = pure none := by
  cases e <;> first | rfl | cases h
theorem swso {e : Expr} {ts : List Expr} {kk : Nat} {p : Pos} {l : Nat} {env : Env} (h : shp e = true) (hc : isComp e = false) : swapsWithSole [.Tuple ts kk p] e l env = pure false := by
  cases e <;> first | rfl | exact Bool.noConfusion hc | exact Bool.noConfusion h
theorem n_pgs {xs : List Expr} {is : List Nat} (hN : X.N.Nodup) (h : Paired (fun (e : Expr) (i : Nat) => ∃ x p, e = .Name x p ∧ X.N[i]? = some x ∧ Sto X x) xs is) : PGs X xs (rdGs is) := by
  induction h with
  | nil => exact pgs_nil
  | cons a b ih =>
    obtain ⟨x, p, rfl, h1, h2⟩ := a
    exact pgs_cons (pg_name hN h1 h2.1 h2.2) ih
theorem asgE_len {env : Env} {xs : List Expr} {is : List Nat} (h : Paired (fun (e : Expr) (i : Nat) => ∃ x p, e = .Name x p ∧ X.N[i]? = some x ∧ Sto X x) xs is) : (assignEach xs env).length = is.length ∧ (assignEach xs env).findIdx? (·.1) = none := by
  induction h with
  | nil => exact ⟨rfl, rfl⟩
  | cons a b ih =>
    obtain ⟨x, p, rfl, h1, h2⟩ := a
    refine ⟨?_, ?_⟩
    · show (_ :: assignEach _ env).length = _
      rw [List.length_cons, List.length_cons, ih.1]
    · show ((false, _) :: assignEach _ env).findIdx? (·.1) = none
      rw [List.findIdx?_cons]
      show Option.map _ ((assignEach _ env).findIdx? (·.1)) = none
      rw [ih.2]
      rfl
abbrev NmOk (X : Cx) (xs : List Expr) (is : List Nat) : Prop := Paired (fun (e : Expr) (i : Nat) => ∃ x p, e = .Name x p ∧ X.N[i]? = some x ∧ Sto X x) xs is
theorem n_pgT {xs : List Expr} {is : List Nat} {kk : Nat} {p : Pos} (hc : X.calm = true) (hN : X.N.Nodup) (h : NmOk X xs is) : PG X (.Tuple xs kk p) (rdG X.K (.tp is)) :=
  pg_tup hc (n_pgs hN h) (asgE_len h).1 (asgE_len h).2
theorem n_asgT {xs : List Expr} {is : List Nat} {c : E rm.S} {e : Expr} {kk : Nat} {p p2 : Pos} (hc : X.calm = true) (hN : X.N.Nodup) (hn : NmOk X xs is) (he : PE X e (rdE W c)) (hs : shp e = true) (hcc : isComp e = false) (ht : isTupE e = false) : PS X (.Assign [.Tuple xs kk p2] e p) (rd1 W (.asgT is c)) :=
  PS_imp (ps_asg he (n_pgT hc hN hn) (swso hs hcc) (swst ht)) fun D σ H q => by
    obtain ⟨fx, Γ, s, F, A, R, K, ko, q⟩ := q
    dsimp only [w1] at q
    refine ⟨fx, Γ, s, F, A, R, K.ex, ko.ex, wE_mono c (fun v Γ' s' q => ?_) q⟩
    intro y H' F' A' R' hx sb rv
    obtain ⟨d, F'', q, R'', sb', rp⟩ := R'.stay rv q
    split at q
    · rename_i ds
      have q' : bindT (.tp is) (.tuple ds) Γ' fun Γ2 => K.nx Γ2 s' := q
      have g := bindT_rd (K := X.K) R'' rp q'
      refine n_comp.gmono (.tp is) (fun σ2 H2 z => ?_) g
      obtain ⟨rfl, _, Γ2, h1, h2⟩ := z
      exact ko.nx _ _ _ _ _ _ h2 h1
    · exact q.elim
theorem ownAt (R : SR fx σ H Γ s F A) {i : Nat} {xs : List D} (h : look Γ i = some (.own xs)) : ∃ a vs, σ[i]? = some (some (V.ref a)) ∧ H a = some (.lst vs) ∧ F a = none ∧ ¬ rm.ft A a ∧ fx.L a = none ∧ RpL F vs xs := by
  obtain ⟨x, h1, a, vs, rfl, e2, e3, e4, e5, e6⟩ := R.sl i _ h
  exact ⟨a, vs, h1, e2, e3, e4, e5, e6⟩
/-- a list of one's own is changed -/
theorem SR.chgOwn (R : SR fx σ H Γ s F A) {i : Nat} {xs ys : List D} {a : Addr} {vs ws : List V} (h : look Γ i = some (.own xs)) (hs : σ[i]? = some (some (V.ref a))) (r : RpL F ws ys) : SR fx σ (upd H a (.lst ws)) (Ac.put Γ i (some (.own ys))) s F A := by
  obtain ⟨a', vs', h1, e2, e3, e4, e5, e6⟩ := ownAt R h
  rw [hs] at h1
  cases h1
  exact {
    fh := fun b u e => by
      have hb : b ≠ a := fun z => by rw [z, e3] at e; cases e
      rw [upd_ne hb]; exact R.fh b u e
    fz := R.fz
    f0 := R.f0
    lk := fun b u e => by
      have hb : b ≠ a := fun z => by rw [z, e5] at e; cases e
      rw [upd_ne hb]; exact R.lk b u e
    a0 := R.a0
    ok := rm.frame R.ok fun q hq => upd_ne fun z => e4 (by rw [← z]; exact hq)
    ln := by rw [put_length]; exact R.ln
    sl := fun j w e => by
      rcases look_put e with ⟨rfl, z⟩ | ⟨ne, e'⟩
      · cases z
        exact ⟨_, hs, a, ws, rfl, upd_same, e3, e4, e5, r⟩
      · obtain ⟨y, q1, q2⟩ := R.sl j w e'
        refine ⟨y, q1, ?_⟩
        cases w with
        | dat d => exact q2
        | new xs => exact q2
        | hdl k => exact q2
        | own zs =>
          obtain ⟨b, us, rfl, w2, w3⟩ := q2
          have hb : b ≠ a := fun z => by
            rw [z] at q1
            exact ne (R.dj j i a zs xs e' h q1 hs)
          exact ⟨b, us, rfl, by rw [upd_ne hb]; exact w2, w3⟩
    dj := fun j l b zs us e1 e2 s1 s2 => by
      rcases look_put e1 with ⟨rfl, _⟩ | ⟨n1, e1'⟩
      · rcases look_put e2 with ⟨rfl, _⟩ | ⟨n2, e2'⟩
        · rfl
        · exact R.dj j l b xs us h e2' s1 s2
      · rcases look_put e2 with ⟨rfl, _⟩ | ⟨n2, e2'⟩
        · exact R.dj j l b zs xs e1' h s1 s2
        · exact R.dj j l b zs us e1' e2' s1 s2 }
theorem stars1 {env : Env} {pos : Pos} {es : List Expr} (h : shpL es = true) : (backTo pos (starEach es env)).all (fun x => !x.1) = true := by
  have := stars (env := env) (pos := pos) h
  rw [List.all_eq_not_any_not]
  rw [show (fun x : Bool × Sem Value => !!x.1) = (fun x => x.1) from funext fun x => Bool.not_not _, this]
  rfl
theorem few1 {e : Expr} {env : Env} {p : Pos} (hs : shp e = true) : ((backTo p (starEach [e] env)).all (fun x => !x.1) && (backToKw p (keywordEach [] env)).all (fun x => x.1.isSome) && decide ([e].length + ([] : List Keyword).length + (if ([] : List Keyword).isEmpty then 0 else 1) < 30)) = true := by
  rw [stars1 (es := [e]) (by unfold shpL; rw [List.all_cons, hs]; rfl)]
  rfl
theorem RV.un {F0 F2 : Hp} {A2 : rm.A} {x : V} {v : Val} (h : RV (rm := rm) ⟨fx.L, F0, fx.A0⟩ σ H F2 A2 Γ x v) : RV fx σ H F2 A2 Γ x v := by
  cases v <;> exact h
theorem n_app {i : Nat} {x : Str} {c : E rm.S} {e : Expr} {p p2 p3 p4 : Pos} (hv : PE X (.Name x p3) (tVar i)) (he : PE X e (rdE W c)) (hs : shp e = true) (hl : (p2.endLine == p4.line) = true) : PS X (.Expr (.Call (.Attribute (.Name x p3) "append" p2) [e] [] p4) p) (rd1 W (.app i c)) :=
  PS_imp (ps_expr (pe_bm PySem.F.plainAttrs_list PySem.F.slot_list_append PySem.F.type_list_append mt_append hv (pa_cons he pa_nil (star1 hs)) (hfew := few1 hs) (hline := hl) (hs := star1 hs))) fun D σ H q => by
    obtain ⟨fx, Γ, s, F, A, R, K, ko, q⟩ := q
    dsimp only [w1] at q
    split at q
    · rename_i xs hxs
      obtain ⟨a, vs, h1, e2, e3, e4, e5, e6⟩ := ownAt R hxs
      refine ⟨.ref a, h1, .inl ⟨rfl, _, SqL.of e2⟩, fx, Γ, s, F, A, R, K.ex, ko.ex, wE_mono c (fun v Γ' s' q => ?_) q⟩
      intro y H' F' A' R' hx sb rv
      obtain ⟨d, F'', q, R'', sb', rp⟩ := R'.stay rv q
      split at q
      · rename_i zs hzs
        obtain ⟨a', ws, g1, g2, g3, g4, g5, g6⟩ := ownAt R'' hzs
        rw [h1] at g1
        cases g1
        refine ⟨a, ws, y, rfl, rfl, g2, by rw [g6.length]; exact big_lt q.1, ?_⟩
        exact ko.nx _ _ _ _ _ _ (R''.chgOwn (vs := ws) hzs h1 (g6.append (.cons rp .nil))) q.2
      · exact q.elim
    · exact q.elim
theorem n_expr {c : E rm.S} {e : Expr} {p : Pos} (he : PE X e (rdE W c)) (hs : shp e = true) (hc : isComp e = false) : PS X (.Expr e p) (rd1 W (.expr c)) :=
  PS_imp (ps_expr he (swap1 hs hc)) fun D σ H q => by
    obtain ⟨fx, Γ, s, F, A, R, K, ko, q⟩ := q
    dsimp only [w1] at q
    refine ⟨fx, Γ, s, F, A, R, K.ex, ko.ex, wE_mono c (fun v Γ' s' q => ?_) q⟩
    intro y H' F' A' R' hx sb rv
    exact ko.nx _ _ _ _ _ _ R' q
theorem n_retV {i : Nat} {x : Str} {p p2 : Pos} (hv : PE X (.Name x p2) (tVar i)) : PS X (.Return (some (.Name x p2)) p) (rd1 W (.ret (.var i : E rm.S))) :=
  PS_imp (ps_ret hv) fun D σ H q => by
    obtain ⟨fx, Γ, s, F, A, R, K, ko, q⟩ := q
    change (match look Γ i with
      | some (.dat d) => K.rt (.dat d) s
      | some (.own xs) => K.rt (.new xs) s
      | some (.hdl k) => K.rt (.hdl k) s
      | _ => False) at q
    split at q
    · rename_i d hd
      obtain ⟨y, h1, h2⟩ := R.sl i _ hd
      exact ⟨y, h1, ko.rt (.dat d) _ _ _ _ _ _ _ R h2 q⟩
    · rename_i xs hxs
      obtain ⟨a, vs, h1, e2, e3, e4, e5, e6⟩ := ownAt R hxs
      refine ⟨_, h1, ko.rt (.new xs) _ _ _ _ _ _ _ (R.drop (i := i)) ⟨a, vs, rfl, e2, e3, e4, e5, e6, fun j ys ej z => ?_⟩ q⟩
      rcases look_put ej with ⟨_, q⟩ | ⟨ne, ej'⟩
      · cases q
      · exact ne (R.dj j i a ys xs ej' hxs z h1)
    · rename_i n hn
      obtain ⟨y, h1, h2⟩ := R.sl i _ hn
      exact ⟨y, h1, ko.rt (.hdl n) _ _ _ _ _ _ _ R h2 q⟩
    · exact q.elim
theorem n_ret {c : E rm.S} {e : Expr} {p : Pos} (he : PE X e (rdE W c)) (hv : ∀ i, c ≠ .var i) : PS X (.Return (some e) p) (rd1 W (.ret c)) :=
  PS_imp (ps_ret he) fun D σ H q => by
    obtain ⟨fx, Γ, s, F, A, R, K, ko, q⟩ := q
    have q' : wE K.ex c Γ s fun v _ s' => K.rt v s' := by
      cases c with
      | var i => exact absurd rfl (hv i)
      | _ => exact q
    refine ⟨fx, Γ, s, F, A, R, K.ex, ko.ex, wE_mono c (fun v Γ' s' q => ?_) q'⟩
    intro y H' F' A' R' hx sb rv
    exact ko.rt _ _ _ _ _ _ _ _ R' rv q
theorem n_brk {p : Pos} : PS X (.Break p) (rd1 W (.brk : St1 rm.S)) := PS_imp ps_break fun D σ H q => by
  obtain ⟨fx, Γ, s, F, A, R, K, ko, q⟩ := q
  exact ko.bk _ _ _ _ _ _ R q
theorem n_cnt {p : Pos} : PS X (.Continue p) (rd1 W (.cnt : St1 rm.S)) := PS_imp ps_continue fun D σ H q => by
  obtain ⟨fx, Γ, s, F, A, R, K, ko, q⟩ := q
  exact ko.ct _ _ _ _ _ _ R q
theorem n_pass {p : Pos} : PS X (.Pass p) (rd1 W (.nop : St1 rm.S)) := PS_imp ps_pass fun D σ H q => by
  obtain ⟨fx, Γ, s, F, A, R, K, ko, q⟩ := q
  exact ko.nx _ _ _ _ _ _ R q
theorem n_never {st : Stmt} : PS X st (rd1 W (.never : St1 rm.S)) := PS_imp ps_never fun D σ H q => by
  obtain ⟨fx, Γ, s, F, A, R, K, ko, q⟩ := q
  exact q
/-- what stays, as it stands now, is the ground -/
theorem SV.re {F0 : Hp} {x : V} {v : Val} (h : SV fx H F A x v) : SV (rm := rm) ⟨fx.L, F0, fx.A0⟩ H F A x v := by
  cases v <;> exact h
theorem SV.un {F0 : Hp} {x : V} {v : Val} (h : SV (rm := rm) ⟨fx.L, F0, fx.A0⟩ H F A x v) : SV fx H F A x v := by
  cases v <;> exact h
theorem SR.base (R : SR fx σ H Γ s F A) : SR (rm := rm) ⟨fx.L, F, fx.A0⟩ σ H Γ s F A where
  fh := R.fh
  fz := R.fz
  f0 := Sub.refl F
  lk := R.lk
  a0 := R.a0
  ok := R.ok
  ln := R.ln
  sl := fun i v e => let ⟨x, h1, h2⟩ := R.sl i v e; ⟨x, h1, h2.re⟩
  dj := R.dj
theorem SR.unbase {F0 : Hp} (R : SR (rm := rm) ⟨fx.L, F0, fx.A0⟩ σ H Γ s F A) (h : Sub fx.F0 F0) : SR fx σ H Γ s F A where
  fh := R.fh
  fz := R.fz
  f0 := h.trans R.f0
  lk := R.lk
  a0 := R.a0
  ok := R.ok
  ln := R.ln
  sl := fun i v e => let ⟨x, h1, h2⟩ := R.sl i v e; ⟨x, h1, h2.un⟩
  dj := R.dj
theorem n_aug {i : Nat} {x : Str} {c : E rm.S} {e : Expr} {o : Operator} {p p2 : Pos} (hN : X.N.Nodup) (hi : X.N[i]? = some x) (hx : Sto X x) (he : PE X e (rdP W c)) (ho : o = .Add ∨ o = .Sub) : PS X (.AugAssign (.Name x p2) o e p) (rd1 W (.aug i o c)) := by
  rcases ho with rfl | rfl
  · exact PS_imp (ps_aug hN hi hx.1 he ip_add hx.2) fun D σ H q => by
      obtain ⟨fx, Γ, s, F, A, R, K, ko, q⟩ := q
      dsimp only [w1] at q
      split at q
      · rename_i a ha
        obtain ⟨y, h1, h2⟩ := R.sl i _ ha
        cases h2
        refine ⟨_, h1, fx, Γ, s, F, A, R, K.ex, ko.ex, opnE_mono c (fun d Γ' s' q => ?_) q⟩
        intro z H' F' A' R' hx sb ro
        split at q
        · exact ⟨_, _, rfl, flat_int ro.1, ko.nx _ _ _ _ _ _ (R'.putD (.int _)) q⟩
        · exact q.elim
      · exact q.elim
  · exact PS_imp (ps_aug hN hi hx.1 he ip_sub hx.2) fun D σ H q => by
      obtain ⟨fx, Γ, s, F, A, R, K, ko, q⟩ := q
      dsimp only [w1] at q
      split at q
      · rename_i a ha
        obtain ⟨y, h1, h2⟩ := R.sl i _ ha
        cases h2
        refine ⟨_, h1, fx, Γ, s, F, A, R, K.ex, ko.ex, opnE_mono c (fun d Γ' s' q => ?_) q⟩
        intro z H' F' A' R' hx sb ro
        split at q
        · exact ⟨_, _, rfl, flat_int ro.1, ko.nx _ _ _ _ _ _ (R'.putD (.int _)) q⟩
        · exact q.elim
      · exact q.elim
/-! ### if, while, for -/
theorem n_ite {c : E rm.S} {e : Expr} {a b : List Stmt} {ca cb : Sms rm.S} {p : Pos} (hc : PT X e (rdT W c)) (ha : PSs X a (rdSs W ca)) (hb : PSs X b (rdSs W cb)) : PS X (.If e a b p) (rdS W (.ite c ca cb)) :=
  PS_imp (ps_if hc ha hb) fun D σ H q => by
    obtain ⟨fx, Γ, s, F, A, R, K, ko, q⟩ := q
    unfold wS at q
    refine ⟨fx, Γ, s, F, A, R, K.ex, ko.ex, opnE_mono c (fun d Γ' s' q => ?_) q⟩
    refine boolD_mono (fun b q => ?_) q
    intro H' F' A' R' hx sb
    exact ite_mono (fun q => ⟨fx, Γ', s', F', A', R', K, ko, q⟩) (fun q => ⟨fx, Γ', s', F', A', R', K, ko, q⟩) q
theorem n_whl {c : E rm.S} {e : Expr} {b : List Stmt} {cb : Sms rm.S} {p : Pos} (hp : PassesOwn (model X.prog X.w) X.A X.env X.xe) (hc : PT X e (rdT W c)) (hb : PSs X b (rdSs W cb)) : PS X (.While e b [] p) (rdS W (.whl c cb)) :=
  PS_imp (ps_while hp hc hb) fun D σ H q => by
    obtain ⟨fx, Γ, s, F, A, R, K, ko, q⟩ := q
    unfold wS at q
    obtain ⟨V, ⟨m0, v0⟩, turn⟩ := q
    refine ⟨fun m σ H => ∃ Γ s F A, SR fx σ H Γ s F A ∧ V m Γ s, ⟨m0, Γ, s, F, A, R, v0⟩, ?_⟩
    rintro m σ1 H1 ⟨Γ1, s1, F1, A1, R1, v1⟩
    refine ⟨fx, Γ1, s1, F1, A1, R1, K.ex, ko.ex, opnE_mono c (fun d Γ' s' q => ?_) (turn m Γ1 s1 v1)⟩
    refine boolD_mono (fun b q => ?_) q
    intro H' F' A' R' hx sb
    refine ite_mono (fun q => ?_) (fun q => ko.nx _ _ _ _ _ _ R' q) q
    refine ⟨fun σ H => ∃ m', m' < m ∧ ∃ Γ s F A, SR fx σ H Γ s F A ∧ V m' Γ s, fun σ' H' h => h, fx, Γ', s', F', A', R', _, ?_, q⟩
    exact { nx := fun Γ s σ H F A R ⟨m', h1, h2⟩ => ⟨m', h1, Γ, s, F, A, R, h2⟩, rt := ko.rt, bk := ko.nx, ct := fun Γ s σ H F A R ⟨m', h1, h2⟩ => ⟨m', h1, Γ, s, F, A, R, h2⟩, ex := ko.ex }
theorem n_for {tc : Tg} {it : It rm.S} {cb : Sms rm.S} {tg iter : Expr} {b : List Stmt} {p : Pos} (hp : PassesOwn (model X.prog X.w) X.A X.env X.xe) (hc : X.calm = true) (hi : PI X tg iter (rdJ W it)) (hg : PG X tg (rdG X.K tc)) (hb : PSs X b (rdSs W cb)) (hs : shp iter = true) : PS X (.For tg iter b [] p) (rdS W (.for tc it cb)) :=
  PS_imp (ps_for hp hc hi hg hb (fold1 hs)) fun D σ H q => by
    obtain ⟨fx, Γ, s, F, A, R, K, ko, q⟩ := q
    unfold wS at q
    refine ⟨fx, Γ, s, F, A, R, K.ex, ko.ex, wJ_mono it (fun xs Γ1 s1 q => ?_) q⟩
    intro J H1 F1 A1 R1 hx1 sb1 yl
    obtain ⟨hbig, q⟩ := q
    refine ⟨fun i m σ2 H2 => m = xs.length - i ∧ i ≤ xs.length ∧ ∃ Γ2 s2 F2 A2, SR fx σ2 H2 Γ2 s2 F2 A2 ∧ Sub F1 F2 ∧ fLoop (fun x Γ s K' => bindT tc x Γ fun Γ' => wSs cb Γ' s K') K (xs.drop i) Γ2 s2, ⟨xs.length, rfl, Nat.zero_le _, Γ1, s1, F1, A1, R1, Sub.refl F1, q⟩, ?_⟩
    rintro i m σ2 H2 ⟨rfl, hi, Γ2, s2, F2, A2, R2, sb2, q⟩
    have gs : Sub F1 H2 := sb2.trans R2.fh
    by_cases hlt : i < xs.length
    · obtain ⟨x0, e0⟩ := get_lt (l := xs) hlt
      have ed : xs.drop i = x0 :: xs.drop (i + 1) := by
        rw [List.drop_eq_getElem_cons hlt]
        rw [List.getElem?_eq_getElem hlt] at e0
        rw [Option.some.inj e0]
      rw [ed] at q
      obtain ⟨go, yld⟩ := (yl i H2 gs).1 hlt
      refine .inr ⟨go, fun σ' H' => ∃ Γ2 s2 F2 A2, SR fx σ' H' Γ2 s2 F2 A2 ∧ Sub F1 F2 ∧ fLoop (fun x Γ s K' => bindT tc x Γ fun Γ' => wSs cb Γ' s K') K (xs.drop (i + 1)) Γ2 s2, fun σ' H' w => ⟨xs.length - (i + 1), by omega, rfl, hlt, w⟩, fun x H3 y => ?_⟩
      obtain ⟨d, hd, hy⟩ := yld x H3 y
      rw [e0] at hd
      cases hd
      obtain ⟨F3, R3, hx3, sb3, rp⟩ := R2.yield sb2 hy
      have q' : bindT tc x0 Γ2 (fun Γ' => wSs cb Γ' s2 _) := q
      have g := bindT_rd (K := X.K) R3 rp q'
      refine n_comp.gmono tc (fun σ4 H4 z => ?_) g
      obtain ⟨rfl, _, Γ4, q4, R4⟩ := z
      refine ⟨⟨fx.L, F3, fx.A0⟩, Γ4, s2, F3, A2, R4.base, _, ?_, q4⟩
      exact {
        nx := fun Γ5 s5 σ5 H5 F5 A5 R5 q5 => ⟨Γ5, s5, F5, A5, R5.unbase (R4.f0), (sb2.trans sb3).trans R5.f0, q5⟩
        rt := fun v x Γ5 s5 σ5 H5 F5 A5 R5 rv q5 => ko.rt v x _ _ _ _ _ _ (R5.unbase R4.f0) rv.un q5
        bk := fun Γ5 s5 σ5 H5 F5 A5 R5 q5 => ko.nx _ _ _ _ _ _ (R5.unbase R4.f0) q5
        ct := fun Γ5 s5 σ5 H5 F5 A5 R5 q5 => ⟨Γ5, s5, F5, A5, R5.unbase (R4.f0), (sb2.trans sb3).trans R5.f0, q5⟩
        ex := fun n Γ5 s5 σ5 H5 F5 A5 R5 q5 => ko.ex n _ _ _ _ _ _ (R5.unbase R4.f0) q5 }
    · have e : i = xs.length := by omega
      subst e
      refine .inl ⟨(yl _ H2 gs).2 rfl, ?_⟩
      rw [List.drop_length] at q
      exact ko.nx _ _ _ _ _ _ R2 q
end
end Ac
namespace Ac
open PySem PySem.Spec PyProof.Rows L2
section
variable {rm : RM} {X : Cx} {k : Nat} {t : Sx} {W : WN} {fx : Fx rm} {xc : Nat → Ctx → rm.S → Prop} {σ : L2.St} {H F : Hp} {Γ : Ctx} {s : rm.S} {A : rm.A}
/-! ### what a for walks -/
theorem n_jSeq {c : E rm.S} {e tg : Expr} (h : PE X e (rdE W c)) : PI X tg e (rdJ W (.seq c)) := by
  refine PI_imp (pi_seq h) fun σ H R q => ?_
  obtain ⟨fx, Γ, s, F, A, R0, xc, xk, q⟩ := q
  unfold wJ at q
  refine ⟨fx, Γ, s, F, A, R0, xc, xk, wE_mono c (fun v Γ1 s1 q => ?_) q⟩
  intro x H1 F1 A1 R1 hx1 sb1 rv
  obtain ⟨d, F2, q, R2, sb2, rp⟩ := R1.stay rv q
  unfold seqD at q
  split at q
  · cases rp with
    | lst h1 r => exact .inl ⟨_, rfl, ⟨_, .inl (R2.fh.rd h1)⟩, q _ H1 F2 A1 R2 hx1 (sb1.trans sb2) (yl_list h1 r)⟩
  · cases rp with
    | tup h1 r => exact .inr ⟨_, rfl, ⟨_, .inl (.inl (R2.fh _ _ h1))⟩, q _ H1 F2 A1 R2 hx1 (sb1.trans sb2) (yl_tup h1 r)⟩
  · exact q.elim
theorem n_jRng1 {c : E rm.S} {e tg : Expr} {p p2 : Pos} (hg : Gl X "range") (hm : X.mg "range" = none) (ha : PA X [e] (rdA W (.cons c .nil))) (hs : shp e = true) : PI X tg (.Call (.Name "range" p2) [e] [] p) (rdJ W (.rng (.cons c .nil))) := by
  refine PI_imp (pi_range1 hg hm ha (star1 hs)) fun σ H R q => ?_
  obtain ⟨fx, Γ, s, F, A, R0, xc, xk, q⟩ := q
  unfold wJ at q
  exact rng1_rd R0 xk q fun xs Γ' s' h J H' F' A' R' hx sb yl => h J H' F' A' R' hx sb (yl _ _)
theorem n_jRng2 {c c2 : E rm.S} {e e2 tg : Expr} {p p2 : Pos} (hg : Gl X "range") (hm : X.mg "range" = none) (ha : PA X [e, e2] (rdA W (.cons c (.cons c2 .nil)))) (hs : shp e = true) (hs2 : shp e2 = true) : PI X tg (.Call (.Name "range" p2) [e, e2] [] p) (rdJ W (.rng (.cons c (.cons c2 .nil)))) := by
  refine PI_imp (pi_range2 hg hm ha (by rw [star1 hs, star1 hs2]; rfl) (by rw [star1 hs2]; rfl)) fun σ H R q => ?_
  obtain ⟨fx, Γ, s, F, A, R0, xc, xk, q⟩ := q
  unfold wJ at q
  exact rng2_rd R0 xk q fun xs Γ' s' h J H' F' A' R' hx sb yl => h J H' F' A' R' hx sb (yl _ _)
theorem n_jRng3 {c c2 c3 : E rm.S} {e e2 e3 tg : Expr} {p p2 : Pos} (hg : Gl X "range") (hm : X.mg "range" = none) (ha : PA X [e, e2, e3] (rdA W (.cons c (.cons c2 (.cons c3 .nil))))) (hs : shp e = true) (hs2 : shpL [e2, e3] = true) : PI X tg (.Call (.Name "range" p2) [e, e2, e3] [] p) (rdJ W (.rng (.cons c (.cons c2 (.cons c3 .nil))))) := by
  refine PI_imp (pi_range3 hg hm ha (star1 hs) (stars hs2)) fun σ H R q => ?_
  obtain ⟨fx, Γ, s, F, A, R0, xc, xk, q⟩ := q
  unfold wJ at q
  exact rng3_rd R0 xk q fun xs Γ' s' h J H' F' A' R' hx sb yl => h J H' F' A' R' hx sb (yl _ _)
theorem n_iRng1 {c : E rm.S} {e tg : Expr} {p p2 : Pos} (hg : Gl X "range") (hm : X.mg "range" = none) (ha : PA X [e] (rdA W (.cons c .nil))) (hs : shp e = true) : PI X tg (.Call (.Name "range" p2) [e] [] p) (rdI W (.rng (.cons c .nil))) := by
  refine PI_imp (pi_range1 hg hm ha (star1 hs)) fun σ H R q => ?_
  obtain ⟨fx, Γ, s, F, A, R0, xc, xk, q⟩ := q
  unfold wI at q
  exact rng1_rd R0 xk q fun xs Γ' s' h J H' F' A' R' hx sb yl => h J H' F' A' (fun _ => none) R' hx sb nogc (yl _ _)
theorem n_iRng2 {c c2 : E rm.S} {e e2 tg : Expr} {p p2 : Pos} (hg : Gl X "range") (hm : X.mg "range" = none) (ha : PA X [e, e2] (rdA W (.cons c (.cons c2 .nil)))) (hs : shp e = true) (hs2 : shp e2 = true) : PI X tg (.Call (.Name "range" p2) [e, e2] [] p) (rdI W (.rng (.cons c (.cons c2 .nil)))) := by
  refine PI_imp (pi_range2 hg hm ha (by rw [star1 hs, star1 hs2]; rfl) (by rw [star1 hs2]; rfl)) fun σ H R q => ?_
  obtain ⟨fx, Γ, s, F, A, R0, xc, xk, q⟩ := q
  unfold wI at q
  exact rng2_rd R0 xk q fun xs Γ' s' h J H' F' A' R' hx sb yl => h J H' F' A' (fun _ => none) R' hx sb nogc (yl _ _)
theorem n_iRng3 {c c2 c3 : E rm.S} {e e2 e3 tg : Expr} {p p2 : Pos} (hg : Gl X "range") (hm : X.mg "range" = none) (ha : PA X [e, e2, e3] (rdA W (.cons c (.cons c2 (.cons c3 .nil))))) (hs : shp e = true) (hs2 : shpL [e2, e3] = true) : PI X tg (.Call (.Name "range" p2) [e, e2, e3] [] p) (rdI W (.rng (.cons c (.cons c2 (.cons c3 .nil))))) := by
  refine PI_imp (pi_range3 hg hm ha (star1 hs) (stars hs2)) fun σ H R q => ?_
  obtain ⟨fx, Γ, s, F, A, R0, xc, xk, q⟩ := q
  unfold wI at q
  exact rng3_rd R0 xk q fun xs Γ' s' h J H' F' A' R' hx sb yl => h J H' F' A' (fun _ => none) R' hx sb nogc (yl _ _)
theorem n_jEnu {c : E rm.S} {e : Expr} {elts : List Expr} {kk : Nat} {tp p p2 : Pos} (hg : Gl X "enumerate") (hm : X.mg "enumerate" = none) (h : PE X e (rdE W c)) (hs : shp e = true) : PI X (.Tuple elts kk tp) (.Call (.Name "enumerate" p2) [e] [] p) (rdJ W (.enu c)) := by
  refine PI_imp (pi_enum hg hm (pa_cons h pa_nil (star1 hs)) (star1 hs)) fun σ H R q => ?_
  obtain ⟨fx, Γ, s, F, A, R0, xc, xk, q⟩ := q
  unfold wJ at q
  refine ⟨fx, Γ, s, F, A, R0, xc, xk, wE_mono c (fun v Γ1 s1 q => ?_) q⟩
  intro x H1 F1 A1 R1 hx1 sb1 rv
  obtain ⟨d, F2, q, R2, sb2, rp⟩ := R1.stay rv q
  unfold lstD at q
  split at q
  · cases rp with
    | lst h1 r => exact ⟨_, _, rfl, .inl (R2.fh.rd h1), q _ H1 F2 A1 R2 hx1 (sb1.trans sb2) (yl_enum h1 r)⟩
  · exact q.elim
theorem n_jZip {c c2 : E rm.S} {e e2 : Expr} {elts : List Expr} {kk : Nat} {tp p p2 : Pos} (hg : Gl X "zip") (hm : X.mg "zip" = none) (h : PE X e (rdE W c)) (h2 : PE X e2 (rdE W c2)) (hs : shp e = true) (hs2 : shp e2 = true) : PI X (.Tuple elts kk tp) (.Call (.Name "zip" p2) [e, e2] [] p) (rdJ W (.zip c c2)) := by
  refine PI_imp (pi_zip hg hm (pa_cons h (pa_cons h2 pa_nil (star1 hs2)) (star1 hs)) (star1 hs) (stars (by unfold shpL; rw [List.all_cons, hs2]; rfl))) fun σ H R q => ?_
  obtain ⟨fx, Γ, s, F, A, R0, xc, xk, q⟩ := q
  unfold wJ at q
  refine ⟨fx, Γ, s, F, A, R0, xc, xk, wE_mono c (fun v Γ1 s1 q => ?_) q⟩
  intro x H1 F1 A1 R1 hx1 sb1 rv
  obtain ⟨d, F2, q, R2, sb2, rp⟩ := R1.stay rv q
  refine ⟨fx, Γ1, s1, F2, A1, R2, xc, xk, wE_mono c2 (fun v2 Γ3 s3 q => ?_) q⟩
  intro y H3 F3 A3 R3 hx3 sb3 rv3
  obtain ⟨d4, F4, q, R4, sb4, rp4⟩ := R3.stay rv3 q
  unfold lstD at q
  split at q
  · split at q
    · cases rp with
      | lst h1 r =>
        cases rp4 with
        | lst h5 r5 => exact ⟨_, _, _, _, rfl, .inl (R4.fh.rd ((sb3.trans sb4).rd h1)), .inl (R4.fh.rd h5), q _ H3 F4 A3 R4 (hx1.trans hx3) (((sb1.trans sb2).trans sb3).trans sb4) (yl_zip ((sb3.trans sb4).rd h1) h5 ((r.mono sb3).mono sb4) r5)⟩
    · exact q.elim
  · exact q.elim
/-! ### name = [..] -/
theorem n_asgL {i : Nat} {y : Str} {own : List Nat} {tc : Tg} {it : It rm.S} {c : Es rm.S} {ce : E rm.S} {elt tg iter : Expr} {ifs : List Expr} {scope : Scope} {ol : List (Str × Nat)} {p p2 p3 : Pos} (hy : X.N[i]? = some y) (hyl : X.env.scope.names.lookup y = some .local)
    (hsw : swapsWith (.ListComp elt [⟨tg, iter, ifs, 0⟩] scope p) (some (.Name y p2)) p3.line X.env = pure true) (hol : ol.map (·.2) = own) (hc : X.calm = true) (hN : X.N.Nodup)
    (hi : PI X tg iter (rdI W it)) (ok : BlkOk X.N X.env.scope scope ol)
    (hg : ∀ (s : Shared) (H : Hp) (C : Addr) (cl : List (Str × Addr)) (fp : List Addr), PG (X.blk s H scope (compEnvC scope cl C X.env) fp) tg (rdG X.K tc))
    (ht : ∀ (s : Shared) (H : Hp) (C : Addr) (cl : List (Str × Addr)) (fp : List Addr), PTs (X.blk s H scope (compEnvC scope cl C X.env) fp) ifs (rdC W0 c))
    (he : ∀ (s : Shared) (H : Hp) (C : Addr) (cl : List (Str × Addr)) (fp : List Addr), PE (X.blk s H scope (compEnvC scope cl C X.env) fp) elt (rdE W0 ce)) (hs : shp iter = true) (hin : tgIn tc own) :
    PS X (.Assign [.Name y p2] (.ListComp elt [⟨tg, iter, ifs, 0⟩] scope p) p3) (rd1 W (.asgL i (.comp own tc it c ce))) := by
  have h := ps_setLc (own := ol) hc hN hy hyl hsw hi ok hg ht he (fold1 hs)
  rw [hol] at h
  refine PS_imp h fun D σ H q => ?_
  obtain ⟨fx, Γ, s, F, A, R, K, ko, q⟩ := q
  dsimp only [w1] at q
  refine (n_comp (p := p) hol hc hN hi ok hg ht he hs hin).2 σ H _ ⟨fx, Γ, s, F, A, R, K.ex, ko.ex, wE_mono _ (fun v Γ' s' q => ?_) q⟩
  intro y H' F' A' R' hx sb rv
  exact ko.nx _ _ _ _ _ _ (R'.putV rv) q
/-! ### xs[j] = e; xs.insert(j, e); raise -/
theorem asg_sub {o i : Expr} {p : Pos} {env : Env} (h : shp i = true) : ∀ v, assign (.Subscript o i p) env v = (do
      let ov ← holding [v] (eval o env)
      let iv ← holding [v, ov] (eval i env)
      standAt p
      holding [v, ov, iv] (setItem ov iv v)
      release [v, ov, iv] []) := by
  cases i <;> first | (intro v; rfl) | cases h
theorem swsub {e o i : Expr} {p : Pos} {l : Nat} {env : Env} (h : shp e = true) (hc : isComp e = false) : swapsWithSole [.Subscript o i p] e l env = pure false := by
  cases e <;> first | rfl | exact Bool.noConfusion hc | exact Bool.noConfusion h
theorem swsub2 {e o i : Expr} {p : Pos} {env : Env} (h : isTupE e = false) : swappedStores [.Subscript o i p] e env = pure none := by
  cases e <;> first | rfl | cases h
theorem n_setI {i : Nat} {x : Str} {cj c : E rm.S} {j e : Expr} {p p2 p3 : Pos} (hv : PE X (.Name x p3) (tVar i)) (hj : PE X j (rdP W cj)) (he : PE X e (rdE W c)) (hsj : shp j = true) (hs : shp e = true) (hc : isComp e = false) (ht : isTupE e = false) : PS X (.Assign [.Subscript (.Name x p3) j p2] e p) (rd1 W (.setI i cj c)) :=
  PS_imp (ps_asg he (pg_sub hv hj set_list (asg_sub hsj)) (swsub hs hc) (swsub2 ht)) fun D σ H q => by
    obtain ⟨fx, Γ, s, F, A, R, K, ko, q⟩ := q
    dsimp only [w1] at q
    refine ⟨fx, Γ, s, F, A, R, K.ex, ko.ex, wE_mono c (fun v Γ' s' q => ?_) q⟩
    intro y H' F' A' R' hx sb rv
    obtain ⟨d, F'', q, R'', sb', rp⟩ := R'.stay rv q
    split at q
    · rename_i xs hxs
      obtain ⟨a, vs, h1, e2, e3, e4, e5, e6⟩ := ownAt R'' hxs
      refine ⟨.ref a, h1, fx, Γ', s', F'', A', R'', K.ex, ko.ex, opnE_mono cj (fun z Γ2 s2 q => ?_) q⟩
      intro w H2 F2 A2 R2 hx2 sb2 ro
      split at q
      · rename_i zs n hzs
        split at q
        · rename_i m hm
          obtain ⟨a', ws, g1, g2, g3, g4, g5, g6⟩ := ownAt R2 hzs
          rw [h1] at g1
          cases g1
          refine ⟨a, ws, n, m, rfl, flat_int ro.1, g2, by rw [g6.length]; exact hm, ?_⟩
          exact ko.nx _ _ _ _ _ _ (R2.chgOwn (vs := ws) hzs h1 (g6.set (rp.mono sb2) m)) q
        · exact q.elim
      · exact q.elim
    · exact q.elim
theorem RpL.ins {x : V} {d : D} (h : Rp F x d) : ∀ {vs : List V} {ds : List D} {n : Nat}, RpL F vs ds → n ≤ ds.length → RpL F (vs.take n ++ [x] ++ vs.drop n) (ds.insertIdx n d)
  | vs, ds, 0, r, _ => by
    rw [List.insertIdx_zero]
    exact .cons h r
  | _, _, n + 1, .nil, hn => absurd hn (Nat.not_succ_le_zero n)
  | _, _, n + 1, .cons (v := v) (d := d') a b, hn => by
    rw [List.insertIdx_succ_cons]
    exact .cons a (RpL.ins h b (Nat.le_of_succ_le_succ hn))
theorem n_ins {i : Nat} {x : Str} {cj c : E rm.S} {j e : Expr} {p p2 p3 p4 : Pos} (hv : PE X (.Name x p3) (tVar i)) (hj : PE X j (rdP W cj)) (he : PE X e (rdE W c)) (hsj : shp j = true) (hs : shp e = true) (hl : (p2.endLine == p4.line) = true) : PS X (.Expr (.Call (.Attribute (.Name x p3) "insert" p2) [j, e] [] p4) p) (rd1 W (.ins i cj c)) :=
  PS_imp (ps_expr (pe_bm PySem.F.plainAttrs_list PySem.F.slot_list_insert PySem.F.type_list_insert mt_insert hv (pa_cons hj (pa_cons he pa_nil (star1 hs)) (star1 hsj)) (hfew := few2 hsj hs) (hline := hl) (hs := star1 hsj) (hplain := stars (by unfold shpL; rw [List.all_cons, hs]; rfl)))) fun D σ H q => by
    obtain ⟨fx, Γ, s, F, A, R, K, ko, q⟩ := q
    dsimp only [w1] at q
    split at q
    · rename_i xs hxs
      obtain ⟨a, vs, h1, e2, e3, e4, e5, e6⟩ := ownAt R hxs
      refine ⟨.ref a, h1, .inl ⟨rfl, _, SqL.of e2⟩, fx, Γ, s, F, A, R, K.ex, ko.ex, opnE_mono cj (fun z Γ1 s1 q => ?_) q⟩
      intro w H1 F1 A1 R1 hx1 sb1 ro
      refine ⟨fx, Γ1, s1, F1, A1, R1, K.ex, ko.ex, wE_mono c (fun v Γ' s' q => ?_) q⟩
      intro y H' F' A' R' hx sb rv
      obtain ⟨d, F'', q, R'', sb', rp⟩ := R'.stay rv q
      split at q
      · rename_i zs n hzs _ _
        obtain ⟨a', ws, g1, g2, g3, g4, g5, g6⟩ := ownAt R'' hzs
        rw [h1] at g1
        cases g1
        obtain ⟨q1, q2, q3, q4⟩ := q
        have hb := big_lt q1
        have hbig : zs.length < 100000 := q1
        refine ⟨a, ws, n, y, rfl, by rw [flat_int ro.1], g2, by rw [g6.length]; exact hb, q2, by omega, ?_⟩
        exact ko.nx _ _ _ _ _ _ (R''.chgOwn (vs := ws) hzs h1 (RpL.ins rp g6 (by omega))) q4
      · exact q.elim
    · exact q.elim
where
  few2 {e e2 : Expr} {env : Env} {p : Pos} (hs : shp e = true) (hs2 : shp e2 = true) : ((backTo p (starEach [e, e2] env)).all (fun x => !x.1) && (backToKw p (keywordEach [] env)).all (fun x => x.1.isSome) && decide ([e, e2].length + ([] : List Keyword).length + (if ([] : List Keyword).isEmpty then 0 else 1) < 30)) = true := by
    rw [stars1 (es := [e, e2]) (by unfold shpL; rw [List.all_cons, hs, List.all_cons, hs2]; rfl)]
    rfl
/-- the program's exceptions: by a name its number, its class -/
structure ExF (X : Cx) (x : Str) (C : Addr) : Prop where
  mg : X.mg x = some (.ref C)
  ex : PySem.W.excIn X.K C [.type "ValueError", .type "Exception", .type "BaseException", .type "object"] "ValueError.__new__" = true
  kp : PySem.W.keepIn X.K (.ref C) = true
  sb : PySem.W.subIn X.K (.ref C) (.type "BaseException") = some true
  ty : PySem.W.typeIn X.K (.ref C) = some (.type "type")
theorem n_raise {cl : Nat → Addr} {x m : Str} {n j : Nat} {p p2 p3 p4 : Pos} (hc : X.calm = true) (tk : Takes X (WXof cl W)) (f : ExF X x (cl n)) (hg : Gl X x) (hdb : (x == ("__debug__" : Str)) = false) : PS X (.Raise (some (.Call (.Name x p3) [.Constant (.str m) j p4] [] p2)) none p) (rd1 W (.raise x n : St1 rm.S)) :=
  PS_imp (ps_raise hc tk (pmk_own PySem.F.excBase_ValueError f.ex f.mg f.kp (raises_own f.sb f.ty) hg hdb)) fun D σ H q => by
    obtain ⟨fx, Γ, s, F, A, R, K, ko, q⟩ := q
    dsimp only [w1] at q
    exact ⟨n, rfl, rfl, ko.ex n _ _ _ _ _ _ R q⟩
end
end Ac
namespace Ac
open PySem PySem.Spec PyProof.Rows L2
/-! ### set(xs) of a list of ints; sorted and len of it -/
abbrev nSet (wd : World) : Obj := { cls := .type "set", dict := none, data := .set #[] 0 (.fresh 0 0 (!wd.params.followText "set-order")) }
section
variable {Pg : Program} {wd : World} {Ar : Around} {Ex : Value → Shared → Prop} {sh : Shared}
set_option maxHeartbeats 3200000 in
theorem set_listI {ad : Addr} {its : Array Value} (ns : List Int) {Q : Value → Shared → Prop} (nh : Ar.handled = none) (hl : sh.heap.IsList ad its) (hI : IntsAre its.toList ns) (hb : ns.length + 1 < scanBound)
    (fin : ∀ (hp : Heap) (tk c : Nat), SetR wd hp sh.heap.objs.size (fun j => decide (j ∈ ns)) c → c ≤ ns.length → (∀ b o, sh.heap.get? b = some o → hp.get? b = some o) → Q (.ref sh.heap.objs.size) { sh with heap := hp, toks := tk }) :
    wpAny (model Pg wd) Ar (call (.type "set") [.ref ad]) Q Ex sh := by
  have hsz : its.size = ns.length := by
    have q := IntsAre.length hI
    rw [Array.length_toList] at q
    exact q
  obtain ⟨c, tl, hmro⟩ := F.called_set.mro
  have hmade := F.called_set.made
  have hsub := F.called_set.sub
  refine wpAny_call (codeAny_of_tree ?_)
  show wpAny _ _ (callAny (.type "set") _) _ _ _
  refine wpAny_pure ⟨Code.quiet_builtin _ (by decide +kernel), codeAny_builtin F.entry_type_call ?_⟩
  rw [Around.under_plain (weight_type_call_type "set" [.ref ad] []) rfl]
  have c1 := F.called_set.notType
  have c2 := F.called_set.canCreate
  have ct := F.typeCall_set_1 (.ref ad)
  repeat (any_goals (first | assumption | wp_step))
  refine codeAny_mono (code_set_led1 (.ref ad) (E := Ex) (Q₁ := fun ob s1 => ob = .ref sh.heap.objs.size ∧ s1 = { sh with heap := sh.heap.push (nSet wd) }) ⟨rfl, rfl⟩) fun r s1 hr => ?_
  cases r with
  | error e => exact hr
  | ok fl =>
    cases fl with
    | ret ob =>
      obtain ⟨rfl, rfl⟩ := hr
      have hS : (sh.heap.push (nSet wd)).get? sh.heap.objs.size = some (nSet wd) := Heap.get?_push_size _ rfl
      have hT : Shared.TypeIs { sh with heap := sh.heap.push (nSet wd) } (.ref sh.heap.objs.size) "set" := ⟨_, hS, rfl⟩
      have il := F.called_set.init.lookup
      have ib := F.called_set.init.bind (.ref sh.heap.objs.size)
      repeat (any_goals (first | assumption | wp_step))
      refine codeAny_mono (codeAny_call_builtin (R := wants (fun r s2 => r = .none ∧ ∃ hp tk c, s2 = { sh with heap := hp, toks := tk } ∧ SetR wd hp sh.heap.objs.size (fun j => decide (j ∈ ns)) c ∧ c ≤ ns.length ∧
          (∀ b o, sh.heap.get? b = some o → hp.get? b = some o)) Ex) F.called_set.init.plain F.entry_set_init (check_set_init_1 hT ?_)) fun r2 s2 hr2 => ?_
      · obtain ⟨ol, e1, e2, nl, e3⟩ := hl
        obtain ⟨x1, x2, x3, x4⟩ := ol
        simp only at e2 e3
        subst e2
        subst e3
        have e4 : (sh.heap.push (nSet wd)).get? ad = some { cls := .type "list", dict := x2, data := .seq its nl, slots := x4 } := Heap.get?_push_of_some _ e1
        have b1 := F.sub_list_set
        have b2 := F.sub_list_frozenset
        have b3 : (Value.type "list" == Value.type "dict") = false := by decide
        have isl : (sh.heap.push (nSet wd)).IsList ad its := ⟨_, e4, rfl, nl, rfl⟩
        unfold Builtin.«set.__init__» noKeywords Builtin.Frozenset.updateFrom
        generalize hPI : pyIter = PI
        wp_walk
        subst hPI
        refine wpAny_pyIter_list isl ?_
        refine wpAny_bind (wpAny_runValue ?_)
        have lt0 : ad < sh.heap.objs.size := Heap.lt_size e1
        have nh3 : Ar.in1.in1.in1.handled = none := by simp [nh]
        have sz1 : (sh.heap.push (nSet wd)).objs.size = sh.heap.objs.size + 1 := Heap.size_push ..
        have ne1 : ad ≠ (sh.heap.push (nSet wd)).objs.size := by rw [sz1]; exact Nat.ne_of_lt (Nat.lt_succ_of_lt lt0)
        have nm : sh.heap.objs.size ∉ [(sh.heap.push (nSet wd)).objs.size, ad] := by
          rw [sz1]
          simp only [List.mem_cons, List.mem_singleton, List.not_mem_nil, or_false, not_or]
          exact ⟨Nat.ne_of_lt (Nat.lt_succ_self _), Nat.ne_of_gt lt0⟩
        have val : ∀ (i : Nat) (v : Value), its[i]? = some v → ∃ k t, ns[i]? = some k ∧ v = .int k t := fun i v hv => by
          have hi : i < ns.length := by rw [← hsz]; exact (Array.getElem?_eq_some_iff.mp hv).1
          obtain ⟨t, e⟩ := PyProof.Rows.IntsAre.int_at hI i v (by rw [Array.getElem?_toList]; exact hv)
          refine ⟨ns[i], t, List.getElem?_eq_getElem hi, ?_⟩
          rw [e, List.getD_eq_getElem?_getD, List.getElem?_eq_getElem hi] <;> rfl
        refine set_update_ints ((Walks.list nh3 _ ad ne1 its).toS) sh.heap.objs.size nm ns hsz hb val (its.size - 0) 0 _ (by omega) (Nat.zero_le _) ⟨⟨_, Heap.get?_push_size _ rfl, rfl, rfl⟩, (isl.push _)⟩ ?hS0 ?hR
        case hS0 =>
          exact ⟨0, Nat.le_refl 0, setR_new_at (Heap.get?_push_of_some _ hS)⟩
        case hR =>
          intro s3 c3 hm hc3 hS3
          obtain ⟨hp, g2, d2, tk2, o2⟩ := s3
          have eg : g2 = sh.gens := hm.gens
          have ed : d2 = sh.drawn := hm.drawn
          have eo : o2 = sh.os := hm.os
          subst eg
          subst ed
          subst eo
          show wpAny _ _ _ _ _ _
          refine wpAny_pure ?_
          show wpAny _ _ (ret Value.none) _ _ _
          rw [hsz] at hc3
          refine wpAny_pure ⟨rfl, hp, tk2, c3, rfl, hS3, hc3, fun b o e => ?_⟩
          have l0 : b < sh.heap.objs.size := Heap.lt_size e
          refine hm.heap b o ?_ (Heap.get?_push_of_some _ (Heap.get?_push_of_some _ e))
          rw [sz1]
          simp only [List.mem_cons, List.mem_singleton, List.not_mem_nil, or_false, not_or]
          exact ⟨Nat.ne_of_lt l0, Nat.ne_of_lt (Nat.lt_succ_of_lt l0)⟩
      · cases r2 with
        | error e => exact hr2
        | ok fl2 =>
          cases fl2 with
          | ret r =>
            obtain ⟨rfl, hp, tk, c3, rfl, hS3, hc3, hk3⟩ := hr2
            repeat (any_goals (first | assumption | wp_step))
            exact fin _ _ _ hS3 hc3 hk3
          | _ => exact hr2.elim
    | _ => exact hr.elim
end
section
variable {X : Cx}
/-- set(xs) -/
def rSetI (K : PySem.W.Frag) (w : World) : List V → Hp → VK → Prop := fun vs H Q => ∃ (a : Addr) (ns : List Int), vs = [V.ref a] ∧ SqL K H a (ns.map V.int) ∧ ns.length + 1 < scanBound ∧
  ∀ p c (ms : List Int), H p = none → ms.Nodup → (∀ j, j ∈ ms ↔ j ∈ ns) → ms.length = c → Q (.ref p) (upd H p (SetO w p (fun j => decide (j ∈ ns)) c))
theorem cr_setI (hc : X.calm = true) : CallR X (.type "set") (rSetI X.K X.w) := by
  intro pins s σ H xs us Q I r h
  obtain ⟨a, ns, rfl, hs, hb, q⟩ := h
  rw [Vals.ref1 r]
  obtain ⟨its, rv, pl, hz⟩ := I.list hs
  refine set_listI ns (I.ok.hd hc) pl.isList (by simpa using ints_of_vals rv) hb fun hp tk c hS hcn hk => ?_
  obtain ⟨o, es, ep, t, ho, hx, hd, g, nd, hm, hbb, hf, hn, _⟩ := id hS
  refine ⟨.ref _, upd H s.heap.objs.size (SetO X.w s.heap.objs.size (fun j => decide (j ∈ ns)) c), I.laid (t' := tk) hk (Nat.le_refl _) (setO_new hS), rfl, q _ _ (es.toList.map keyOf) (I.hok.fresh (Nat.le_refl _)) nd (fun j => ?_) ?_⟩
  · rw [← hm j, decide_eq_true_eq]
  · rw [List.length_map, Array.length_toList]; exact hn
end
end Ac
namespace Ac
open PySem PySem.Spec PyProof.Rows L2
/-! ### repr(x), at any depth -/
def SmB (h : Heap) : Prop := ∃ o, h.get? sysModules = some o
section
variable {X : Cx} {pins : List (Addr × Obj)} {σ : L2.St} {H : Hp} {s : Shared}
theorem ne_sys (I : Inv X pins σ H s) (sm : SmB X.base) {a : Addr} {o : HO} (h : H a = some o) : sysModules ≠ a := fun e => by
  obtain ⟨ob, hb⟩ := sm
  have := (I.bs _ _ hb).2
  rw [e, h] at this
  cases this
theorem rd_sys (I : Inv X pins σ H s) (sm : SmB X.base) {a : Addr} {u : HO} (h : Rd H a u) : sysModules ≠ a := by
  rcases h with h | ⟨o, h⟩ <;> exact ne_sys I sm h
mutual
theorem Rp.reads (I : Inv X pins σ H s) (sm : SmB X.base) : ∀ {v : V} {d : D} {u : Value}, Rp H v d → RelV v u → ∃ as, Reads s.heap u d as ∧ sysModules ∉ as
  | _, _, _, .non, r => by
    cases r
    exact ⟨_, Reads.none, List.not_mem_nil⟩
  | _, _, _, .bl b, r => by
    cases r
    exact ⟨_, Reads.bool b, List.not_mem_nil⟩
  | _, _, _, .int i, r => by
    obtain ⟨t, rfl⟩ := r
    exact ⟨_, Reads.int i t, List.not_mem_nil⟩
  | _, _, _, .str x, r => by
    obtain ⟨t, rfl⟩ := r
    exact ⟨_, Reads.str x t, List.not_mem_nil⟩
  | _, _, _, .lst h l, r => by
    cases r
    obtain ⟨its, rv, ⟨o, n, ho, hc, _, hd⟩, _⟩ := I.list (.inl h)
    obtain ⟨as, hr, hn⟩ := RpL.reads I sm l rv
    exact ⟨_, Reads.list ho hc hd hr, fun z => by
      rcases List.mem_cons.mp z with z | z
      · exact rd_sys I sm h z
      · exact hn z⟩
  | _, _, _, .tup h l, r => by
    cases r
    obtain ⟨its, rv, ⟨o, ho, hc, n, hd⟩, _⟩ := I.tuple (.inl (.inl h))
    obtain ⟨as, hr, hn⟩ := RpL.reads I sm l rv
    exact ⟨_, Reads.tuple ho hc hd hr, hn⟩
  | _, _, _, .dic h l, r => by
    cases r
    obtain ⟨_, _, vs, kv, o, es, ep, ho, hx, hd, _, hp, _⟩ := I.hok _ _ h
    obtain ⟨as, bs, h1, h2, h3⟩ := RpK.reads I sm l kv hp
    exact ⟨_, Reads.dict ho hx.1 hd h1 h2, fun z => by
      rcases List.mem_append.mp z with z | z
      · rcases List.mem_cons.mp z with z | z
        · exact ne_sys I sm h z
        · exact h3 (List.mem_append_left _ z)
      · exact h3 (List.mem_append_right _ z)⟩
theorem RpL.reads (I : Inv X pins σ H s) (sm : SmB X.base) : ∀ {vs : List V} {ds : List D} {us : List Value}, RpL H vs ds → Vals vs us → ∃ as, ReadsAll s.heap us ds as ∧ sysModules ∉ as
  | _, _, _, .nil, r => by
    cases r
    exact ⟨_, ReadsAll.nil, List.not_mem_nil⟩
  | _, _, _, .cons h l, r => by
    cases r with
    | cons r1 r2 =>
      obtain ⟨as, q1, n1⟩ := Rp.reads I sm h r1
      obtain ⟨bs, q2, n2⟩ := RpL.reads I sm l r2
      exact ⟨_, ReadsAll.cons q1 q2, fun z => (List.mem_append.mp z).elim n1 n2⟩
theorem RpK.reads (I : Inv X pins σ H s) (sm : SmB X.base) : ∀ {kvs : List (Key × V)} {ds : List (D × D)} {vs : List (Key × Value)} {es : List DictEntry}, RpK H kvs ds → KV kvs vs → Pairs (mixKind X.prog X.w) es vs →
    ∃ as bs, ReadsAll s.heap (es.map (·.key)) (ds.map (·.1)) as ∧ ReadsAll s.heap (es.map (·.val)) (ds.map (·.2)) bs ∧ sysModules ∉ as ++ bs
  | _, _, _, _, .nil, kv, hp => by
    cases kv
    cases hp
    exact ⟨_, _, ReadsAll.nil, ReadsAll.nil, List.not_mem_nil⟩
  | _, _, _, _, .cons h l, kv, hp => by
    cases kv with
    | cons k1 k2 =>
      cases hp with
      | cons p1 p2 p3 =>
        obtain ⟨e1, e2⟩ := k1
        dsimp only at e1 e2
        obtain ⟨as, q1, n1⟩ := Rp.reads I sm h e2
        obtain ⟨cs, bs, r1, r2, n2⟩ := RpK.reads I sm l k2 p3
        rw [← p2] at q1
        rw [← e1] at p1
        refine ⟨[] ++ cs, as ++ bs, ?_, ReadsAll.cons q1 r2, fun z => ?_⟩
        · refine ReadsAll.cons ?_ r1
          rcases keyIs_shape p1 with ⟨i, t, ek, ev⟩ | ⟨x, t, ek, ev⟩
          · dsimp only
            rw [ek, ev]; exact Reads.int i t
          · dsimp only
            rw [ek, ev]; exact Reads.str x t
        · rw [List.nil_append] at z
          rcases List.mem_append.mp z with z | z
          · exact n2 (List.mem_append_left _ z)
          · rcases List.mem_append.mp z with z | z
            · exact n1 z
            · exact n2 (List.mem_append_right _ z)
end
def rRepr : List V → Hp → VK → Prop := fun xs H Q => ∃ x d, xs = [x] ∧ Rp H x d ∧ okR d ∧ Q (.str d.shown) H
theorem cr_repr (hg : X.A.guards = some []) (hu : X.A.units + 65 < cLine) (sm : SmB X.base) : CallR X (.builtin "repr") rRepr := by
  intro pins s σ H xs us Q I r h
  obtain ⟨x, d, rfl, hx, ⟨h1, h2, h3⟩, q⟩ := h
  cases r with
  | cons r1 r2 =>
    cases r2
    obtain ⟨as, rd, hn⟩ := Rp.reads I sm hx r1
    cases rd with
    | none => exact PySem.P.repr_of_none ⟨.str _, H, I.tok _, ⟨_, rfl⟩, q⟩
    | bool b => exact PySem.P.repr_of_bool ⟨.str _, H, I.tok _, ⟨_, rfl⟩, q⟩
    | int i t => exact PySem.P.repr_of_int (of_decide_eq_true (by simpa [PyData.showable] using h1)) ⟨.str _, H, I.tok _, ⟨_, rfl⟩, q⟩
    | str x t => exact PySem.P.repr_of_str ⟨.str _, H, I.tok _, ⟨_, rfl⟩, q⟩ (hsz := h3)
    | list a b c e => exact repr_of_reads' (.list a b c e) h1 (fun _ => hn) hg (by omega) (fun _ _ e => e) (fun h' u tk hk => ⟨.str _, H, I.kept hk, ⟨_, rfl⟩, q⟩) h3
    | tuple a b c e => exact repr_of_reads' (.tuple a b c e) h1 (fun _ => hn) hg (by omega) (fun _ _ e => e) (fun h' u tk hk => ⟨.str _, H, I.kept hk, ⟨_, rfl⟩, q⟩) h3
    | dict a b c e f => exact repr_of_reads' (.dict a b c e f) h1 (fun _ => hn) hg (by omega) (fun _ _ e => e) (fun h' u tk hk => ⟨.str _, H, I.kept hk, ⟨_, rfl⟩, q⟩) h3
end
section
variable {X : Cx}
theorem cs_repr (hg : X.A.guards = some []) (hu : X.A.units + 65 < cLine) (sm : SmB X.base) : CallS X (.builtin "repr") reprD := by
  refine ⟨_, cr_repr hg hu sm, ?_⟩
  intro rm fx σ H Γ s F A xs ds Q R hxs h
  unfold reprD at h
  split at h
  · obtain ⟨x, rfl, hx⟩ := hxs.one
    refine ⟨x, _, rfl, ?_, h.1, KQ.dat R (.str _) h.2⟩
    rcases hx with hx | ⟨a, vs, ds, e1, e2, e3, _, e5⟩
    · exact hx.mono R.fh
    · rw [e1, e2]
      exact .lst (.inl e3) (e5.mono R.fh)
  · exact h.elim
end
end Ac
namespace Ac
open PySem PySem.Spec PyProof.Rows L2
section
variable {rm : RM} {X : Cx} {k : Nat} {t : Sx} {W : WN} {fx : Fx rm} {xc : Nat → Ctx → rm.S → Prop} {σ : L2.St} {H F : Hp} {Γ : Ctx} {s : rm.S} {A : rm.A}
/-! ### sorted(xs) of pairs -/
def keyP (F : Hp) : V → Int × Int
  | .ref t => match F t with
    | some (.tup [.int i, .int j]) => (i, j)
    | _ => (0, 0)
  | _ => (0, 0)
theorem RpL.pairs : ∀ {vs : List V} {xs : List D} {ps : List (Int × Int)}, RpL F vs xs → pairsD xs = some ps → vs.map (keyP F) = ps ∧ ∀ v ∈ vs, ∃ t, v = V.ref t ∧ F t = some (.tup [.int (keyP F v).1, .int (keyP F v).2])
  | _, [], ps, .nil, h => by cases h; exact ⟨rfl, fun v hv => nomatch hv⟩
  | _, d :: xs, ps, .cons (v := v) (vs := vs) h r, e => by
    unfold pairsD at e
    split at e
    · rename_i z; cases z
    · rename_i i j r' z
      cases z
      cases e1 : pairsD xs with
      | none => rw [e1] at e; cases e
      | some qs =>
        rw [e1] at e
        cases e
        obtain ⟨h1, h2⟩ := RpL.pairs r e1
        cases h with
        | tup ht hr =>
          rename_i a us
          cases hr with
          | cons g1 g2 =>
            cases g2 with
            | cons g2 g3 =>
              cases g3
              cases g1
              cases g2
              have hk : keyP F (.ref a) = (i, j) := by
                show (match F a with | some (.tup [.int i, .int j]) => (i, j) | _ => (0, 0)) = (i, j)
                rw [ht]
              refine ⟨?_, fun v hv => ?_⟩
              · rw [List.map_cons, hk, h1]
              · rcases List.mem_cons.mp hv with rfl | hv
                · rw [hk]; exact ⟨a, rfl, ht⟩
                · exact h2 v hv
    · cases e
theorem rpl_keys : ∀ {ys : List V}, (∀ v ∈ ys, ∃ t, v = V.ref t ∧ F t = some (.tup [.int (keyP F v).1, .int (keyP F v).2])) → RpL F ys ((ys.map (keyP F)).map pairD)
  | [], _ => .nil
  | y :: ys, h => by
    obtain ⟨t, e1, e2⟩ := h y List.mem_cons_self
    refine .cons ?_ (rpl_keys fun v hv => h v (List.mem_cons_of_mem _ hv))
    generalize keyP F y = q at e2
    subst e1
    exact .tup e2 (.cons (.int _) (.cons (.int _) .nil))
theorem cs_sortP : CallS X (.builtin "sorted") sortPD := by
  refine ⟨_, cr_sortedPO, ?_⟩
  intro rm fx σ H Γ s F A xs ds Q R hxs h
  unfold sortPD at h
  split at h
  · obtain ⟨x, rfl, hx⟩ := hxs.one
    obtain ⟨ps, e, q⟩ := h
    obtain ⟨a, vs, e1, q1, r1⟩ := hx.lst R.fh
    obtain ⟨h1, h2⟩ := r1.pairs e
    refine ⟨a, vs, keyP F, by rw [e1], .inl q1, fun v hv => ?_, fun ys p hs hb hp => ?_⟩
    · obtain ⟨t, g1, g2⟩ := h2 v hv
      exact ⟨t, g1, R.fh _ _ g2⟩
    · refine KQ.mk R hp (rpl_keys fun v hv => h2 v (hb.perm.mem_iff.mp hv)) (q _ (by rw [← h1]; exact hb.perm.map _) ?_)
      rw [List.pairwise_map]
      refine hs.imp fun {u v} huv => ?_
      have := SrtO.lexB_no.mp huv
      unfold lexLe
      omega
  · exact h.elim
/-! ### dict([(k, True) ..]) -/
theorem RpL.trues : ∀ {vs : List V} {ns : List Int}, RpL F vs (ns.map trueD) → ∃ ps : List Addr, vs = ps.map V.ref ∧ Paired (fun p n => F p = some (.tup [.int n, .bl true])) ps ns
  | _, [], .nil => ⟨[], rfl, .nil⟩
  | _, n :: ns, .cons h r => by
    obtain ⟨ps, e, q⟩ := RpL.trues r
    cases h with
    | tup ht hr =>
      rename_i a us
      cases hr with
      | cons g1 g2 =>
        cases g2 with
        | cons g2 g3 =>
          cases g3
          cases g1
          cases g2
          exact ⟨a :: ps, by rw [e]; rfl, .cons ht q⟩
def TrueK (ns : List Int) (kvs : List (Key × V)) : Prop := ∃ ms : List Int, kvs = ms.map (fun m => ((.inl m : Key), V.bl true)) ∧ ∀ m ∈ ms, m ∈ ns
theorem TrueK.put {ns : List Int} {kvs : List (Key × V)} {n : Int} (h : TrueK ns kvs) (hn : n ∈ ns) : TrueK ns (putK kvs (.inl n) (.bl true)) := by
  obtain ⟨ms, rfl, hm⟩ := h
  unfold putK
  split
  · refine ⟨ms, ?_, hm⟩
    rw [List.map_map]
    refine List.map_congr_left fun m _ => ?_
    dsimp only [Function.comp]
    split <;> rfl
  · refine ⟨ms ++ [n], by rw [List.map_append]; rfl, fun m hmm => ?_⟩
    rcases List.mem_append.mp hmm with hmm | hmm
    · exact hm m hmm
    · rw [List.mem_singleton.mp hmm]; exact hn
theorem TrueK.merge {ns : List Int} : ∀ {ms : List Int} {kvs : List (Key × V)}, TrueK ns kvs → (∀ m ∈ ms, m ∈ ns) → TrueK ns (mergeK kvs (ms.map fun m => ((.inl m : Key), V.bl true)))
  | [], _, h, _ => h
  | m :: ms, kvs, h, hm => TrueK.merge (ms := ms) (h.put (hm m List.mem_cons_self)) fun j hj => hm j (List.mem_cons_of_mem _ hj)
theorem rpk_trues : ∀ ms : List Int, RpK F (ms.map fun m => ((.inl m : Key), V.bl true)) (ms.map fun m => (PyData.int m, PyData.bool true))
  | [] => .nil
  | m :: ms => RpK.cons (k := .inl m) (.bl true) (rpk_trues ms)
theorem cs_dictP (hc : X.calm = true) : CallS X (.type "dict") dictPD := by
  refine ⟨_, call_dictP hc, ?_⟩
  intro rm fx σ H Γ s F A xs ds Q R hxs h
  unfold dictPD at h
  split at h
  · obtain ⟨x, rfl, hx⟩ := hxs.one
    obtain ⟨ns, rfl, q⟩ := h
    obtain ⟨a, vs, e1, q1, r1⟩ := hx.lst R.fh
    obtain ⟨ps, rfl, hp⟩ := r1.trues
    refine ⟨a, ps, ns.map (fun n => ((.inl n : Key), V.bl true)), by rw [e1], .inl q1, ?_, fun p hpn => ?_⟩
    · clear q q1 r1 hx hxs
      induction hp with
      | nil => exact .nil
      | cons a b ih => exact .cons (.inl (.inl (R.fh _ _ a))) ih
    · have hl := length_mergeK (ns.map (fun n => ((.inl n : Key), V.bl true))) []
      obtain ⟨ms, e, hm⟩ := TrueK.merge (ns := ns) (ms := ns) (kvs := []) ⟨[], rfl, fun m hm => nomatch hm⟩ fun m hm => hm
      rw [e] at hl ⊢
      rw [List.length_map, List.length_map, List.length_nil, Nat.zero_add] at hl
      exact q ms hl hm (.ref p) _ (upd F p _) (R.lay hpn) (R.hx hpn) (upd_sub (R.nF hpn)) (.dic upd_same (rpk_trues ms))
  · exact h.elim
/-! ### sets -/
theorem op_rd1 {c : E rm.S} {W : WN} {Q : VK} {K : V → Hp → Prop} (g : D → (Val → Prop) → Prop) (R : SR fx σ H Γ s F A) (xk : XcOk W fx xc) (q : opn c (wE xc c) Γ s fun x Γ1 s1 => g x fun v => KE fx σ H F A Q v Γ1 s1)
    (hk : ∀ x d H1 F1 A1 Γ1 s1, SR fx σ H1 Γ1 s1 F1 A1 → HX H A H1 A1 → Sub F F1 → Ro H1 F1 A1 x d → g d (fun v => KE fx σ H F A Q v Γ1 s1) → K x H1) : rdP W c σ H K :=
  ⟨fx, Γ, s, F, A, R, xc, xk, opnE_mono c (fun d Γ1 s1 q x H1 F1 A1 R1 hx1 sb1 ro1 => hk x d H1 F1 A1 Γ1 s1 R1 hx1 sb1 ro1.1 q) q⟩
theorem nodup_sub : ∀ {ms : List Int}, ms.Nodup → ∀ {ns : List Int}, (∀ m ∈ ms, m ∈ ns) → ms.length ≤ ns.length
  | [], _, _, _ => Nat.zero_le _
  | m :: ms, hn, ns, h => by
    have hm := h m List.mem_cons_self
    rw [List.nodup_cons] at hn
    have ih := nodup_sub hn.2 (ns := ns.erase m) fun j hj => (List.mem_erase_of_ne fun e => hn.1 (by rw [← e]; exact hj)).mpr (h j (List.mem_cons_of_mem _ hj))
    rw [List.length_erase_of_mem hm] at ih
    have := List.length_pos_of_mem hm
    rw [List.length_cons]
    omega
theorem nodup_len_le {ms : List Int} (hn : ms.Nodup) {ns : List Int} (h : ∀ m ∈ ms, m ∈ ns) : ms.length ≤ ns.length := nodup_sub hn h
theorem n_srtS {c : E rm.S} {e : Expr} {p p1 p2 p3 : Pos} (hc : X.calm = true) (hg : Gl X "sorted") (hm : X.mg "sorted" = none) (hg2 : Gl X "set") (hm2 : X.mg "set" = none) (he : PE X e (rdP W c)) (hs : shp e = true) : PE X (.Call (.Name "sorted" p) [.Call (.Name "set" p2) [e] [] p3] [] p1) (rdE W (.srtS c)) := by
  refine PE_imp (pe_callB (cr_sortedSet hc) hg hm PyProof.Rows.boot_sorted (pa_cons (pe_callTy (cr_setI hc) hg2 hm2 PyProof.Rows.boot_set (pa_cons he pa_nil (star1 hs)) (he := star1 hs)) pa_nil)) fun σ H Q q => ?_
  obtain ⟨fx, Γ, s, F, A, R, xc, xk, q⟩ := q
  unfold wE at q
  refine op_rd1 (fun x k => srtSX x k) R xk q fun x d H1 F1 A1 Γ1 s1 R1 hx1 sb1 ro q => ?_
  unfold srtSX at q
  split at q
  · obtain ⟨ns, e, hl, hb, q⟩ := q
    obtain ⟨a, e1, q1⟩ := ro.ints R1.fh e
    refine ⟨a, ns, by rw [e1], .inl q1, by unfold scanBound; omega, fun p c ms hp hnd hmem hlen => ⟨p, _, c, rfl, upd_same, ?_, fun ms' p' hs hmm hl' hp' => ?_⟩⟩
    · rcases hb with hb | hb
      · have := nodup_len_le hnd (ns := ns) fun m hm => (hmem m).mp hm
        omega
      · have := nodup_len_le hnd (ns := (List.range 63).map fun (i : Nat) => (i : Int)) fun m hm => by
          obtain ⟨h1, h2⟩ := hb m ((hmem m).mp hm)
          exact List.mem_map.mpr ⟨m.toNat, List.mem_range.mpr (by omega), by omega⟩
        rw [List.length_map, List.length_range] at this
        omega
    · have R2 : SR fx σ (upd H1 p (SetO X.w p (fun j => decide (j ∈ ns)) c)) Γ1 s1 F1 A1 := R1.alloc hp
      have := KQ.mk (Q := Q) R2 hp' (RpL.ints ms') ((q ms' hs fun j => by rw [hmm j, decide_eq_true_eq]).kq (hx1.trans (R1.hx hp)) sb1)
      exact this
  · exact q.elim
/-- len(xs) of a set -/
theorem cr_lenSet : CallR X (.builtin "len") (fun vs H Q => ∃ (a : Addr) (S : Int → Bool) (n : Nat), vs = [V.ref a] ∧ H a = some (SetO X.w a S n) ∧ Q (.int (n : Nat)) H) := by
  intro pins s σ H xs us Q I r h
  obtain ⟨a, S, n, rfl, ha, q⟩ := h
  rw [Vals.ref1 r]
  obtain ⟨o, es, ep, t, ho, hx, hd, g, nd, hm, hb, hf, hn, _⟩ := setO_get I ha
  have hb' : es.size < 4096 := hb
  refine call_len_set ho hx hd hf (by omega) ⟨.int n, H, I.tok _, ⟨_, by rw [hn]⟩, q⟩
theorem n_lenS {c : E rm.S} {e : Expr} {p p1 p2 p3 : Pos} (hc : X.calm = true) (hg : Gl X "len") (hm : X.mg "len" = none) (hg2 : Gl X "set") (hm2 : X.mg "set" = none) (he : PE X e (rdP W c)) (hs : shp e = true) : PE X (.Call (.Name "len" p) [.Call (.Name "set" p2) [e] [] p3] [] p1) (rdE W (.lenS c)) := by
  refine PE_imp (pe_callB cr_lenSet hg hm PySem.boot_len (pa_cons (pe_callTy (cr_setI hc) hg2 hm2 PyProof.Rows.boot_set (pa_cons he pa_nil (star1 hs)) (he := star1 hs)) pa_nil)) fun σ H Q q => ?_
  obtain ⟨fx, Γ, s, F, A, R, xc, xk, q⟩ := q
  unfold wE at q
  refine op_rd1 (fun x k => lenSX x k) R xk q fun x d H1 F1 A1 Γ1 s1 R1 hx1 sb1 ro q => ?_
  unfold lenSX at q
  split at q
  · obtain ⟨ns, e, hl, q⟩ := q
    obtain ⟨a, e1, q1⟩ := ro.ints R1.fh e
    refine ⟨a, ns, by rw [e1], .inl q1, by unfold scanBound; omega, fun p c ms hp hnd hmem hlen => ⟨p, _, c, rfl, upd_same, ?_⟩⟩
    subst hlen
    have R2 : SR fx σ (upd H1 p (SetO X.w p (fun j => decide (j ∈ ns)) ms.length)) Γ1 s1 F1 A1 := R1.alloc hp
    exact q ms hnd hmem _ _ F1 A1 R2 (hx1.trans (R1.hx hp)) sb1 (.int _)
  · exact q.elim
/-! ### list(range(n)) -/
theorem n_lr {c : E rm.S} {e : Expr} {p p1 p2 p3 : Pos} (hc : X.calm = true) (hg : Gl X "list") (hm : X.mg "list" = none) (hg2 : Gl X "range") (hm2 : X.mg "range" = none) (he : PE X e (rdP W c)) (hs : shp e = true) : PE X (.Call (.Name "list" p) [.Call (.Name "range" p2) [e] [] p3] [] p1) (rdE W (.lr (.cons c .nil))) := by
  refine PE_imp (pe_listRg hc hg hm (prg_1 hg2 hm2 he (star1 hs))) fun σ H Q q => ?_
  obtain ⟨fx, Γ, s, F, A, R, xc, xk, q⟩ := q
  unfold wE wA at q
  refine ⟨fx, Γ, s, F, A, R, xc, xk, opnE_mono c (fun d Γ1 s1 q x H1 F1 A1 R1 hx1 sb1 ro1 => ?_) q⟩
  unfold wA at q
  dsimp only at q
  unfold rngD at q
  split at q
  · rename_i n z
    cases z
    obtain ⟨⟨q1, q2⟩, q3, q4⟩ := q
    rw [List.length_map, List.length_range] at q3
    have hb : n.toNat ≤ 100000 := q3
    refine ⟨n, flat_int ro1.1, ⟨by omega, by omega, q1, q2, ?_⟩, fun p hp => ?_⟩
    · rw [Int.sub_zero]; exact Nat.le_trans hb (by decide)
    · refine KQ.mk R1 hp ?_ (q4.kq hx1 sb1)
      unfold rgV
      rw [Int.sub_zero]
      have e1 : (List.range n.toNat).map (fun i => V.int (0 + (i : Nat))) = ((List.range n.toNat).map (fun (i : Nat) => (i : Int))).map V.int := by
        rw [List.map_map]
        exact List.map_congr_left fun i _ => by dsimp only [Function.comp]; rw [Int.zero_add]
      have e2 : (List.range n.toNat).map (fun i => PyData.int (i : Nat)) = ((List.range n.toNat).map (fun (i : Nat) => (i : Int))).map PyData.int := by
        rw [List.map_map]
        rfl
      rw [e1, e2]
      exact RpL.ints _
  · rename_i z; cases z
  · rename_i z; cases z
  · exact q.elim
/-! ### xs.index(y), xs.pop(i) -/
theorem idx_spec : ∀ {ns : List Int} {y : Int} {j : Nat}, idxD ns y = some j → ns[j]? = some y ∧ ∀ m z, m < j → ns[m]? = some z → z ≠ y := by
  intro ns y j h
  unfold idxD at h
  obtain ⟨hj, h1, h2⟩ := List.findIdx?_eq_some_iff_getElem.mp h
  refine ⟨?_, fun m z hm hz => ?_⟩
  · rw [List.getElem?_eq_getElem hj, of_decide_eq_true h1]
  · have := h2 m hm
    obtain ⟨hl, hz⟩ := List.getElem?_eq_some_iff.mp hz
    rw [← hz]
    intro e
    exact this (decide_eq_true e)
theorem n_index {i : Nat} {c : E rm.S} {x : Str} {e : Expr} {p2 p3 p4 : Pos} (hv : PE X (.Name x p3) (rdP W (.var i : E rm.S))) (he : PE X e (rdP W c)) (hs : shp e = true) (hl : (p2.endLine == p4.line) = true) : PE X (.Call (.Attribute (.Name x p3) "index" p2) [e] [] p4) (rdE W (.mt .index (.var i) (.cons c .nil))) := by
  refine PE_imp (pe_bm PySem.F.plainAttrs_list PySem.F.slot_list_index PySem.F.type_list_index mt_index hv (pa_cons he pa_nil (star1 hs)) (hfew := few1 hs) (hline := hl) (hs := star1 hs)) fun σ H Q q => ?_
  obtain ⟨fx, Γ, s, F, A, R, xc, xk, q⟩ := q
  unfold wE at q
  refine ⟨fx, Γ, s, F, A, R, xc, xk, opnE_mono (.var i) (fun d Γ1 s1 q x H1 F1 A1 R1 hx1 sb1 ro1 => ?_) q⟩
  unfold lstD at q
  split at q
  · rename_i xs
    unfold wA at q
    obtain ⟨a, vs, e1, q1, r1⟩ := ro1.1.lst R1.fh
    subst e1
    refine ⟨.inl ⟨rfl, _, .inl q1⟩, fx, Γ1, s1, F1, A1, R1, xc, xk, opnE_mono c (fun d Γ2 s2 q y H2 F2 A2 R2 hx2 sb2 ro2 => ?_) q⟩
    unfold wA at q
    obtain ⟨a', vs', e1', q1', r1'⟩ := (ro1.1.mono hx2 sb2).lst R2.fh
    cases e1'
    dsimp only [mtD] at q
    unfold indexD at q
    split at q
    · rename_i xs' y z1 z2
      cases z1
      cases z2
      obtain ⟨ns, en, q⟩ := q
      rw [intsD_eq en] at r1'
      have ev := r1'.of_ints
      subst ev
      split at q
      · rename_i j hj
        obtain ⟨h1, h2⟩ := idx_spec hj
        have hy := flat_int ro2.1
        subst hy
        refine ⟨a, ns.map V.int, .int y, j, .int y, rfl, rfl, .inl q1', rfl, ?_, ?_, ?_, fun m z' hm hz => ?_, q _ H2 F2 A2 R2 (hx1.trans hx2) (sb1.trans sb2) (.int _)⟩
        · rw [List.all_map]
          exact List.all_eq_true.mpr fun _ _ => rfl
        · rw [List.getElem?_map, h1]; rfl
        · show (y == y) = true
          exact beq_self_eq_true y
        · rw [List.getElem?_map] at hz
          cases e3 : ns[m]? with
          | none => rw [e3] at hz; cases hz
          | some z =>
            rw [e3] at hz
            cases hz
            show (z == y) = false
            exact beq_eq_false_iff_ne.mpr (h2 m z hm e3)
      · exact q.elim
    · exact q.elim
  · exact q.elim
/-! ### expressions of a statement: a list of one's own may change in them -/
def KM (fx : Fx rm) (σ : L2.St) (F : Hp) (A : rm.A) (Q : VK) : Val → Ctx → rm.S → Prop := fun v Γ' s' => ∀ x H' F' A', SR fx σ H' Γ' s' F' A' → rm.le A A' → Sub F F' → RV fx σ H' F' A' Γ' x v → Q x H'
def rdM (W : WN) (c : E rm.S) : TE := fun σ H Q => ∃ (fx : Fx rm) (Γ : Ctx) (s : rm.S) (F : Hp) (A : rm.A), SR fx σ H Γ s F A ∧ ∃ xc, XcOk W fx xc ∧ wE xc c Γ s (KM fx σ F A Q)
theorem to_M {c : E rm.S} {e : Expr} (h : PE X e (rdE W c)) : PE X e (rdM W c) := PE_imp h fun σ H Q q => by
  obtain ⟨fx, Γ, s, F, A, R, xc, xk, q⟩ := q
  exact ⟨fx, Γ, s, F, A, R, xc, xk, wE_mono c (fun v Γ' s' q x H' F' A' R' hx sb rv => q x H' F' A' R' hx.1 sb rv) q⟩
/-! [e, 0], as a thing with a state -/
def HOk (rm : RM) (φ : ESumm rm.S) : Prop := ∀ (fx : Fx rm) (σ : L2.St) (H : Hp) (Γ : Ctx) (s : rm.S) (F : Hp) (A : rm.A) (x : V) (v : Val) (p : Addr) (Q : VK), SR fx σ H Γ s F A → RV fx σ H F A Γ x v → H p = none →
  φ.run [v] s (fun w s2 => KM fx σ F A Q w Γ s2) (fun _ _ => False) → Q (.ref p) (upd H p (.lst [x, .int 0]))
theorem n_asgH {φ : ESumm rm.S} {c : E rm.S} {i : Nat} {y : Str} {e : Expr} {kk : Nat} {p p2 p3 p4 : Pos} (h : HOk rm φ) (hN : X.N.Nodup) (hi : X.N[i]? = some y) (hy : Sto X y) (he : PE X e (rdE W c)) (hs : shp e = true) : PS X (.Assign [.Name y p4] (.List [e, .Constant (.int 0) kk p2] p) p3) (rd1 W (.asgH i φ c)) :=
  PS_imp (ps_set hN hi hy.1 (pe_lst (pa_cons he (pa_cons pe_int pa_nil) (star1 hs))) rfl hy.2) fun D σ H q => by
    obtain ⟨fx, Γ, s, F, A, R, K, ko, q⟩ := q
    dsimp only [w1] at q
    refine ⟨fx, Γ, s, F, A, R, K.ex, ko.ex, wE_mono c (fun v Γ' s' q x H1 F1 A1 R1 hx1 sb1 rv => ?_) q⟩
    refine ⟨by show 2 ≤ sizeLine; decide, fun p hp => ?_⟩
    exact h fx σ H1 Γ' s' F1 A1 x v p (fun y H' => D.nx (σ.set i (some y)) H') R1 rv hp (φ.mono (fun w s2 q y H2 F2 A2 R2 _ _ rv2 => ko.nx _ _ _ _ _ _ (R2.putV rv2) q) (fun _ _ z => z) q)
/-! xs.pop(i) -/
theorem RpL.era : ∀ {vs : List V} {ds : List D} (n : Nat), RpL F vs ds → RpL F (vs.eraseIdx n) (ds.eraseIdx n)
  | _, _, _, .nil => .nil
  | _, _, 0, .cons _ r => r
  | _, _, n + 1, .cons h r => .cons h (RpL.era n r)
theorem n_pop {i : Nat} {c : E rm.S} {x : Str} {e : Expr} {p2 p3 p4 : Pos} (hv : PE X (.Name x p3) (tVar i)) (he : PE X e (rdP W c)) (hs : shp e = true) (hl : (p2.endLine == p4.line) = true) : PE X (.Call (.Attribute (.Name x p3) "pop" p2) [e] [] p4) (rdM W (.pop i c)) := by
  refine ⟨fun pins sh σ H Q I q => ?_⟩
  refine (pe_bm PySem.F.plainAttrs_list PySem.F.slot_list_pop PySem.F.type_list_pop mt_popAt hv (pa_cons he pa_nil (star1 hs)) (hfew := few1 hs) (hline := hl) (hs := star1 hs)).run pins sh σ H Q I ?_
  obtain ⟨fx, Γ, s, F, A, R, xc, xk, q⟩ := q
  unfold wE popW at q
  split at q
  · rename_i xs hxs
    obtain ⟨a, vs, h1, e2, e3, e4, e5, e6⟩ := ownAt R hxs
    refine ⟨.ref a, h1, .inl ⟨rfl, _, SqL.of e2⟩, fx, Γ, s, F, A, R, xc, xk, opnE_mono c (fun d Γ1 s1 q y H1 F1 A1 R1 hx1 sb1 ro1 => ?_) q⟩
    split at q
    · rename_i zs j hzs
      obtain ⟨a', ws, g1, g2, g3, g4, g5, g6⟩ := ownAt R1 hzs
      rw [h1] at g1
      cases g1
      split at q
      · rename_i pr hpr
        obtain ⟨m, d⟩ := pr
        cases e7 : ixN zs.length j with
        | none => rw [e7] at hpr; cases hpr
        | some m' =>
          rw [e7] at hpr
          have hpr' : (zs[m']?.map fun d => (m', d)) = some (m, d) := hpr
          cases e8 : zs[m']? with
          | none => rw [e8] at hpr'; cases hpr'
          | some d' =>
            rw [e8] at hpr'
            cases hpr'
            obtain ⟨w1, w2, w3, w4⟩ := ixN_seq e7
            obtain ⟨v, hv1, hv2⟩ := g6.get e8
            obtain ⟨⟨b1, b2⟩, q⟩ := q
            refine ⟨a, ws, j, m, v, rfl, by rw [flat_int ro1.1], g2, ?_, ?_, by rw [g6.length]; exact w1, hv1, ?_⟩
            · omega
            · omega
            · exact q v _ F1 A1 (R1.chgOwn (vs := ws) hzs h1 (g6.era m)) hx1.1 sb1 hv2
      · exact q.elim
    · exact q.elim
  · exact q.elim
theorem n_asgM {i : Nat} {x : Str} {c : E rm.S} {e : Expr} {p p2 : Pos} (hN : X.N.Nodup) (hi : X.N[i]? = some x) (hx : Sto X x) (he : PE X e (rdM W c)) (hsw : swapsWith e (some (.Name x p2)) p.line X.env = pure false) : PS X (.Assign [.Name x p2] e p) (rd1 W (.asg i c)) :=
  PS_imp (ps_set hN hi hx.1 he hsw hx.2) fun D σ H q => by
    obtain ⟨fx, Γ, s, F, A, R, K, ko, q⟩ := q
    dsimp only [w1] at q
    refine ⟨fx, Γ, s, F, A, R, K.ex, ko.ex, wE_mono c (fun v Γ' s' q => ?_) q⟩
    intro y H' F' A' R' hx sb rv
    exact ko.nx _ _ _ _ _ _ (R'.putV rv) q
theorem n_retM {c : E rm.S} {e : Expr} {p : Pos} (he : PE X e (rdM W c)) (hv : ∀ i, c ≠ .var i) : PS X (.Return (some e) p) (rd1 W (.ret c)) :=
  PS_imp (ps_ret he) fun D σ H q => by
    obtain ⟨fx, Γ, s, F, A, R, K, ko, q⟩ := q
    have q' : wE K.ex c Γ s fun v _ s' => K.rt v s' := by
      cases c with
      | var i => exact absurd rfl (hv i)
      | _ => exact q
    refine ⟨fx, Γ, s, F, A, R, K.ex, ko.ex, wE_mono c (fun v Γ' s' q => ?_) q'⟩
    intro y H' F' A' R' hx sb rv
    exact ko.rt _ _ _ _ _ _ _ _ R' rv q
/-- (e, ..), the second one such -/
theorem n_tp2M {c c2 : E rm.S} {e e2 : Expr} {kk : Nat} {p : Pos} (h : PE X e (rdE W c)) (h2 : PE X e2 (rdM W c2)) (hs : shp e = true) (hs2 : shp e2 = true) : PE X (.Tuple [e, e2] kk p) (rdM W (.tp (.cons c (.cons c2 .nil)))) := by
  refine PE_imp (pe_tup (pa_cons h (pa_cons h2 pa_nil (star1 hs2)) (star1 hs))) fun σ H Q q => ?_
  obtain ⟨fx, Γ, s, F, A, R, xc, xk, q⟩ := q
  unfold wE wX at q
  refine ⟨fx, Γ, s, F, A, R, xc, xk, wE_mono c (fun v Γ1 s1 q => ?_) q⟩
  intro x H1 F1 A1 R1 hx1 sb1 rv
  obtain ⟨d, F1', q, R1', sb1', rp⟩ := R1.stay rv q
  unfold wX at q
  refine ⟨fx, Γ1, s1, F1', A1, R1', xc, xk, wE_mono c2 (fun v Γ2 s2 q => ?_) q⟩
  intro y H2 F2 A2 R2 le2 sb2 rv2
  obtain ⟨d2, F2', q, R2', sb2', rp2⟩ := R2.stay rv2 q
  unfold wX at q
  refine ⟨by show 2 ≤ sizeLine; decide, fun p hp => ?_⟩
  have sb := sb2.trans sb2'
  refine q.2 (.ref p) _ (upd F2' p (.tup [x, y])) A2 (R2'.lay hp) (rm.le_trans hx1.1 le2) ((((sb1.trans sb1').trans sb2).trans sb2').trans (upd_sub (R2'.nF hp))) (.tup upd_same ?_)
  exact .cons ((rp.mono sb).mono (upd_sub (R2'.nF hp))) (.cons (rp2.mono (upd_sub (R2'.nF hp))) .nil)
theorem SR.backM {H1 F1 : Hp} {Γ1 : Ctx} {s1 : rm.S} {A1 : rm.A} {vs : List Nat} (R1 : SR fx σ H1 Γ1 s1 F1 A1) (R : SR fx (L2.wipe σ vs) H Γ s F A) (le : rm.le A1 A) (sb : Sub F1 F) : SR fx σ H (backG Γ1 vs Γ) s F A where
  fh := R.fh
  fz := R.fz
  f0 := R.f0
  lk := R.lk
  a0 := R.a0
  ok := R.ok
  ln := by rw [backG_length, R.ln, wipe_length]
  sl := fun i v e => by
    rcases look_backG e with ⟨_, h2, h3⟩ | ⟨h1, h2⟩
    · obtain ⟨x, h4, h5⟩ := R1.sl i v h2
      refine ⟨x, h4, ?_⟩
      cases v with
      | dat d => exact Rp.mono sb h5
      | own xs => exact absurd rfl (h3 xs)
      | new xs => exact h5
      | hdl n => exact rm.le_hd le h5
    · obtain ⟨x, h4, h5⟩ := R.sl i v h2
      rw [wipe_out h1] at h4
      exact ⟨x, h4, h5⟩
  dj := fun i j a xs ys e1 e2 s1 s2 => by
    rcases look_backG e1 with ⟨_, _, h3⟩ | ⟨h1, h2⟩
    · exact absurd rfl (h3 xs)
    · rcases look_backG e2 with ⟨_, _, h3⟩ | ⟨h3, h4⟩
      · exact absurd rfl (h3 ys)
      · exact R.dj i j a xs ys h2 h4 (by rw [wipe_out h1]; exact s1) (by rw [wipe_out h3]; exact s2)
/-! [xs.pop(i) for ..] -/
theorem n_compM {own : List Nat} {tc : Tg} {it : It rm.S} {ip : Nat} {cp : E rm.S} {elt tg iter : Expr} {scope : Scope} {ol : List (Str × Nat)} {p : Pos} (hol : ol.map (·.2) = own) (hc : X.calm = true) (hN : X.N.Nodup)
    (hi : PI X tg iter (rdJ W it)) (ok : BlkOk X.N X.env.scope scope ol)
    (hg : ∀ (s : Shared) (H : Hp) (C : Addr) (cl : List (Str × Addr)) (fp : List Addr), PG (X.blk s H scope (compEnvC scope cl C X.env) fp) tg (rdG X.K tc))
    (he : ∀ (s : Shared) (H : Hp) (C : Addr) (cl : List (Str × Addr)) (fp : List Addr), PE (X.blk s H scope (compEnvC scope cl C X.env) fp) elt (rdM W0 (.pop ip cp))) (hs : shp iter = true) (hin : tgIn tc own) :
    PE X (.ListComp elt [⟨tg, iter, [], 0⟩] scope p) (rdM W (.compM own tc it ip cp)) ∧ ∀ σ H Q, rdM W (.compM own tc it ip cp) σ H Q → tLc (rdJ W it) (rdG X.K tc) (rdC W0 (.nil : Es rm.S)) (rdM W0 (.pop ip cp)) own σ H Q := by
  have key : ∀ σ H Q, rdM W (.compM own tc it ip cp) σ H Q → tLc (rdJ W it) (rdG X.K tc) (rdC W0 (.nil : Es rm.S)) (rdM W0 (.pop ip cp)) own σ H Q := by
    intro σ H Q q
    obtain ⟨fx, Γ, s, F, A, R, xc, xk, q⟩ := q
    unfold wE at q
    refine ⟨fx, Γ, s, F, A, R, xc, xk, wJ_mono it (fun xs Γ1 s1 q => ?_) q⟩
    intro J H1 F1 A1 R1 hx1 sb1 yl p hp
    obtain ⟨hbig, q⟩ := q
    have hlp := R1.nL hp
    refine ⟨fun i m H2 => m = xs.length - i ∧ i ≤ xs.length ∧ ∃ Γ2 s2 F2 A2 vs acc, SR (fxL fx p (.lst vs)) (wipe σ own) H2 Γ2 s2 F2 A2 ∧ rm.le A1 A2 ∧ Sub F1 F2 ∧ RpL F2 vs acc ∧ acc.length ≤ i ∧
      cLoop (fun x Γ s k => bindT tc x Γ fun Γ' => popW ip Γ' (fun k' => opn cp (wE xn cp) Γ' s k') fun v Γ3 s3 => asD v fun d => k (some d) (wipeG own Γ3) s3) (xs.drop i) Γ2 s2 acc
        (fun ys Γ' s' => KM fx σ F A Q (.new ys) (backG Γ1 own Γ') s'), ⟨xs.length, rfl, Nat.zero_le _, wipeG own Γ1, s1, F1, A1, [], [], ?_, rm.le_refl A1, Sub.refl F1, .nil, Nat.le_refl _, q⟩, ?_⟩
    · exact ((R1.wipe own).alloc hp).addL upd_same (R1.nF hp) (R1.nft hp) ((R1.wipe own).noOwn hp)
    · rintro i m H2 ⟨rfl, hi, Γ2, s2, F2, A2, vs, acc, R2, le2, sb2, rl, hal, q⟩
      have gs : Sub F1 H2 := sb2.trans R2.fh
      by_cases hlt : i < xs.length
      · obtain ⟨x0, e0⟩ := get_lt (l := xs) hlt
        have ed : xs.drop i = x0 :: xs.drop (i + 1) := by
          rw [List.drop_eq_getElem_cons hlt]
          rw [List.getElem?_eq_getElem hlt] at e0
          rw [Option.some.inj e0]
        rw [ed] at q
        obtain ⟨go, yld⟩ := (yl i H2 gs).1 hlt
        refine .inr ⟨go, fun H' => ∃ Γ2 s2 F2 A2 vs acc, SR (fxL fx p (.lst vs)) (wipe σ own) H' Γ2 s2 F2 A2 ∧ rm.le A1 A2 ∧ Sub F1 F2 ∧ RpL F2 vs acc ∧ acc.length ≤ i + 1 ∧
          cLoop (fun x Γ s k => bindT tc x Γ fun Γ' => popW ip Γ' (fun k' => opn cp (wE xn cp) Γ' s k') fun v Γ3 s3 => asD v fun d => k (some d) (wipeG own Γ3) s3) (xs.drop (i + 1)) Γ2 s2 acc
            (fun ys Γ' s' => KM fx σ F A Q (.new ys) (backG Γ1 own Γ') s'), fun H' w => ⟨xs.length - (i + 1), by omega, rfl, hlt, w⟩, fun x H3 y => ?_⟩
        obtain ⟨d, hd, hy⟩ := yld x H3 y
        rw [e0] at hd
        cases hd
        obtain ⟨F3, R3, hx3, sb3, rp⟩ := R2.yield sb2 hy
        have q' : bindT tc x0 Γ2 _ := q
        have g := bindT_rd (K := X.K) R3 rp q'
        refine n_comp.gmono tc (fun σ2 H4 z => ?_) g
        obtain ⟨rfl, wp, Γ3, q3, R4⟩ := z
        have ew : wipe σ2 own = wipe σ own := (wp own hin).trans wipe_wipe
        refine ⟨ew, ⟨_, Γ3, s2, F3, A2, R4, xn, xk0, ?_⟩⟩
        unfold wC
        intro H5 F5 A5 R5 hx5 sb5
        rw [if_pos rfl]
        refine ⟨_, Γ3, s2, F5, A5, R5, xn, xk0, ?_⟩
        unfold wE
        refine popW_mono (fun k k' hk => opnE_mono cp hk) (fun v Γ6 s6 q => ?_) q3
        intro y6 H6 F6 A6 R6 le6 sb6 rv
        obtain ⟨d, F7, q, R7, sb7, rp7⟩ := R6.stay rv q
        obtain ⟨w1, w2, w3⟩ := R7.lkP
        have hlen : vs.length < sizeLine := Nat.lt_of_lt_of_le (Nat.lt_of_le_of_lt (by rw [rl.length]; exact hal) hlt) (big_sz hbig)
        refine ⟨vs, w1, hlen, wipeG own Γ6, s6, F7, A6, vs ++ [y6], acc ++ [d], ?_, ?_, ?_, ?_, ?_, q⟩
        · have R8 := (R7.wipe own).chg (o' := .lst (vs ++ [y6])) hlp
          rw [ew] at R8
          exact R8
        · exact rm.le_trans (rm.le_trans (rm.le_trans le2 hx3.1) hx5.1) le6
        · exact (((sb2.trans sb3).trans sb5).trans sb6).trans sb7
        · exact (((((rl.mono sb3).mono sb5).mono sb6).mono sb7)).append (.cons rp7 .nil)
        · rw [List.length_append, List.length_singleton]; omega
      · have e : i = xs.length := by omega
        subst e
        refine .inl ⟨(yl _ H2 gs).2 rfl, ?_⟩
        rw [List.drop_length] at q
        have q' : KM fx σ F A Q (.new acc) (backG Γ1 own Γ2) s2 := q
        obtain ⟨w1, w2, w3⟩ := R2.lkP
        have no := R2.lkNo
        refine q' (V.ref p) H2 F2 A2 (R1.backM (R2.delL hlp) le2 sb2) (rm.le_trans hx1.1 le2) (sb1.trans sb2) ⟨p, vs, rfl, w1, w2, w3, hlp, rl, fun j ys ej z => ?_⟩
        rcases look_backG ej with ⟨_, _, h3⟩ | ⟨h1, h2⟩
        · exact h3 ys rfl
        · exact no j ys h2 (by rw [wipe_out h1]; exact z)
  refine ⟨?_, key⟩
  have h := pe_lc (own := ol) hc hN hi ok hg (fun s H C cl fp => pts_nilC (rm := rm)) he (fold1 hs) (pos := p)
  rw [hol] at h
  exact PE_imp h key
where
  pts_nilC {rm : RM} {X : Cx} : PTs X [] (rdC W0 (.nil : Es rm.S)) := ⟨fun pins s σ H Q I q => by
    obtain ⟨fx, Γ, s', F, A, R, xc, xk, q⟩ := q
    unfold wC at q
    exact pts_nil.run pins s σ H Q I (q H F A R (HX.refl H A) (Sub.refl F))⟩
theorem n_asgLM {i : Nat} {y : Str} {own : List Nat} {tc : Tg} {it : It rm.S} {ip : Nat} {cp : E rm.S} {elt tg iter : Expr} {scope : Scope} {ol : List (Str × Nat)} {p p2 p3 : Pos} (hy : X.N[i]? = some y) (hyl : X.env.scope.names.lookup y = some .local)
    (hsw : swapsWith (.ListComp elt [⟨tg, iter, [], 0⟩] scope p) (some (.Name y p2)) p3.line X.env = pure true) (hol : ol.map (·.2) = own) (hc : X.calm = true) (hN : X.N.Nodup)
    (hi : PI X tg iter (rdJ W it)) (ok : BlkOk X.N X.env.scope scope ol)
    (hg : ∀ (s : Shared) (H : Hp) (C : Addr) (cl : List (Str × Addr)) (fp : List Addr), PG (X.blk s H scope (compEnvC scope cl C X.env) fp) tg (rdG X.K tc))
    (he : ∀ (s : Shared) (H : Hp) (C : Addr) (cl : List (Str × Addr)) (fp : List Addr), PE (X.blk s H scope (compEnvC scope cl C X.env) fp) elt (rdM W0 (.pop ip cp))) (hs : shp iter = true) (hin : tgIn tc own) :
    PS X (.Assign [.Name y p2] (.ListComp elt [⟨tg, iter, [], 0⟩] scope p) p3) (rd1 W (.asgL i (.compM own tc it ip cp))) := by
  have h := ps_setLc (own := ol) hc hN hy hyl hsw hi ok hg (fun s H C cl fp => n_compM.pts_nilC (rm := rm)) he (fold1 hs)
  rw [hol] at h
  refine PS_imp h fun D σ H q => ?_
  obtain ⟨fx, Γ, s, F, A, R, K, ko, q⟩ := q
  dsimp only [w1] at q
  refine (n_compM (p := p) hol hc hN hi ok hg he hs hin).2 σ H _ ⟨fx, Γ, s, F, A, R, K.ex, ko.ex, wE_mono _ (fun v Γ' s' q => ?_) q⟩
  intro y H' F' A' R' hx sb rv
  exact ko.nx _ _ _ _ _ _ (R'.putV rv) q
end
end Ac
namespace Ac
open PySem PySem.Spec PyProof.Rows L2
/-! ### f((a, b), c): what is handed in is lent -/
section
variable {rm : RM} {X : Cx} {k : Nat} {W : WN} {fx : Fx rm} {σ : L2.St} {H F : Hp} {Γ : Ctx} {s : rm.S} {A : rm.A}
theorem scal_any {F F' : Hp} {v : V} {d : D} (h : Rp F v d) (sc : scal d = true) : Rp F' v d := by
  cases h <;> first | exact .non | exact .bl _ | exact .int _ | exact .str _ | cases sc
theorem scal_all {F F' : Hp} : ∀ {vs : List V} {ds : List D}, RpL F vs ds → ds.all scal = true → RpL F' vs ds
  | _, _, .nil, _ => .nil
  | _, _, .cons h r, sc => by
    rw [List.all_cons, Bool.and_eq_true] at sc
    exact .cons (scal_any h sc.1) (scal_all r sc.2)
/-- a name's thing, as it is read -/
theorem rd_var (R : SR fx σ H Γ s F A) {i : Nat} {q : D → Prop} (h : rdO (look Γ i) q) : ∃ y d, σ[i]? = some (some y) ∧ Ro H F A y d ∧ q d ∧ (match look Γ i with | some (.dat _) => True | some (.own _) => True | _ => False) := by
  cases e : look Γ i with
  | none => rw [e] at h; exact h.elim
  | some v =>
    rw [e] at h
    obtain ⟨y, h1, h2⟩ := R.sl i _ e
    cases v with
    | dat d => exact ⟨y, d, h1, .inl h2, h, trivial⟩
    | own xs =>
      obtain ⟨a, vs, e1, e2, e3, e4, e5, e6⟩ := h2
      exact ⟨y, .list xs, h1, .inr ⟨a, vs, xs, e1, rfl, e2, e4, e6⟩, h, trivial⟩
    | new xs => exact h.elim
    | hdl n => exact h.elim
theorem n_callT {cl : Nat → Addr} {φ : Summ} {x x1 x2 x3 : Str} {i j l : Nat} {kk : Nat} {p p1 p2 p3 p4 p5 : Pos} (g : GoodP cl X k x φ) (hr : Room k X.A) (hgd : X.A.guards = some []) (hg : Gl X x) (tk : Takes X (WXof cl W))
    (h1 : PE X (.Name x1 p1) (tVar i)) (h2 : PE X (.Name x2 p2) (tVar j)) (h3 : PE X (.Name x3 p3) (tVar l)) (hdb : (x == ("__debug__" : Str)) = false) :
    PE X (.Call (.Name x p4) [.Tuple [.Name x1 p1, .Name x2 p2] kk p5, .Name x3 p3] [] p) (rdE W (.callT x φ i j l : E rm.S)) := by
  obtain ⟨f, fd, ps, G, g1, g2, g3⟩ := g
  refine PE_imp (pe_callG (E := fun σ => WE (WXof cl W) σ) G hr hgd hg g1 g2 g3 (fun σ => passAt tk σ) (pa_cons (pe_tup (pa_cons h1 (pa_cons h2 pa_nil))) (pa_cons h3 pa_nil)) hdb rfl rfl) fun σ H Q q => ?_
  obtain ⟨fx, Γ, s, F, A, R, xc, xk, q⟩ := q
  unfold wE at q
  obtain ⟨y1, d1, s1, r1, q, o1⟩ := rd_var R q
  obtain ⟨y2, d2, s2, r2, q, o2⟩ := rd_var R q
  obtain ⟨y3, d3, s3, r3, q, o3⟩ := rd_var R q
  refine ⟨y1, s1, y2, s2, by show (2 : Nat) ≤ sizeLine; decide, fun t ht => ⟨y3, s3, ?_⟩⟩
  obtain ⟨Fc, Rc, sbc, rl⟩ := frzA_ok (cs := .cons (.var i) (.cons (.var j) (.cons (.var l) .nil))) (xs := [y1, y2, y3]) (ds := [d1, d2, d3]) R ⟨o1, o2, o3, trivial⟩ ⟨⟨r1, s1⟩, ⟨r2, s2⟩, ⟨r3, s3⟩, trivial⟩
  have hft : Fc t = none := Rc.nF ht
  cases rl with
  | cons a1 rl =>
    cases rl with
    | cons a2 rl =>
      cases rl with
      | cons a3 rl =>
        cases rl
        have sbt : Sub Fc (upd Fc t (.tup [y1, y2])) := upd_sub hft
        refine ⟨upd Fc t (.tup [y1, y2]), [.tuple [d1, d2], d3], (Rc.lay (o := .tup [y1, y2]) ht).fh, .cons (.tup upd_same (.cons (a1.mono sbt) (.cons (a2.mono sbt) .nil))) (.cons (a3.mono sbt) .nil), φ.mono (fun v q => ?_) (fun n z => z.elim) q⟩
        intro y H' F' hh ff fh' nf rv
        have hH : Sub H H' := fun a o e => hh a o (by rw [upd_ne (ne_of_none e ht)]; exact e)
        refine q.2 y H' F A (R.grow hH) (HX.grow hH) (Sub.refl F) ?_
        have sc := q.1
        cases v with
        | dat d => exact scal_any rv sc
        | own ys => exact rv.elim
        | hdl n => exact rv.elim
        | new ys =>
          obtain ⟨a, vs, e1, e2, e3, e4, e5⟩ := rv
          have ha : H a = none := by
            cases z : H a with
            | none => rfl
            | some o =>
              rw [upd_ne (ne_of_none z ht), z] at e4
              cases e4
          exact ⟨a, vs, e1, e2, R.nF ha, R.nft ha, R.nL ha, scal_all e5 sc, R.noOwn ha⟩
end
end Ac
namespace Ac
open PySem PySem.Spec PyProof.Rows L2
/-! ### errors as things -/
def exName : Nat → Str
  | 0 => "NoRing" | 1 => "NoArc" | 2 => "NoPlace" | 3 => "TooMany" | 4 => "NoText" | 5 => "NoName" | 6 => "NoRow" | _ => "ValueError"
/-- what the classes of errors say -/
structure XTop (K : PySem.W.Frag) (mg : Str → Option Value) (cl : Nat → Addr) : Prop where
  pin : ∃ C, mg "PinError" = some (.ref C) ∧ ∀ n, n < 7 → PySem.W.exmOne K (.ref (cl n)) (.ref C) = some true
  nm : ∀ n, n < 7 → mg (exName n) = some (.ref (cl n))
  ec : ∀ n, n < 7 → ExcC K (cl n)
  kk : ∀ n m, n < 7 → m < 7 → PySem.W.kitOne K (.ref (cl n)) (.ref (cl m)) = some (decide (n = m))
  kv : ∀ n, n < 7 → PySem.W.kitOne K (.ref (cl n)) (.type "ValueError") = some true
  kn : ∀ m, m < 7 → PySem.W.kitOne K (.type "NoneType") (.ref (cl m)) = some false
  ve : mg "ValueError" = none
/-- errors are among the things with a state -/
structure RMX (rm : RM) (cl : Nat → Addr) : Prop where
  new : ∀ {fx : Fx rm} {σ : L2.St} {H : Hp} {Γ : Ctx} {s : rm.S} {F : Hp} {A : rm.A} {a : Addr} {n : Nat}, SR fx σ H Γ s F A → H a = none → ∃ A', SR fx σ (upd H a (ErrO (.ref (cl n)) a)) Γ s F A' ∧ rm.hd A' (100 + n) (.ref a)
  get : ∀ {A : rm.A} {s : rm.S} {H : Hp} {n : Nat} {x : V}, rm.ok A s H → n < 7 → rm.hd A (100 + n) x → ∃ a, x = .ref a ∧ H a = some (ErrO (.ref (cl n)) a)
def okCl (n : Nat) : Bool := decide (n < 7) || decide (n = 99)
theorem okCl_or {n : Nat} (h : okCl n = true) : n < 7 ∨ n = 99 := by
  unfold okCl at h
  simpa using h
def clsV (cl : Nat → Addr) (n : Nat) : V := if n = 99 then .ty "ValueError" else .ref (cl n)
def clsU (cl : Nat → Addr) (n : Nat) : Value := if n = 99 then .type "ValueError" else .ref (cl n)
theorem cls_rel {cl : Nat → Addr} {n : Nat} : ClsV (clsV cl n) (clsU cl n) := by
  unfold clsV clsU
  by_cases h : n = 99
  · rw [if_pos h, if_pos h]; exact .ty _
  · rw [if_neg h, if_neg h]; exact .own _
section
variable {rm : RM} {X : Cx} {k : Nat} {t : Sx} {W : WN} {fx : Fx rm} {xc : Nat → Ctx → rm.S → Prop} {σ : L2.St} {H F : Hp} {Γ : Ctx} {s : rm.S} {A : rm.A} {cl : Nat → Addr}
theorem pe_cls {n : Nat} {p : Pos} (xt : XTop X.K X.mg cl) (hn : okCl n = true) (hg : Gl X (exName n)) : PE X (.Name (exName n) p) (tC (clsV cl n)) := by
  rcases okCl_or hn with h | rfl
  · have e : clsV cl n = .ref (cl n) := by unfold clsV; rw [if_neg (by omega)]
    rw [e]
    refine pe_glob hg (xt.nm n h) rfl ?_
    match n, h with
    | 0, _ => decide +kernel
    | 1, _ => decide +kernel
    | 2, _ => decide +kernel
    | 3, _ => decide +kernel
    | 4, _ => decide +kernel
    | 5, _ => decide +kernel
    | 6, _ => decide +kernel
    | n + 7, h => omega
  · exact pe_bltn (v := .ty "ValueError") hg xt.ve (by decide +kernel) rfl (by decide +kernel) (by decide +kernel)
theorem kit_none {n : Nat} {K : PySem.W.Frag} {mg : Str → Option Value} (xt : XTop K mg cl) (hn : okCl n = true) : PySem.W.kitOne K (.type "NoneType") (clsU cl n) = some false := by
  rcases okCl_or hn with h | rfl
  · unfold clsU; rw [if_neg (by omega)]; exact xt.kn n h
  · exact kit_ty (by decide +kernel)
theorem kit_err {n m : Nat} {K : PySem.W.Frag} {mg : Str → Option Value} (xt : XTop K mg cl) (hn : okCl n = true) (hm : m < 7) : PySem.W.kitOne K (.ref (cl m)) (clsU cl n) = some (decide (n = 99) || decide (100 + m = 100 + n)) := by
  rcases okCl_or hn with h | rfl
  · unfold clsU
    rw [if_neg (by omega), xt.kk m n hm h, decide_eq_false (show ¬ n = 99 by omega), Bool.false_or]
    congr 1
    by_cases e : m = n
    · rw [decide_eq_true e, decide_eq_true (by omega)]
    · rw [decide_eq_false e, decide_eq_false (by omega)]
  · exact xt.kv m hm
theorem kitAny_of {K : PySem.W.Frag} {t : Value} {f : Nat → Bool} : ∀ {ns : List Nat}, (∀ n ∈ ns, PySem.W.kitOne K t (clsU cl n) = some (f n)) → PySem.W.kitAny K t (ns.map (clsU cl)) = some (ns.any f)
  | [], _ => rfl
  | n :: ns, h => by
    rw [List.map_cons, List.any_cons]
    refine kitAny_cons (h n List.mem_cons_self) (fun e => ?_) (fun e => by rw [e]; rfl)
    rw [e, Bool.false_or]
    exact kitAny_of fun m hm => h m (List.mem_cons_of_mem _ hm)
/-- what isinstance asks of such a name -/
theorem isC_ty {i : Nat} {ns : List Nat} {kk : Bool → Prop} (xt : XTop X.K X.mg cl) (rx : RMX rm cl) (hn : ∀ n ∈ ns, okCl n = true) (R : SR fx σ H Γ s F A) (q : isCW ns (look Γ i) kk) :
    ∃ x t f, σ[i]? = some (some x) ∧ (TyX X.K H x t ∧ (∀ H', TyX X.K H' x t) ∨ ∃ a C, x = .ref a ∧ t = .ref C ∧ H a = some (ErrO (.ref C) a) ∧ ExcC X.K C) ∧ (∀ n ∈ ns, PySem.W.kitOne X.K t (clsU cl n) = some (f n)) ∧ kk (ns.any f) := by
  unfold isCW at q
  split at q
  · rename_i d e
    obtain ⟨y, h1, h2⟩ := R.sl i _ e
    have ed : d = .none := by
      have := q.1
      cases d <;> first | rfl | cases this
    subst ed
    have h2' : Rp F y .none := h2
    cases h2'
    have ef : (ns.any fun _ => false) = false := by simp
    exact ⟨.non, .type "NoneType", fun _ => false, h1, .inl ⟨.base .non, fun _ => .base .non⟩, fun n h => kit_none xt (hn n h), by rw [ef]; exact q.2⟩
  · rename_i m e
    obtain ⟨y, h1, h2⟩ := R.sl i _ e
    obtain ⟨⟨q1, q2⟩, q⟩ := q
    obtain ⟨m', rfl⟩ : ∃ m', m = 100 + m' := ⟨m - 100, by omega⟩
    obtain ⟨a, rfl, ha⟩ := rx.get R.ok (by omega) h2
    exact ⟨.ref a, .ref (cl m'), fun n => decide (n = 99) || decide (100 + m' = 100 + n), h1, .inr ⟨a, cl m', rfl, rfl, ha, xt.ec m' (by omega)⟩, fun n h => kit_err xt (hn n h) (by omega), q⟩
  · exact q.elim
theorem n_isC1 {i n : Nat} {y : Str} {p p2 p3 p4 : Pos} (xt : XTop X.K X.mg cl) (rx : RMX rm cl) (hn : okCl n = true) (hg : Gl X "isinstance") (hm : X.mg "isinstance" = none) (hv : PE X (.Name y p3) (tVar i)) (hgn : Gl X (exName n)) :
    PE X (.Call (.Name "isinstance" p2) [.Name y p3, .Name (exName n) p4] [] p) (rdE W (.isC i false [n] : E rm.S)) := by
  refine PE_imp (pe_callB call_isX hg hm PyProof.Rows.boot_isinstance (pa_cons hv (pa_cons (pe_cls xt hn hgn) pa_nil) (star1 rfl)) (he := star1 rfl)) fun σ H Q q => ?_
  obtain ⟨fx, Γ, s, F, A, R, xc, xk, q⟩ := q
  unfold wE at q
  obtain ⟨x, t, f, h1, h2, h3, h4⟩ := isC_ty xt rx (fun m hm => by rw [List.mem_singleton.mp hm]; exact hn) R q
  refine ⟨x, h1, x, clsV cl n, t, clsU cl n, f n, rfl, cls_rel, h2.elim (fun z => .inl z.1) .inr, h3 n List.mem_cons_self, ?_⟩
  have e : [n].any f = f n := by simp
  rw [e] at h4
  exact h4 _ H F A R (HX.refl H A) (Sub.refl F) (.bl _)
def ClNs (X : Cx) : List Nat → List Expr → Prop
  | [], [] => True
  | n :: ns, .Name z _ :: es => z = exName n ∧ okCl n = true ∧ Gl X z ∧ ClNs X ns es
  | _, _ => False
theorem pa_cls (xt : XTop X.K X.mg cl) : ∀ {ns : List Nat} {es : List Expr}, ClNs X ns es → PA X es (fun σ H Q => Q (ns.map (clsV cl)) H)
  | [], [], _ => pa_nil
  | n :: ns, .Name z p :: es, h => by
    obtain ⟨rfl, h1, h2, h3⟩ := h
    exact PA_imp (pa_cons (pe_cls xt h1 h2) (pa_cls xt h3) (star1 rfl)) fun σ H Q q => q
theorem clns_ok : ∀ {ns : List Nat} {es : List Expr}, ClNs X ns es → ∀ n ∈ ns, okCl n = true
  | [], _, _, n, h => nomatch h
  | n :: ns, .Name z p :: es, h, m, hm => by
    rcases List.mem_cons.mp hm with rfl | hm
    · exact h.2.1
    · exact clns_ok h.2.2.2 m hm
theorem cls_rels : ∀ {ns : List Nat}, Paired ClsV (ns.map (clsV cl)) (ns.map (clsU cl))
  | [] => .nil
  | _ :: _ => .cons cls_rel cls_rels
theorem n_isCT {i : Nat} {ns : List Nat} {es : List Expr} {y : Str} {kk : Nat} {p p2 p3 p4 : Pos} (xt : XTop X.K X.mg cl) (rx : RMX rm cl) (hn : ClNs X ns es) (hl : ns.length ≤ 100) (hg : Gl X "isinstance") (hm : X.mg "isinstance" = none) (hv : PE X (.Name y p3) (tVar i)) :
    PE X (.Call (.Name "isinstance" p2) [.Name y p3, .Tuple es kk p4] [] p) (rdE W (.isC i true ns : E rm.S)) := by
  refine PE_imp (pe_callB call_isXT hg hm PyProof.Rows.boot_isinstance (pa_cons hv (pa_cons (pe_tup (pa_cls xt hn)) pa_nil (star1 rfl)) (star1 rfl)) (he := star1 rfl)) fun σ H Q q => ?_
  obtain ⟨fx, Γ, s, F, A, R, xc, xk, q⟩ := q
  unfold wE at q
  obtain ⟨x, t, f, h1, h2, h3, h4⟩ := isC_ty xt rx (clns_ok hn) R q
  refine ⟨x, h1, ?_, fun T hT => ?_⟩
  · rw [List.length_map, sizeLine_eq]; omega
  · refine ⟨x, T, ns.map (clsV cl), t, ns.map (clsU cl), ns.any f, rfl, upd_same, cls_rels, ?_, kitAny_of h3, ?_⟩
    · rcases h2 with z | ⟨a, C, e1, e2, e3, e4⟩
      · exact .inl (z.2 _)
      · exact .inr ⟨a, C, e1, e2, by rw [upd_ne (ne_of_none e3 hT)]; exact e3, e4⟩
    · exact h4 _ _ F A (R.alloc hT) (R.hx hT) (Sub.refl F) (.bl _)
/-! a is None, a an error perhaps -/
theorem nonev_iff {x : V} {v : Val} (h : RV fx σ H F A Γ x v) : decide (x = .non) = noneV v := by
  cases v with
  | dat d => exact isnone_iff (H := H) (A := A) (.inl h)
  | own xs => exact h.elim
  | new xs => obtain ⟨p, vs, rfl, _⟩ := h; rfl
  | hdl m => obtain ⟨p, rfl⟩ := rm.hd_ref h; rfl
theorem n_isnH {ca : E rm.S} {a : Expr} {j : Nat} {p p' : Pos} (ha : PE X a (rdE W ca)) :
    (PE X (.Compare a [.Is] [.Constant .none j p'] p) (rdE W (.isnH true ca)) ∧ PT X (.Compare a [.Is] [.Constant .none j p'] p) (rdT W (.isnH true ca))) ∧
    (PE X (.Compare a [.IsNot] [.Constant .none j p'] p) (rdE W (.isnH false ca)) ∧ PT X (.Compare a [.IsNot] [.Constant .none j p'] p) (rdT W (.isnH false ca))) := by
  refine ⟨⟨PE_imp (pe_cmp (pc_isN ha)) fun σ H Q q => ?_, PT_imp (pt_cmp (pc_isN ha)) fun σ H Q q => ?_⟩, ⟨PE_imp (pe_cmp (pc_notN ha)) fun σ H Q q => ?_, PT_imp (pt_cmp (pc_notN ha)) fun σ H Q q => ?_⟩⟩
  · obtain ⟨fx, Γ, s, F, A, R, xc, xk, q⟩ := q
    unfold wE at q
    refine ⟨fx, Γ, s, F, A, R, xc, xk, wE_mono ca (fun v Γ1 s1 h => ?_) q⟩
    intro x H1 F1 A1 R1 hx1 sb1 rv
    rw [nonev_iff rv]
    exact h _ H1 F1 A1 R1 hx1 sb1 (.bl _)
  · obtain ⟨fx, Γ, s, F, A, R, xc, xk, q⟩ := q
    change opn (.isnH true ca) _ Γ s _ at q
    rw [opn_nv (c := (.isnH true ca)) (fun i h => nomatch h)] at q
    unfold wE at q
    refine ⟨fx, Γ, s, F, A, R, xc, xk, wE_mono ca (fun v Γ1 s1 h => ?_) q⟩
    intro x H1 F1 A1 R1 hx1 sb1 rv
    refine ⟨_, rfl, ?_⟩
    rw [nonev_iff rv]
    exact h H1 F1 A1 R1 hx1 sb1
  · obtain ⟨fx, Γ, s, F, A, R, xc, xk, q⟩ := q
    unfold wE at q
    refine ⟨fx, Γ, s, F, A, R, xc, xk, wE_mono ca (fun v Γ1 s1 h => ?_) q⟩
    intro x H1 F1 A1 R1 hx1 sb1 rv
    rw [nonev_iff rv]
    exact h _ H1 F1 A1 R1 hx1 sb1 (.bl _)
  · obtain ⟨fx, Γ, s, F, A, R, xc, xk, q⟩ := q
    change opn (.isnH false ca) _ Γ s _ at q
    rw [opn_nv (c := (.isnH false ca)) (fun i h => nomatch h)] at q
    unfold wE at q
    refine ⟨fx, Γ, s, F, A, R, xc, xk, wE_mono ca (fun v Γ1 s1 h => ?_) q⟩
    intro x H1 F1 A1 R1 hx1 sb1 rv
    refine ⟨_, rfl, ?_⟩
    rw [nonev_iff rv]
    exact h H1 F1 A1 R1 hx1 sb1
/-! {k: v} -/
theorem n_d1 {ck cv : E rm.S} {ek ev : Expr} {p : Pos} (hk : PE X ek (rdP W ck)) (hv : PE X ev (rdE W cv)) : PE X (.Dict [some ek] [ev] p) (rdE W (.d1 ck cv)) := by
  refine PE_imp (pe_disp (pps_cons hk hv pps_nil) rfl rfl (List.cons_ne_nil _ _) (by simp)) fun σ H Q q => ?_
  obtain ⟨fx, Γ, s, F, A, R, xc, xk, q⟩ := q
  unfold wE at q
  intro p hp
  have hl := R.nL hp
  have R0 : SR (fxL fx p (.dK [])) σ (upd H p (.dK [])) Γ s F A := (R.alloc hp).addL upd_same (R.nF hp) (R.nft hp) (R.noOwn hp)
  have xk' : XcOk W (fxL fx p (.dK [])) xc := fun n Γ s σ H F A R' z => xk n Γ s σ H F A (R'.delL hl) z
  refine ⟨fxL fx p (.dK []), Γ, s, F, A, R0, xc, xk', opnE_mono ck (fun x Γ1 s1 q => ?_) q⟩
  intro y H1 F1 A1 R1 hx1 sb1 ro1
  refine ⟨fxL fx p (.dK []), Γ1, s1, F1, A1, R1, xc, xk', wE_mono cv (fun w Γ2 s2 q => ?_) q⟩
  intro z H2 F2 A2 R2 hx2 sb2 rv2
  obtain ⟨d, F3, q, R3, sb3, rp⟩ := R2.stay rv2 q
  have hx : HX H A H2 A2 := (HX.trans (R.hx hp) hx1).trans hx2
  have fin : ∀ (key : Key) (x' : D), x' = (match key with | .inl i => .int i | .inr x => .str x) → y = kV key → KE fx σ H F A Q (.dat (.dict [(x', d)])) Γ2 s2 → H2 p = some (.dK []) ∧ ∃ kvs : List (Key × V), [(y, z)] = kvs.map (fun kv => (kV kv.1, kv.2)) ∧ kvs.length ≤ 15 ∧ Q (.ref p) (upd H2 p (.dK (mergeK [] kvs))) := fun key x' e1 e2 q => by
    subst e1 e2
    refine ⟨R2.lkP.1, [(key, z)], rfl, by simp, ?_⟩
    have R4 : SR (fxL fx p (.dK [(key, z)])) σ (upd H2 p (.dK [(key, z)])) Γ2 s2 F3 A2 := R3.chg hl
    have R5 := (R4.delL hl).frz upd_same R4.lkP.2.1 R4.lkP.2.2 hl R4.lkNo
    refine q (.ref p) _ _ A2 R5 ⟨hx.1, fun a o e n => ?_⟩ ((sb1.trans sb2).trans (sb3.trans (upd_sub R4.lkP.2.1))) (Rp.dic upd_same (RpK.cons (rp.mono (upd_sub R4.lkP.2.1)) .nil))
    have na : a ≠ p := ne_of_none e hp
    rw [upd_ne na]
    exact hx.2 a o e n
  show (H2 p = some (.dK []) ∧ _)
  unfold keyD at q
  split at q
  · exact fin (.inl _) _ rfl (flat_int ro1.1) q
  · exact fin (.inr _) _ rfl (flat_str ro1.1) q
  · exact q.elim
/-! ### try .. except .. as e: x = e -/
theorem SR.gone (R : SR fx σ H Γ s F A) {i : Nat} : SR fx (σ.set i none) H (Ac.put Γ i none) s F A where
  fh := R.fh
  fz := R.fz
  f0 := R.f0
  lk := R.lk
  a0 := R.a0
  ok := R.ok
  ln := by rw [put_length, List.length_set]; exact R.ln
  sl := fun j w e => by
    rcases look_put e with ⟨_, z⟩ | ⟨ne, e'⟩
    · cases z
    · obtain ⟨y, h1, h2⟩ := R.sl j w e'
      exact ⟨y, by rw [List.getElem?_set_ne (Ne.symm ne)]; exact h1, h2⟩
  dj := fun j k a xs ys e1 e2 s1 s2 => by
    rcases look_put e1 with ⟨_, z⟩ | ⟨n1, e1'⟩
    · cases z
    · rcases look_put e2 with ⟨_, z⟩ | ⟨n2, e2'⟩
      · cases z
      · rw [List.getElem?_set_ne (Ne.symm n1)] at s1
        rw [List.getElem?_set_ne (Ne.symm n2)] at s2
        exact R.dj j k a xs ys e1' e2' s1 s2
theorem n_try {b : Sms rm.S} {i j : Nat} {c : E rm.S} {bd su : List Stmt} {s0 : Stmt} {n : Str} {np p0 p1 : Pos} (xt : XTop X.K X.mg cl) (rx : RMX rm cl) (hs : X.stack = X.env :: X.outer) (hf : X.env.frame = some X.env.locals) (hx : X.ex = []) (hN : X.N.Nodup) (hi : X.N[i]? = some n)
    (hl : X.env.kindOf n = some .local) (hg : Gl X "PinError") (tk : Takes X (WXof cl W))
    (hb : ∀ (W' : WN) (pn : List (Addr × Obj)) (xe : Value → Shared → Prop), Takes (X.tr pn xe) (WXof cl W') → PassesOwn (model X.prog X.w) X.A X.env xe → PSs (X.tr pn xe) bd (rdSs W' b))
    (hsu : ∀ (a : Addr) (pn : List (Addr × Obj)), PSs (X.suite a pn) (s0 :: su) (rd1 W0 (.asg j c : St1 rm.S))) :
    PS X (.Try bd [.ExceptHandler (some (.Name "PinError" np)) (some n) (s0 :: su) p1] [] [] p0) (rdS W (.tryC b i j c)) := by
  obtain ⟨C, hC, hm⟩ := xt.pin
  refine PS_imp (ps_tryK (tb := fun W => rdSs (fun n σ H => W (.ref (cl n)) none σ H) b) (ts := fun _ _ => rd1 W0 (.asg j c : St1 rm.S)) hs hf hx hN hi hl ⟨hg, by decide +kernel, .inl hC⟩ tk
    (fun W pn xe t1 t2 => hb _ pn xe (t1.imp fun cls d σ H ⟨n, e1, e2, z⟩ => by rw [e1, e2]; exact z) t2) (fun a _ pn => hsu a pn)) fun D σ H q => ?_
  obtain ⟨fx, Γ, s, F, A, R, K', ko', q⟩ := q
  unfold wS at q
  obtain ⟨K, le, q⟩ := q
  have knx : ∀ Γ s σ H F A, SR fx σ H Γ s F A → K.nx Γ s → D.nx σ H := fun Γ s σ H F A R z => ko'.nx Γ s σ H F A R (le.nx _ _ z)
  refine ⟨fx, Γ, s, F, A, R, { K with ex := fun n Γ' s' => n < 7 ∧ wE xn c (put Γ' i (some (.hdl (100 + n)))) s' fun v Γ2 s2 => K.nx (put (put Γ2 j (slotV v)) i none) s2 }, { nx := knx, rt := fun v x Γ s σ H F A R r z => ko'.rt v x Γ s σ H F A R r (le.rt _ _ z), bk := fun Γ s σ H F A R z => ko'.bk Γ s σ H F A R (le.bk _ _ z), ct := fun Γ s σ H F A R z => ko'.ct Γ s σ H F A R (le.ct _ _ z), ex := fun m Γ' s' σ' H' F' A' R' z => ?_ }, q⟩
  obtain ⟨hm7, z⟩ := z
  refine ⟨rfl, true, hm m hm7, (fun e => nomatch e), fun _ hlt a ha => ?_⟩
  obtain ⟨A2, R2, h2⟩ := rx.new (n := m) R' ha
  have R3 := R2.putH (i := i) h2
  refine ⟨fx, _, s', F', A2, R3, ⟨fun Γ2 s2 => K.nx (put Γ2 i none) s2, fun _ _ => False, fun _ _ => False, fun _ _ => False, xn⟩, { nx := fun Γ2 s2 σ2 H2 F2 A2 R2 z => knx _ _ _ _ _ _ R2.gone z, rt := fun _ _ _ _ _ _ _ _ _ _ z => z.elim, bk := fun _ _ _ _ _ _ _ z => z.elim, ct := fun _ _ _ _ _ _ _ z => z.elim, ex := fun _ _ _ _ _ _ _ _ z => z }, ?_⟩
  exact z
end
end Ac
namespace Ac
open PySem PySem.Spec PyProof.Rows L2

/-! ### the checker: PySem's tree is the one meant -/
def sVis (sc : Scope) (x : Str) : Bool := match sc.names.lookup x with
  | some .local => true
  | some .cell => true
  | some .free => true
  | _ => false
def sGl (sc : Scope) (x : Str) : Bool := match sc.names.lookup x with
  | some .globalImplicit => true
  | _ => false
def sSto (t : Sx) (x : Str) : Bool := match t.sc.names.lookup x with
  | some .local => true
  | some .cell => t.fb x
  | _ => false
def plainN (x : Str) : Bool := !(x == ("__debug__" : Str)) && !(x == ("__classdict__" : Str)) && !(decide (x = ("__name__" : Str)))
def hasB (t : Sx) (x : Str) : Bool := sGl t.sc x && decide (x ∈ t.bn) && plainN x
def chNm (t : Sx) (i : Nat) : Expr → Bool
  | .Name x _ => decide (t.N[i]? = some x) && sVis t.sc x && plainN x
  | _ => false
def chTn (t : Sx) : List Nat → List Expr → Bool
  | [], [] => true
  | i :: is, .Name x _ :: es => decide (t.N[i]? = some x) && sSto t x && chTn t is es
  | _, _ => false
def chTg (t : Sx) : Tg → Expr → Bool
  | .nm i, .Name x _ => decide (t.N[i]? = some x) && sSto t x
  | .tp is, .Tuple es _ _ => chTn t is es
  | _, _ => false
/-- a built-in of its own kind: a function, a type -/
def biN : BI → Option (Bool × String)
  | .len => some (false, "len") | .min2 => some (false, "min") | .max2 => some (false, "max") | .minL => some (false, "min") | .maxL => some (false, "max")
  | .sum => some (false, "sum") | .sorted => some (false, "sorted") | .list => some (true, "list") | .tuple => some (true, "tuple") | .abs => some (false, "abs")
  | .int => some (true, "int") | .str => some (true, "str") | .sortP => some (false, "sorted") | .repr => some (false, "repr") | .dictP => some (true, "dict") | _ => none
def biI : BI → Option String
  | .isint => some "int" | .isbool => some "bool" | .islist => some "list" | .istuple => some "tuple" | .isstr => some "str" | _ => none
def isOne {α : Type} : List α → Bool
  | [_] => true
  | _ => false
def esLen {S : Type} : Es S → Nat
  | .nil => 0
  | .cons _ r => esLen r + 1
/-- how many arguments -/
def biA : BI → Nat
  | .min2 => 2
  | .max2 => 2
  | _ => 1
def subT (t : Sx) (scope : Scope) : Sx := { t with sc := relS scope t.sc, fb := fun x => scope.names.lookup x == some .cell }
def ownOf (t : Sx) (own : List Nat) : List (Str × Nat) := own.filterMap fun i => (t.N[i]?).map fun x => (x, i)
def tgSub : Tg → List Nat → Bool
  | .nm i, vs => decide (i ∈ vs)
  | .tp is, vs => is.all fun i => decide (i ∈ vs)
section
variable {S : Type}
def isVarE : E S → Bool
  | .var _ => true
  | _ => false
/-- names of classes of errors -/
def chCls (t : Sx) : List Nat → List Expr → Bool
  | [], [] => true
  | n :: ns, .Name z _ :: es => decide (z = exName n) && okCl n && sGl t.sc z && chCls t ns es
  | _, _ => false
def chIsC (i : Nat) (tp : Bool) (ns : List Nat) (t : Sx) (e : Expr) : Bool := match e with
  | .Call (.Name y _) [e0, .Name z pz] [] _ => !tp && t.xt && decide (y = ("isinstance" : Str)) && hasB t y && chNm t i e0 && chCls t ns [.Name z pz]
  | .Call (.Name y _) [e0, .Tuple es _ _] [] _ => tp && t.xt && decide (y = ("isinstance" : Str)) && hasB t y && chNm t i e0 && chCls t ns es && decide (ns.length ≤ 100)
  | _ => false
mutual
def chE : E S → Sx → Expr → Bool
  | .var i => fun t e => chNm t i e
  | .non => fun _ e => match e with | .Constant .none _ _ => true | _ => false
  | .bl b => fun _ e => match e with | .Constant (.bool c) _ _ => decide (b = c) | _ => false
  | .int i => fun _ e => match e with | .Constant (.int j) _ _ => decide (i = j) | _ => false
  | .str x => fun _ e => match e with | .Constant (.str y) _ _ => decide (x = y) | _ => false
  | .glb x i => fun t e => match e with | .Name y _ => decide (x = y) && sGl t.sc x && decide (t.cn.lookup x = some i) && plainN x | _ => false
  | .op o a b => fun t e => match e with | .BinOp ea o' eb _ => decide (o = o') && chE a t ea && chE b t eb | _ => false
  | .neg a => fun t e => match e with | .UnaryOp .USub ea _ => chE a t ea | _ => false
  | .nt a => fun t e => match e with | .UnaryOp .Not ea _ => chE a t ea | _ => false
  | .an a b => fun t e => match e with | .BoolOp .And (ea :: eb :: r) _ => chE a t ea && (match r with | [] => chE b t eb | _ :: _ => chAn b t (eb :: r)) | _ => false
  | .or a b => fun t e => match e with | .BoolOp .Or (ea :: eb :: r) _ => chE a t ea && (match r with | [] => chE b t eb | _ :: _ => chOr b t (eb :: r)) | _ => false
  | .cmp o a b => fun t e => match e with | .Compare ea [o'] [eb] _ => decide (o = o') && chE a t ea && chE b t eb && shp eb | _ => false
  | .ch o o' a b c => fun t e => match e with | .Compare ea [p, p'] [eb, ec] _ => decide (o = p) && decide (o' = p') && chE a t ea && chE b t eb && chE c t ec && !(lastMarks [p, p'] [eb, ec]) | _ => false
  | .isn pz a => fun t e => match e with | .Compare ea [o] [.Constant .none _ _] _ => decide (o = if pz then CmpOp.Is else CmpOp.IsNot) && chE a t ea | _ => false
  | .isb pz b a => fun t e => match e with | .Compare ea [o] [.Constant (.bool c) _ _] _ => decide (o = if pz then CmpOp.Is else CmpOp.IsNot) && decide (b = c) && chE a t ea | _ => false
  | .ix a b => fun t e => match e with | .Subscript ea eb _ => chE a t ea && chE b t eb && shp eb | _ => false
  | .sl a lo hi => fun t e => match e with | .Subscript ea (.Slice l h none _) _ => chE a t ea && chP lo t l && chP hi t h | _ => false
  | .rv a => fun t e => match e with | .Subscript ea (.Slice none none (some (.UnaryOp .USub (.Constant (.int 1) _ _) _)) _) _ => chE a t ea | _ => false
  | .ls es => fun t e => match e with | .List xs _ => chEs es t xs | _ => false
  | .tp es => fun t e => match e with | .Tuple xs _ _ => chEs es t xs | _ => false
  | .rep es b => fun t e => match e with | .BinOp (.List xs _) .Mult eb _ => chEs es t xs && chE b t eb | _ => false
  | .comp own tg it c ce => fun t e => match e with
    | .ListComp elt [⟨tge, iter, ifs, z⟩] scope _ => decide (z = 0) && chI it t tge iter && blkC t.N t.sc scope (ownOf t own) && decide ((ownOf t own).map (·.2) = own) && chTg (subT t scope) tg tge && chC c (subT t scope) ifs && chE ce (subT t scope) elt && shp iter && tgSub tg own
    | _ => false
  | .call x _ es => fun t e => match e with | .Call (.Name y _) (e0 :: er) [] _ => decide (x = y) && sGl t.sc x && plainN x && chEs es t (e0 :: er) | _ => false
  | .cal0 x _ => fun t e => match e with | .Call (.Name y _) [] [] _ => decide (x = y) && sGl t.sc x && plainN x | _ => false
  | .calE x _ es => fun t e => match e with | .Call (.Name y _) (e0 :: er) [] _ => decide (x = y) && sGl t.sc x && plainN x && chEs es t (e0 :: er) | _ => false
  | .bi b es => fun t e => match e with
    | .Call (.Name y _) (e0 :: er) [] _ => (match biN b with
      | some (_, n) => decide (y = PySem.Str.ofString n) && hasB t y && chEs es t (e0 :: er) && decide (esLen es = biA b)
      | none => (match biI b, er with
        | some n, [.Name z _] => decide (y = ("isinstance" : Str)) && hasB t y && decide (z = PySem.Str.ofString n) && hasB t z && chEs es t [e0]
        | _, _ => false))
    | _ => false
  | .mt m a es => fun t e => match e with | .Call (.Attribute (.Name x p3) y p2) [e0] [] p4 => decide (y = ("index" : Str)) && isVarE a && chE a t (.Name x p3) && chEs es t [e0] && (p2.endLine == p4.line) | _ => false
  | .pop _ _ => fun _ _ => false
  | .d0 => fun _ e => match e with | .Dict [] [] _ => true | _ => false
  | .d1 k v => fun t e => match e with | .Dict [some ek] [ev] _ => chE k t ek && chE v t ev | _ => false
  | .compM _ _ _ _ _ => fun _ _ => false
  | .srtS a => fun t e => match e with | .Call (.Name y _) [.Call (.Name z _) [e0] [] _] [] _ => decide (y = ("sorted" : Str)) && hasB t y && decide (z = ("set" : Str)) && hasB t z && chE a t e0 && shp e0 | _ => false
  | .lenS a => fun t e => match e with | .Call (.Name y _) [.Call (.Name z _) [e0] [] _] [] _ => decide (y = ("len" : Str)) && hasB t y && decide (z = ("set" : Str)) && hasB t z && chE a t e0 && shp e0 | _ => false
  | .lr es => fun t e => match e with | .Call (.Name y _) [.Call (.Name z _) [e0] [] _] [] _ => decide (y = ("list" : Str)) && hasB t y && decide (z = ("range" : Str)) && hasB t z && chEs es t [e0] | _ => false
  | .callT x _ i j k => fun t e => match e with | .Call (.Name y _) [.Tuple [.Name a pa, .Name b pb] _ _, .Name c pc] [] _ => decide (x = y) && sGl t.sc x && plainN x && chNm t i (.Name a pa) && chNm t j (.Name b pb) && chNm t k (.Name c pc) | _ => false
  | .isC i tp ns => fun t e => chIsC i tp ns t e
  | .isnH pz a => fun t e => match e with | .Compare ea [o] [.Constant .none _ _] _ => decide (o = if pz then CmpOp.Is else CmpOp.IsNot) && chE a t ea | _ => false
def chAn : E S → Sx → List Expr → Bool
  | .an a b => fun t es => match es with | ea :: eb :: r => chE a t ea && (match r with | [] => chE b t eb | _ :: _ => chAn b t (eb :: r)) | _ => false
  | _ => fun _ _ => false
def chOr : E S → Sx → List Expr → Bool
  | .or a b => fun t es => match es with | ea :: eb :: r => chE a t ea && (match r with | [] => chE b t eb | _ :: _ => chOr b t (eb :: r)) | _ => false
  | _ => fun _ _ => false
def chEs : Es S → Sx → List Expr → Bool
  | .nil => fun _ es => match es with | [] => true | _ => false
  | .cons a r => fun t es => match es with | e :: er => chE a t e && shp e && chEs r t er | _ => false
def chP : Es S → Sx → Option Expr → Bool
  | .nil => fun _ e => match e with | none => true | _ => false
  | .cons a _ => fun t e => match e with | some e => chE a t e | _ => false
def chC : Es S → Sx → List Expr → Bool
  | .nil => fun _ e => match e with | [] => true | _ => false
  | .cons a .nil => fun t e => match e with | [e] => chE a t e | _ => false
  | .cons _ (.cons _ _) => fun _ _ => false
def chI : It S → Sx → Expr → Expr → Bool
  | .seq a => fun t _ e => chE a t e
  | .rng es => fun t _ e => match e with | .Call (.Name y _) (e0 :: er) [] _ => decide (y = ("range" : Str)) && hasB t y && chEs es t (e0 :: er) && decide (esLen es ≤ 3) | _ => false
  | .enu a => fun t tg e => match tg, e with | .Tuple _ _ _, .Call (.Name y _) [e0] [] _ => decide (y = ("enumerate" : Str)) && hasB t y && chE a t e0 && shp e0 | _, _ => false
  | .zip a b => fun t tg e => match tg, e with | .Tuple _ _ _, .Call (.Name y _) [e0, e1] [] _ => decide (y = ("zip" : Str)) && hasB t y && chE a t e0 && chE b t e1 && shp e0 && shp e1 | _, _ => false
end
/-- xs.pop(i) -/
def chPop (i : Nat) (a : E S) (t : Sx) (e : Expr) : Bool := match e with
  | .Call (.Attribute (.Name x p3) m p2) [e0] [] p4 => decide (m = ("pop" : Str)) && chNm t i (.Name x p3) && chE a t e0 && shp e0 && (p2.endLine == p4.line)
  | _ => false
/-- [xs.pop(i) for ..] -/
def chCM (own : List Nat) (tg : Tg) (it : It S) (i : Nat) (a : E S) (t : Sx) (e : Expr) : Bool := match e with
  | .ListComp elt [⟨tge, iter, [], z⟩] scope _ => decide (z = 0) && chI it t tge iter && blkC t.N t.sc scope (ownOf t own) && decide ((ownOf t own).map (·.2) = own) && chTg (subT t scope) tg tge && chPop i a (subT t scope) elt && shp iter && tgSub tg own
  | _ => false
/-- an expression of a statement -/
def chM : E S → Sx → Expr → Bool
  | .pop i a, t, e => chPop i a t e
  | .compM own tg it i a, t, e => chCM own tg it i a t e
  | .tp (.cons c (.cons (.compM own tg it i a) .nil)), t, e => (match e with | .Tuple [e1, e2] _ _ => chE c t e1 && chCM own tg it i a t e2 && shp e1 | _ => false)
  | c, t, e => chE c t e
/-! what is asked of the defs that are called -/
mutual
def fnE (G : Str → Summ → Prop) (GE : Str → ESumm S → Prop) (GH : ESumm S → Prop) : E S → Prop
  | .var _ | .non | .bl _ | .int _ | .str _ | .glb _ _ | .d0 | .isC _ _ _ => True
  | .op _ a b | .an a b | .or a b | .cmp _ a b | .ix a b | .d1 a b => fnE G GE GH a ∧ fnE G GE GH b
  | .neg a | .nt a | .isn _ a | .isnH _ a | .isb _ _ a | .rv a | .pop _ a | .srtS a | .lenS a => fnE G GE GH a
  | .ch _ _ a b c => fnE G GE GH a ∧ fnE G GE GH b ∧ fnE G GE GH c
  | .sl a lo hi => fnE G GE GH a ∧ fnEs G GE GH lo ∧ fnEs G GE GH hi
  | .compM _ _ it _ a => fnI G GE GH it ∧ fnE G GE GH a
  | .ls es | .tp es | .lr es => fnEs G GE GH es
  | .rep es b => fnEs G GE GH es ∧ fnE G GE GH b
  | .comp _ _ it c e => fnI G GE GH it ∧ fnEs G GE GH c ∧ fnE G GE GH e
  | .call x φ es => G x φ ∧ fnEs G GE GH es
  | .cal0 x φ => G x φ
  | .callT x φ _ _ _ => G x φ
  | .calE x φ es => GE x φ ∧ fnEs G GE GH es
  | .bi _ es => fnEs G GE GH es
  | .mt _ a es => fnE G GE GH a ∧ fnEs G GE GH es
def fnEs (G : Str → Summ → Prop) (GE : Str → ESumm S → Prop) (GH : ESumm S → Prop) : Es S → Prop
  | .nil => True
  | .cons a r => fnE G GE GH a ∧ fnEs G GE GH r
def fnI (G : Str → Summ → Prop) (GE : Str → ESumm S → Prop) (GH : ESumm S → Prop) : It S → Prop
  | .seq a => fnE G GE GH a
  | .rng es => fnEs G GE GH es
  | .enu a => fnE G GE GH a
  | .zip a b => fnE G GE GH a ∧ fnE G GE GH b
end
end
end Ac
namespace Ac
open PySem PySem.Spec PyProof.Rows L2
structure XC (rm : RM) (X : Cx) (k : Nat) (t : Sx) (cl : Nat → Addr) (W : WN) (G : Str → Summ → Prop) (GE : Str → ESumm rm.S → Prop) (GH : ESumm rm.S → Prop) : Prop where
  calm : X.calm = true
  hN : X.N = t.N
  nd : t.N.Nodup
  hs : X.env.scope = t.sc
  hf : ∀ x, t.fb x = true → X.fn x = true
  bn : ∀ x ∈ t.bn, X.mg x = none
  cn : ∀ x i, t.cn.lookup x = some i → ∃ u, X.mg x = some (.int i u)
  room : Room k X.A
  gd : X.A.guards = some []
  sm : SmB X.base
  tk : Takes X (WXof cl W)
  gp : ∀ x φ, G x φ → GoodP cl X k x φ
  ge : ∀ x φ, GE x φ → GoodE rm cl X k x φ
  gh : ∀ φ, GH φ → HOk rm φ
  xt : t.xt = true → XTop X.K X.mg cl
  rx : t.xt = true → RMX rm cl
section
variable {rm : RM} {X : Cx} {k : Nat} {t : Sx} {cl : Nat → Addr} {W : WN} {G : Str → Summ → Prop} {GE : Str → ESumm rm.S → Prop} {GH : ESumm rm.S → Prop}
theorem XC.blk (x : XC rm X k t cl W G GE GH) (s : Shared) (H : Hp) (scope : Scope) (cs : List (Str × Addr)) (C : Addr) (fp : List Addr) : XC rm (X.blk s H scope (compEnvC scope cs C X.env) fp) k (subT t scope) cl W0 G GE GH where
  calm := x.calm
  hN := x.hN
  nd := x.nd
  hs := by
    show relS scope X.env.scope = relS scope t.sc
    rw [x.hs]
  hf := fun _ h => h
  bn := x.bn
  cn := x.cn
  room := x.room
  gd := x.gd
  sm := x.sm
  tk := tk0
  gp := x.gp
  ge := x.ge
  gh := x.gh
  xt := x.xt
  rx := x.rx
theorem XC.vis (x : XC rm X k t cl W G GE GH) {y : Str} (h : sVis t.sc y = true) : Vis X.env.scope y := by
  unfold sVis at h
  rw [x.hs]
  split at h
  · exact .inl ‹_›
  · exact .inr (.inl ‹_›)
  · exact .inr (.inr ‹_›)
  · cases h
theorem XC.gl (x : XC rm X k t cl W G GE GH) {y : Str} (h : sGl t.sc y = true) : Gl X y := by
  unfold sGl at h
  show X.env.scope.names.lookup y = _
  rw [x.hs]
  split at h
  · assumption
  · cases h
theorem XC.sto (x : XC rm X k t cl W G GE GH) {y : Str} (h : sSto t y = true) : Sto X y := by
  unfold sSto at h
  unfold Sto L2.Loc
  rw [x.hs]
  split at h
  · exact ⟨.inl ‹_›, .inr ‹_›⟩
  · exact ⟨.inr ‹_›, .inl (x.hf _ h)⟩
  · cases h
theorem plain3 {y : Str} (h : plainN y = true) : (y == ("__debug__" : Str)) = false ∧ (y == ("__classdict__" : Str)) = false ∧ y ≠ "__name__" := by
  unfold plainN at h
  rw [Bool.and_eq_true, Bool.and_eq_true, Bool.not_eq_true', Bool.not_eq_true', Bool.not_eq_true', decide_eq_false_iff_not] at h
  exact ⟨h.1.1, h.1.2, h.2⟩
theorem XC.nm (x : XC rm X k t cl W G GE GH) {i : Nat} {e : Expr} (h : chNm t i e = true) : ∃ y p, e = .Name y p ∧ PE X e (tVar i) := by
  unfold chNm at h
  split at h
  · rename_i y p
    rw [Bool.and_eq_true, Bool.and_eq_true, decide_eq_true_eq] at h
    obtain ⟨⟨h1, h2⟩, h3⟩ := h
    exact ⟨y, p, rfl, pe_var (by rw [x.hN]; exact h1) (x.vis h2) (plain3 h3).1 (plain3 h3).2.1⟩
  · cases h
theorem XC.hasB (x : XC rm X k t cl W G GE GH) {y : Str} (h : hasB t y = true) : Gl X y ∧ X.mg y = none ∧ y ≠ "__name__" ∧ (y == ("__debug__" : Str)) = false := by
  unfold Ac.hasB at h
  rw [Bool.and_eq_true, Bool.and_eq_true, decide_eq_true_eq] at h
  exact ⟨x.gl h.1.1, x.bn y h.1.2, (plain3 h.2).2.2, (plain3 h.2).1⟩
theorem XC.hu (x : XC rm X k t cl W G GE GH) : X.A.units + 65 < cLine := by
  have := x.room.un
  omega
theorem both {c : E rm.S} {e : Expr} (h : PE X e (rdE W c)) (hv : ∀ i, c ≠ .var i) (ht : tst e = true) : PE X e (rdE W c) ∧ PT X e (rdT W c) := ⟨h, to_test (to_opn h hv) ht⟩
/-- .. as an operand -/
theorem XC.toP (x : XC rm X k t cl W G GE GH) {c : E rm.S} {e : Expr} (hc : chE c t e = true) (h : PE X e (rdE W c)) : PE X e (rdP W c) := by
  cases c with
  | var i =>
    unfold chE at hc
    obtain ⟨y, p, rfl, hv⟩ := x.nm hc
    exact n_varP hv
  | _ => exact to_opn h (fun i e => nomatch e)
theorem csB {b : BI} {T : Bool} {n : String} (hc : X.calm = true) (hg : X.A.guards = some []) (hu : X.A.units + 65 < cLine) (sm : SmB X.base) (h : biN b = some (T, n)) : CallS X (if T then .type n else .builtin n) (biD b) ∧ bootBuiltins (PySem.Str.ofString n) = some (if T then .type n else .builtin n) := by
  cases b <;> unfold biN at h <;> first | (cases h; done) | skip
  all_goals (obtain ⟨rfl, rfl⟩ := Prod.mk.inj (Option.some.inj h))
  · exact ⟨cs_len, PySem.boot_len⟩
  · exact ⟨cs_int2 (call_min2 hc), PyProof.Rows.boot_min⟩
  · exact ⟨cs_int2 (call_max2 hc), PyProof.Rows.boot_max⟩
  · exact ⟨cs_minL hc, PyProof.Rows.boot_min⟩
  · exact ⟨cs_maxL hc, PyProof.Rows.boot_max⟩
  · exact ⟨cs_sum hc, PyProof.Rows.boot_sum⟩
  · exact ⟨cs_sorted, PyProof.Rows.boot_sorted⟩
  · exact ⟨cs_list, PyProof.Rows.boot_list⟩
  · exact ⟨cs_tuple, PyProof.Rows.boot_tuple⟩
  · exact ⟨cs_abs, PyProof.Rows.boot_abs⟩
  · exact ⟨cs_toInt, PyProof.Rows.boot_int⟩
  · exact ⟨cs_toStr, PyProof.Rows.boot_str⟩
  · exact ⟨cs_sortP, PyProof.Rows.boot_sorted⟩
  · exact ⟨cs_dictP hc, PyProof.Rows.boot_dict⟩
  · exact ⟨cs_repr hg hu sm, PyProof.Rows.boot_repr⟩
theorem ciB {b : BI} {n : String} {K : PySem.W.Frag} (h : biI b = some n) : ∃ f, biD b = isD f ∧ (∀ d, PySem.W.kitOne K (.type (tyN d)) (.type n) = some (f d)) ∧ bootBuiltins (PySem.Str.ofString n) = some (.type n) := by
  cases b <;> unfold biI at h <;> first | (cases h; done) | skip
  all_goals (obtain rfl := Option.some.inj h)
  · exact ⟨_, rfl, fun d => (kit_all d).1, PyProof.Rows.boot_int⟩
  · exact ⟨_, rfl, fun d => (kit_all d).2.1, PyProof.Rows.boot_bool⟩
  · exact ⟨_, rfl, fun d => (kit_all d).2.2.1, PyProof.Rows.boot_list⟩
  · exact ⟨_, rfl, fun d => (kit_all d).2.2.2.1, PyProof.Rows.boot_tuple⟩
  · exact ⟨_, rfl, fun d => (kit_all d).2.2.2.2, PyProof.Rows.boot_str⟩
theorem tgS {tg : Tg} {vs : List Nat} (h : tgSub tg vs = true) : tgIn tg vs := by
  cases tg with
  | nm i => unfold tgSub at h; exact (of_decide_eq_true h : i ∈ vs)
  | tp is => unfold tgSub at h; exact fun i hi => of_decide_eq_true (List.all_eq_true.mp h i hi)
theorem XC.tn (x : XC rm X k t cl W G GE GH) : ∀ {is : List Nat} {es : List Expr}, chTn t is es = true → NmOk X es is
  | [], [], _ => .nil
  | [], _ :: _, h => by unfold chTn at h; cases h
  | _ :: _, [], h => by unfold chTn at h; cases h
  | i :: is, e :: es, h => by
    unfold chTn at h
    split at h
    · rename_i z; cases z
    · rename_i a1 a2 y p es' z1 z2
      cases z1
      cases z2
      rw [Bool.and_eq_true, Bool.and_eq_true, decide_eq_true_eq] at h
      exact .cons ⟨y, p, rfl, by rw [x.hN]; exact h.1.1, x.sto h.1.2⟩ (x.tn h.2)
    · cases h
theorem XC.cls (x : XC rm X k t cl W G GE GH) : ∀ {ns : List Nat} {es : List Expr}, chCls t ns es = true → ClNs X ns es
  | [], [], _ => trivial
  | [], _ :: _, h => by unfold chCls at h; cases h
  | _ :: _, [], h => by unfold chCls at h; cases h
  | n :: ns, e :: es, h => by
    unfold chCls at h
    split at h
    · rename_i z; cases z
    · rename_i a1 a2 y p es' z1 z2
      cases z1
      cases z2
      rw [Bool.and_eq_true, Bool.and_eq_true, Bool.and_eq_true, decide_eq_true_eq] at h
      exact ⟨h.1.1.1, h.1.1.2, x.gl h.1.2, x.cls h.2⟩
    · cases h
theorem XC.tg (x : XC rm X k t cl W G GE GH) {tg : Tg} {e : Expr} (h : chTg t tg e = true) : PG X e (rdG X.K tg) := by
  unfold chTg at h
  split at h
  · rw [Bool.and_eq_true, decide_eq_true_eq] at h
    have s := x.sto h.2
    exact pg_name (by rw [x.hN]; exact x.nd) (by rw [x.hN]; exact h.1) s.1 s.2
  · exact n_pgT x.calm (by rw [x.hN]; exact x.nd) (x.tn h)
  · cases h
end
end Ac
namespace Ac
open PySem PySem.Spec PyProof.Rows L2
section
variable {rm : RM} {k : Nat} {cl : Nat → Addr} {G : Str → Summ → Prop} {GE : Str → ESumm rm.S → Prop} {GH : ESumm rm.S → Prop}
theorem n_c0 {X : Cx} {W : WN} : PTs X [] (rdC W (.nil : Es rm.S)) := ⟨fun pins s σ H Q I q => by
  obtain ⟨fx, Γ, s', F, A, R, xc, xk, q⟩ := q
  unfold wC at q
  exact pts_nil.run pins s σ H Q I (q H F A R (HX.refl H A) (Sub.refl F))⟩
theorem n_c1 {X : Cx} {W : WN} {c : E rm.S} {r : Es rm.S} {e : Expr} (h : PT X e (rdT W c)) : PTs X [e] (rdC W (.cons c r)) := ⟨fun pins s σ H Q I q => by
  obtain ⟨fx, Γ, s', F, A, R, xc, xk, q⟩ := q
  unfold wC at q
  exact (pts_one h).run pins s σ H Q I ⟨fx, Γ, s', F, A, R, xc, xk, q⟩⟩
theorem shpL_of : ∀ {cs : Es rm.S} {t : Sx} {es : List Expr}, chEs cs t es = true → shpL es = true
  | .nil, t, es, h => by
    unfold chEs at h
    split at h
    · rfl
    · cases h
  | .cons a r, t, es, h => by
    unfold chEs at h
    split at h
    · rw [Bool.and_eq_true, Bool.and_eq_true] at h
      unfold shpL
      rw [List.all_cons, h.1.2]
      exact shpL_of h.2
    · cases h
theorem esLen_of : ∀ {cs : Es rm.S} {t : Sx} {es : List Expr}, chEs cs t es = true → es.length = esLen cs
  | .nil, t, es, h => by
    unfold chEs at h
    split at h
    · rfl
    · cases h
  | .cons a r, t, es, h => by
    unfold chEs at h
    split at h
    · rw [Bool.and_eq_true, Bool.and_eq_true] at h
      unfold esLen
      rw [List.length_cons, esLen_of h.2]
    · cases h
theorem shp3 {e e2 e3 : Expr} (h : shpL [e, e2, e3] = true) : shp e = true ∧ shpL [e2, e3] = true := by
  unfold shpL at h ⊢
  rw [List.all_cons, Bool.and_eq_true] at h
  exact h
theorem shp2 {e e2 : Expr} (h : shpL [e, e2] = true) : shp e = true ∧ shp e2 = true := by
  unfold shpL at h
  rw [List.all_cons, List.all_cons, Bool.and_eq_true, Bool.and_eq_true] at h
  exact ⟨h.1, h.2.1⟩
theorem shp1 {e : Expr} (h : shpL [e] = true) : shp e = true := by
  unfold shpL at h
  rw [List.all_cons, Bool.and_eq_true] at h
  exact h.1
theorem rngI {X : Cx} {t : Sx} {W : WN} {tg e0 : Expr} {er : List Expr} {p p2 : Pos} (es : Es rm.S) (h : chEs es t (e0 :: er) = true) (ha : PA X (e0 :: er) (rdA W es)) (hg : Gl X "range") (hm : X.mg "range" = none) (h3 : esLen es ≤ 3) : PI X tg (.Call (.Name "range" p2) (e0 :: er) [] p) (rdI W (.rng es)) := by
  have sl := shpL_of h
  have ln := esLen_of h
  match es, er, h, ha, sl, ln, h3 with
  | .nil, _, _, _, _, ln, _ => cases ln
  | .cons a .nil, [], _, ha, sl, _, _ => exact n_iRng1 hg hm ha (shp1 sl)
  | .cons a (.cons b .nil), [e1], _, ha, sl, _, _ => exact n_iRng2 hg hm ha (shp2 sl).1 (shp2 sl).2
  | .cons a (.cons b (.cons c .nil)), [e1, e2], _, ha, sl, _, _ => exact n_iRng3 hg hm ha (shp3 sl).1 (shp3 sl).2
  | .cons a .nil, _ :: _, _, _, _, ln, _ => unfold esLen esLen at ln; simp at ln
  | .cons a (.cons b .nil), [], _, _, _, ln, _ => unfold esLen esLen esLen at ln; simp at ln
  | .cons a (.cons b .nil), _ :: _ :: _, _, _, _, ln, _ => unfold esLen esLen esLen at ln; simp at ln
  | .cons a (.cons b (.cons c .nil)), [], _, _, _, ln, _ => unfold esLen esLen esLen esLen at ln; simp at ln
  | .cons a (.cons b (.cons c .nil)), [_], _, _, _, ln, _ => unfold esLen esLen esLen esLen at ln; simp at ln
  | .cons a (.cons b (.cons c .nil)), _ :: _ :: _ :: _, _, _, _, ln, _ => unfold esLen esLen esLen esLen at ln; simp at ln
  | .cons a (.cons b (.cons c (.cons d r))), _, _, _, _, _, h3 => unfold esLen esLen esLen esLen at h3; omega
theorem rngJ {X : Cx} {t : Sx} {W : WN} {tg e0 : Expr} {er : List Expr} {p p2 : Pos} (es : Es rm.S) (h : chEs es t (e0 :: er) = true) (ha : PA X (e0 :: er) (rdA W es)) (hg : Gl X "range") (hm : X.mg "range" = none) (h3 : esLen es ≤ 3) : PI X tg (.Call (.Name "range" p2) (e0 :: er) [] p) (rdJ W (.rng es)) := by
  have sl := shpL_of h
  have ln := esLen_of h
  match es, er, h, ha, sl, ln, h3 with
  | .nil, _, _, _, _, ln, _ => cases ln
  | .cons a .nil, [], _, ha, sl, _, _ => exact n_jRng1 hg hm ha (shp1 sl)
  | .cons a (.cons b .nil), [e1], _, ha, sl, _, _ => exact n_jRng2 hg hm ha (shp2 sl).1 (shp2 sl).2
  | .cons a (.cons b (.cons c .nil)), [e1, e2], _, ha, sl, _, _ => exact n_jRng3 hg hm ha (shp3 sl).1 (shp3 sl).2
  | .cons a .nil, _ :: _, _, _, _, ln, _ => unfold esLen esLen at ln; simp at ln
  | .cons a (.cons b .nil), [], _, _, _, ln, _ => unfold esLen esLen esLen at ln; simp at ln
  | .cons a (.cons b .nil), _ :: _ :: _, _, _, _, ln, _ => unfold esLen esLen esLen at ln; simp at ln
  | .cons a (.cons b (.cons c .nil)), [], _, _, _, ln, _ => unfold esLen esLen esLen esLen at ln; simp at ln
  | .cons a (.cons b (.cons c .nil)), [_], _, _, _, ln, _ => unfold esLen esLen esLen esLen at ln; simp at ln
  | .cons a (.cons b (.cons c .nil)), _ :: _ :: _ :: _, _, _, _, ln, _ => unfold esLen esLen esLen esLen at ln; simp at ln
  | .cons a (.cons b (.cons c (.cons d r))), _, _, _, _, _, h3 => unfold esLen esLen esLen esLen at h3; omega
theorem own_ix {t : Sx} {own : List Nat} {scope : Scope} (h : blkC t.N t.sc scope (ownOf t own) = true) : BlkOk t.N t.sc scope (ownOf t own) := blkOk_by h
theorem sndIsC {i : Nat} {tp : Bool} {ns : List Nat} {X : Cx} {t : Sx} {W : WN} {e : Expr} (x : XC rm X k t cl W G GE GH) (h : chIsC i tp ns t e = true) : PE X e (rdE W (.isC i tp ns : E rm.S)) ∧ PT X e (rdT W (.isC i tp ns : E rm.S)) := by
  unfold chIsC at h
  split at h
  · simp only [Bool.and_eq_true, decide_eq_true_eq, Bool.not_eq_true'] at h
    obtain ⟨⟨⟨⟨⟨rfl, h1⟩, rfl⟩, h2⟩, h3⟩, h4⟩ := h
    obtain ⟨y, p, rfl, hv⟩ := x.nm h3
    obtain ⟨g1, g2, g3, g4⟩ := x.hasB h2
    have hc := x.cls h4
    match ns, hc with
    | [], hc => exact hc.elim
    | _ :: _ :: _, hc => exact hc.2.2.2.elim
    | [n], hc =>
      obtain ⟨rfl, c1, c2, _⟩ := hc
      exact both (n_isC1 (x.xt h1) (x.rx h1) c1 g1 g2 hv c2) (fun i e => nomatch e) rfl
  · simp only [Bool.and_eq_true, decide_eq_true_eq, Bool.not_eq_true'] at h
    obtain ⟨⟨⟨⟨⟨⟨rfl, h1⟩, rfl⟩, h2⟩, h3⟩, h4⟩, h5⟩ := h
    obtain ⟨y, p, rfl, hv⟩ := x.nm h3
    obtain ⟨g1, g2, g3, g4⟩ := x.hasB h2
    exact both (n_isCT (x.xt h1) (x.rx h1) (x.cls h4) h5 g1 g2 hv) (fun i e => nomatch e) rfl
  · cases h
mutual
theorem sndE : ∀ (c : E rm.S) {X : Cx} {t : Sx} {W : WN} {e : Expr}, XC rm X k t cl W G GE GH → chE c t e = true → fnE G GE GH c → PE X e (rdE W c) ∧ PT X e (rdT W c)
  | .var i, X, t, W, e, x, h, _ => by
    unfold chE at h
    obtain ⟨y, p, rfl, hv⟩ := x.nm h
    exact ⟨n_varE hv, to_test (n_varP hv) rfl⟩
  | .non, X, t, W, e, x, h, _ => by
    unfold chE at h
    split at h
    · exact both (n_cst pe_non (fun F => .non) (fun xc Γ s Q => by unfold wE; rfl)) (fun i e => nomatch e) rfl
    · cases h
  | .bl b, X, t, W, e, x, h, _ => by
    unfold chE at h
    split at h
    · obtain rfl := of_decide_eq_true h
      exact both (n_cst pe_bl (fun F => .bl _) (fun xc Γ s Q => by unfold wE; rfl)) (fun i e => nomatch e) rfl
    · cases h
  | .int b, X, t, W, e, x, h, _ => by
    unfold chE at h
    split at h
    · obtain rfl := of_decide_eq_true h
      exact both (n_cst pe_int (fun F => .int _) (fun xc Γ s Q => by unfold wE; rfl)) (fun i e => nomatch e) rfl
    · cases h
  | .str b, X, t, W, e, x, h, _ => by
    unfold chE at h
    split at h
    · obtain rfl := of_decide_eq_true h
      exact both (n_cst pe_str (fun F => .str _) (fun xc Γ s Q => by unfold wE; rfl)) (fun i e => nomatch e) rfl
    · cases h
  | .glb y i, X, t, W, e, x, h, _ => by
    unfold chE at h
    split at h
    · simp only [Bool.and_eq_true, decide_eq_true_eq] at h
      obtain ⟨⟨⟨rfl, h2⟩, h3⟩, h4⟩ := h
      obtain ⟨u, hu⟩ := x.cn _ _ h3
      exact both (n_cst (pe_glob (v := .int i) (x.gl h2) hu ⟨u, rfl⟩ (plain3 h4).1) (fun F => .int i) (fun xc Γ s Q => by unfold wE; rfl)) (fun i e => nomatch e) rfl
    · cases h
  | .op o a b, X, t, W, e, x, h, f => by
    unfold chE at h
    unfold fnE at f
    split at h
    · simp only [Bool.and_eq_true, decide_eq_true_eq] at h
      obtain ⟨⟨rfl, h1⟩, h2⟩ := h
      exact both (n_op (x.toP h1 (sndE a x h1 f.1).1) (x.toP h2 (sndE b x h2 f.2).1)) (fun i e => nomatch e) rfl
    · cases h
  | .neg a, X, t, W, e, x, h, f => by
    unfold chE at h
    unfold fnE at f
    split at h
    · exact both (n_neg (x.toP h (sndE a x h f).1)) (fun i e => nomatch e) rfl
    · cases h
  | .nt a, X, t, W, e, x, h, f => by
    unfold chE at h
    unfold fnE at f
    split at h
    · have s := sndE a x h f
      exact n_nt (x.toP h s.1) s.2
    · cases h
  | .an a b, X, t, W, e, x, h, f => by
    unfold chE at h
    unfold fnE at f
    split at h
    · rename_i ea eb r p
      rw [Bool.and_eq_true] at h
      have s := sndE a x h.1 f.1
      split at h
      · have s2 := sndE b x h.2 f.2
        exact ⟨n_an (x.toP h.1 s.1) (pe_one (x.toP h.2 s2.1)), (n_anT s.2 (pw_and1 s2.2)).pt⟩
      · have s2 := sndAn b x h.2 f.2 p
        exact ⟨n_an (x.toP h.1 s.1) s2.1, (n_anT s.2 s2.2).pt⟩
    · cases h
  | .or a b, X, t, W, e, x, h, f => by
    unfold chE at h
    unfold fnE at f
    split at h
    · rename_i ea eb r p
      rw [Bool.and_eq_true] at h
      have s := sndE a x h.1 f.1
      split at h
      · have s2 := sndE b x h.2 f.2
        exact ⟨n_or (x.toP h.1 s.1) (pe_one (x.toP h.2 s2.1)), (n_orT s.2 (pw_or1 s2.2)).pt⟩
      · have s2 := sndOr b x h.2 f.2 p
        exact ⟨n_or (x.toP h.1 s.1) s2.1, (n_orT s.2 s2.2).pt⟩
    · cases h
  | .cmp o a b, X, t, W, e, x, h, f => by
    unfold chE at h
    unfold fnE at f
    split at h
    · simp only [Bool.and_eq_true, decide_eq_true_eq] at h
      obtain ⟨⟨⟨rfl, h1⟩, h2⟩, h3⟩ := h
      exact n_cmp x.hu (x.toP h1 (sndE a x h1 f.1).1) (x.toP h2 (sndE b x h2 f.2).1) (mark1 h3)
    · cases h
  | .ch o o' a b c, X, t, W, e, x, h, f => by
    unfold chE at h
    unfold fnE at f
    split at h
    · simp only [Bool.and_eq_true, decide_eq_true_eq] at h
      obtain ⟨⟨⟨⟨⟨rfl, rfl⟩, h1⟩, h2⟩, h3⟩, h4⟩ := h
      exact n_ch x.hu (x.toP h1 (sndE a x h1 f.1).1) (x.toP h2 (sndE b x h2 f.2.1).1) (x.toP h3 (sndE c x h3 f.2.2).1) (by rw [Bool.not_eq_true'] at h4; exact h4)
    · cases h
  | .isn pz a, X, t, W, e, x, h, f => by
    unfold chE at h
    unfold fnE at f
    split at h
    · simp only [Bool.and_eq_true, decide_eq_true_eq] at h
      obtain ⟨rfl, h1⟩ := h
      cases pz with
      | true => exact (n_isn (x.toP h1 (sndE a x h1 f).1)).1
      | false => exact (n_isn (x.toP h1 (sndE a x h1 f).1)).2
    · cases h
  | .isb pz b a, X, t, W, e, x, h, f => by
    unfold chE at h
    unfold fnE at f
    split at h
    · simp only [Bool.and_eq_true, decide_eq_true_eq] at h
      obtain ⟨⟨rfl, rfl⟩, h1⟩ := h
      cases pz with
      | true => exact (n_isb (x.toP h1 (sndE a x h1 f).1)).1
      | false => exact (n_isb (x.toP h1 (sndE a x h1 f).1)).2
    · cases h
  | .ix a b, X, t, W, e, x, h, f => by
    unfold chE at h
    unfold fnE at f
    split at h
    · simp only [Bool.and_eq_true] at h
      obtain ⟨⟨h1, h2⟩, h3⟩ := h
      exact both (n_ix (x.toP h1 (sndE a x h1 f.1).1) (x.toP h2 (sndE b x h2 f.2).1) (plain1 h3)) (fun i e => nomatch e) rfl
    · cases h
  | .sl a lo hi, X, t, W, e, x, h, f => by
    unfold chE at h
    unfold fnE at f
    split at h
    · simp only [Bool.and_eq_true] at h
      obtain ⟨⟨h1, h2⟩, h3⟩ := h
      exact both (n_sl (x.toP h1 (sndE a x h1 f.1).1) (sndPt lo x h2 f.2.1) (sndPt hi x h3 f.2.2)) (fun i e => nomatch e) rfl
    · cases h
  | .rv a, X, t, W, e, x, h, f => by
    unfold chE at h
    unfold fnE at f
    split at h
    · exact both (n_rv (x.toP h (sndE a x h f).1)) (fun i e => nomatch e) rfl
    · cases h
  | .ls es, X, t, W, e, x, h, f => by
    unfold chE at h
    unfold fnE at f
    split at h
    · exact both (n_ls (sndEs es x h f).2.1) (fun i e => nomatch e) rfl
    · cases h
  | .tp es, X, t, W, e, x, h, f => by
    unfold chE at h
    unfold fnE at f
    split at h
    · exact both (n_tp (sndEs es x h f).2.1) (fun i e => nomatch e) rfl
    · cases h
  | .rep es b, X, t, W, e, x, h, f => by
    unfold chE at h
    unfold fnE at f
    split at h
    · rw [Bool.and_eq_true] at h
      exact both (n_rep (sndEs es x h.1 f.1).2.1 (x.toP h.2 (sndE b x h.2 f.2).1)) (fun i e => nomatch e) rfl
    · cases h
  | .comp own tg it c ce, X, t, W, e, x, h, f => by
    unfold chE at h
    unfold fnE at f
    split at h
    · simp only [Bool.and_eq_true, decide_eq_true_eq] at h
      obtain ⟨⟨⟨⟨⟨⟨⟨⟨rfl, h1⟩, h2⟩, h3⟩, h4⟩, h5⟩, h6⟩, h7⟩, h8⟩ := h
      refine both (n_comp (ol := ownOf t own) h3 x.calm (by rw [x.hN]; exact x.nd) (sndI it x h1 f.1) (by rw [x.hN, x.hs]; exact own_ix h2) (fun s H C cs fp => (x.blk s H _ cs C fp).tg h4) (fun s H C cs fp => sndC c (x.blk s H _ cs C fp) h5 f.2.1) (fun s H C cs fp => (sndE ce (x.blk s H _ cs C fp) h6 f.2.2).1) h7 (tgS h8)).1 (fun i e => nomatch e) rfl
    · cases h
  | .call y φ es, X, t, W, e, x, h, f => by
    unfold chE at h
    unfold fnE at f
    split at h
    · simp only [Bool.and_eq_true, decide_eq_true_eq] at h
      obtain ⟨⟨⟨rfl, h1⟩, h2⟩, h3⟩ := h
      exact both (n_call (x.gp _ _ f.1) x.room x.gd (x.gl h1) x.tk (sndEs es x h3 f.2).1 (shpL_of h3) (plain3 h2).1) (fun i e => nomatch e) rfl
    · cases h
  | .cal0 y φ, X, t, W, e, x, h, f => by
    unfold chE at h
    unfold fnE at f
    split at h
    · simp only [Bool.and_eq_true, decide_eq_true_eq] at h
      obtain ⟨⟨rfl, h1⟩, h2⟩ := h
      exact both (n_cal0 (x.gp _ _ f) x.room x.gd (x.gl h1) (plain3 h2).1) (fun i e => nomatch e) rfl
    · cases h
  | .calE y φ es, X, t, W, e, x, h, f => by
    unfold chE at h
    unfold fnE at f
    split at h
    · simp only [Bool.and_eq_true, decide_eq_true_eq] at h
      obtain ⟨⟨⟨rfl, h1⟩, h2⟩, h3⟩ := h
      exact both (n_calE (x.ge _ _ f.1) x.room x.gd (x.gl h1) x.tk (sndEs es x h3 f.2).2.2 (shpL_of h3) (plain3 h2).1) (fun i e => nomatch e) rfl
    · cases h
  | .bi b es, X, t, W, e, x, h, f => by
    unfold chE at h
    unfold fnE at f
    split at h
    · split at h
      · rename_i T n hb
        simp only [Bool.and_eq_true, decide_eq_true_eq] at h
        obtain ⟨⟨⟨rfl, h1⟩, h2⟩, h3⟩ := h
        obtain ⟨g1, g2, g3, g4⟩ := x.hasB h1
        obtain ⟨q1, q2⟩ := csB (X := X) x.calm x.gd x.hu x.sm hb
        cases T with
        | true => exact both (n_biT q1 g1 g2 q2 (sndEs es x h2 f).1 (shpL_of h2) g3 g4) (fun i e => nomatch e) rfl
        | false => exact both (n_biB q1 g1 g2 q2 (sndEs es x h2 f).1 (shpL_of h2) g3 g4) (fun i e => nomatch e) rfl
      · split at h
        · rename_i n z p hb
          simp only [Bool.and_eq_true, decide_eq_true_eq] at h
          obtain ⟨⟨⟨⟨rfl, h1⟩, rfl⟩, h2⟩, h3⟩ := h
          obtain ⟨g1, g2, g3, g4⟩ := x.hasB h1
          obtain ⟨w1, w2, w3, w4⟩ := x.hasB h2
          obtain ⟨fn, q1, q2, q3⟩ := ciB (K := X.K) hb
          have sl := shpL_of h3
          have ln := esLen_of h3
          cases es with
          | nil => cases ln
          | cons a r =>
            cases r with
            | cons _ _ => unfold esLen esLen at ln; cases ln
            | nil =>
              unfold chEs at h3
              simp only [Bool.and_eq_true] at h3
              unfold fnEs at f
              exact both (n_isi q1 q2 g1 g2 (x.toP h3.1.1 (sndE a x h3.1.1 f.1).1) h3.1.2 (pe_bltn w1 w2 q3 rfl w3 w4)) (fun i e => nomatch e) rfl
        · cases h
    · cases h
  | .mt m a es, X, t, W, e, x, h, f => by
    unfold chE at h
    unfold fnE at f
    split at h
    · simp only [Bool.and_eq_true, decide_eq_true_eq] at h
      obtain ⟨⟨⟨⟨rfl, h0⟩, h1⟩, h2⟩, h4⟩ := h
      have hv := x.toP h1 (sndE a x h1 f.1).1
      have sl := shpL_of h2
      have ln := esLen_of h2
      cases es with
      | nil => cases ln
      | cons c r =>
        cases r with
        | cons _ _ => unfold esLen esLen at ln; cases ln
        | nil =>
          unfold chEs at h2
          simp only [Bool.and_eq_true] at h2
          unfold fnEs at f
          have hc := x.toP h2.1.1 (sndE c x h2.1.1 f.2.1).1
          cases a with
          | var i =>
            cases m
            exact both (n_index hv hc h2.1.2 h4) (fun i e => nomatch e) rfl
          | _ => cases h0
    · cases h
  | .pop _ _, X, t, W, e, x, h, f => by
    unfold chE at h
    cases h
  | .d0, X, t, W, e, x, h, _ => by
    unfold chE at h
    split at h
    · exact both n_d0 (fun i e => nomatch e) rfl
    · cases h
  | .d1 a b, X, t, W, e, x, h, f => by
    unfold chE at h
    unfold fnE at f
    split at h
    · rw [Bool.and_eq_true] at h
      exact both (n_d1 (x.toP h.1 (sndE a x h.1 f.1).1) (sndE b x h.2 f.2).1) (fun i e => nomatch e) rfl
    · cases h
  | .isC i tp ns, X, t, W, e, x, h, f => by
    unfold chE at h
    exact sndIsC x h
  | .isnH pz a, X, t, W, e, x, h, f => by
    unfold chE at h
    unfold fnE at f
    split at h
    · simp only [Bool.and_eq_true, decide_eq_true_eq] at h
      obtain ⟨rfl, h1⟩ := h
      cases pz with
      | true => exact (n_isnH (sndE a x h1 f).1).1
      | false => exact (n_isnH (sndE a x h1 f).1).2
    · cases h
  | .compM _ _ _ _ _, X, t, W, e, x, h, f => by
    unfold chE at h
    cases h
  | .srtS a, X, t, W, e, x, h, f => by
    unfold chE at h
    unfold fnE at f
    split at h
    · simp only [Bool.and_eq_true, decide_eq_true_eq] at h
      obtain ⟨⟨⟨⟨⟨rfl, h1⟩, rfl⟩, h2⟩, h3⟩, h4⟩ := h
      obtain ⟨g1, g2, _, _⟩ := x.hasB h1
      obtain ⟨g3, g4, _, _⟩ := x.hasB h2
      exact both (n_srtS x.calm g1 g2 g3 g4 (x.toP h3 (sndE a x h3 f).1) h4) (fun i e => nomatch e) rfl
    · cases h
  | .lenS a, X, t, W, e, x, h, f => by
    unfold chE at h
    unfold fnE at f
    split at h
    · simp only [Bool.and_eq_true, decide_eq_true_eq] at h
      obtain ⟨⟨⟨⟨⟨rfl, h1⟩, rfl⟩, h2⟩, h3⟩, h4⟩ := h
      obtain ⟨g1, g2, _, _⟩ := x.hasB h1
      obtain ⟨g3, g4, _, _⟩ := x.hasB h2
      exact both (n_lenS x.calm g1 g2 g3 g4 (x.toP h3 (sndE a x h3 f).1) h4) (fun i e => nomatch e) rfl
    · cases h
  | .lr es, X, t, W, e, x, h, f => by
    unfold chE at h
    unfold fnE at f
    split at h
    · simp only [Bool.and_eq_true, decide_eq_true_eq] at h
      obtain ⟨⟨⟨⟨rfl, h1⟩, rfl⟩, h2⟩, h3⟩ := h
      obtain ⟨g1, g2, _, _⟩ := x.hasB h1
      obtain ⟨g3, g4, _, _⟩ := x.hasB h2
      have ln := esLen_of h3
      cases es with
      | nil => cases ln
      | cons c r =>
        cases r with
        | cons _ _ => unfold esLen esLen at ln; cases ln
        | nil =>
          unfold chEs at h3
          simp only [Bool.and_eq_true] at h3
          unfold fnEs at f
          exact both (n_lr x.calm g1 g2 g3 g4 (x.toP h3.1.1 (sndE c x h3.1.1 f.1).1) h3.1.2) (fun i e => nomatch e) rfl
    · cases h
  | .callT y φ i j l, X, t, W, e, x, h, f => by
    unfold chE at h
    unfold fnE at f
    split at h
    · simp only [Bool.and_eq_true, decide_eq_true_eq] at h
      obtain ⟨⟨⟨⟨⟨rfl, h1⟩, h2⟩, h3⟩, h4⟩, h5⟩ := h
      obtain ⟨_, _, e1, v1⟩ := x.nm h3
      obtain ⟨_, _, e2, v2⟩ := x.nm h4
      obtain ⟨_, _, e3, v3⟩ := x.nm h5
      exact both (n_callT (x.gp _ _ f) x.room x.gd (x.gl h1) x.tk v1 v2 v3 (plain3 h2).1) (fun i e => nomatch e) rfl
    · cases h
theorem sndAn : ∀ (c : E rm.S) {X : Cx} {t : Sx} {W : WN} {es : List Expr}, XC rm X k t cl W G GE GH → chAn c t es = true → fnE G GE GH c → ∀ p, PE X (.BoolOp .And es p) (rdP W c) ∧ PW X (.BoolOp .And es p) (rdT W c)
  | .an a b, X, t, W, e, x, h, f => fun p => by
    unfold chAn at h
    unfold fnE at f
    split at h
    · rename_i ea eb r
      rw [Bool.and_eq_true] at h
      have s := sndE a x h.1 f.1
      split at h
      · have s2 := sndE b x h.2 f.2
        exact ⟨to_opn (n_an (x.toP h.1 s.1) (pe_one (x.toP h.2 s2.1))) (fun i e => nomatch e), n_anT s.2 (pw_and1 s2.2)⟩
      · have s2 := sndAn b x h.2 f.2 p
        exact ⟨to_opn (n_an (x.toP h.1 s.1) s2.1) (fun i e => nomatch e), n_anT s.2 s2.2⟩
    · cases h
  | .var _, _, _, _, _, _, h, _ | .non, _, _, _, _, _, h, _ | .bl _, _, _, _, _, _, h, _ | .int _, _, _, _, _, _, h, _ | .str _, _, _, _, _, _, h, _ | .glb _ _, _, _, _, _, _, h, _ | .op _ _ _, _, _, _, _, _, h, _ | .neg _, _, _, _, _, _, h, _
  | .nt _, _, _, _, _, _, h, _ | .or _ _, _, _, _, _, _, h, _ | .cmp _ _ _, _, _, _, _, _, h, _ | .ch _ _ _ _ _, _, _, _, _, _, h, _ | .isn _ _, _, _, _, _, _, h, _ | .isb _ _ _, _, _, _, _, _, h, _ | .ix _ _, _, _, _, _, _, h, _ | .sl _ _ _, _, _, _, _, _, h, _
  | .rv _, _, _, _, _, _, h, _ | .ls _, _, _, _, _, _, h, _ | .tp _, _, _, _, _, _, h, _ | .rep _ _, _, _, _, _, _, h, _ | .comp _ _ _ _ _, _, _, _, _, _, h, _ | .call _ _ _, _, _, _, _, _, h, _ | .cal0 _ _, _, _, _, _, _, h, _ | .calE _ _ _, _, _, _, _, _, h, _
  | .isC _ _ _, _, _, _, _, _, h, _ | .isnH _ _, _, _, _, _, _, h, _ | .bi _ _, _, _, _, _, _, h, _ | .mt _ _ _, _, _, _, _, _, h, _ | .pop _ _, _, _, _, _, _, h, _ | .d0, _, _, _, _, _, h, _ | .d1 _ _, _, _, _, _, _, h, _ | .compM _ _ _ _ _, _, _, _, _, _, h, _ | .srtS _, _, _, _, _, _, h, _ | .lenS _, _, _, _, _, _, h, _ | .lr _, _, _, _, _, _, h, _ | .callT _ _ _ _ _, _, _, _, _, _, h, _ => by unfold chAn at h; cases h
theorem sndOr : ∀ (c : E rm.S) {X : Cx} {t : Sx} {W : WN} {es : List Expr}, XC rm X k t cl W G GE GH → chOr c t es = true → fnE G GE GH c → ∀ p, PE X (.BoolOp .Or es p) (rdP W c) ∧ PW X (.BoolOp .Or es p) (rdT W c)
  | .or a b, X, t, W, e, x, h, f => fun p => by
    unfold chOr at h
    unfold fnE at f
    split at h
    · rename_i ea eb r
      rw [Bool.and_eq_true] at h
      have s := sndE a x h.1 f.1
      split at h
      · have s2 := sndE b x h.2 f.2
        exact ⟨to_opn (n_or (x.toP h.1 s.1) (pe_one (x.toP h.2 s2.1))) (fun i e => nomatch e), n_orT s.2 (pw_or1 s2.2)⟩
      · have s2 := sndOr b x h.2 f.2 p
        exact ⟨to_opn (n_or (x.toP h.1 s.1) s2.1) (fun i e => nomatch e), n_orT s.2 s2.2⟩
    · cases h
  | .var _, _, _, _, _, _, h, _ | .non, _, _, _, _, _, h, _ | .bl _, _, _, _, _, _, h, _ | .int _, _, _, _, _, _, h, _ | .str _, _, _, _, _, _, h, _ | .glb _ _, _, _, _, _, _, h, _ | .op _ _ _, _, _, _, _, _, h, _ | .neg _, _, _, _, _, _, h, _
  | .nt _, _, _, _, _, _, h, _ | .an _ _, _, _, _, _, _, h, _ | .cmp _ _ _, _, _, _, _, _, h, _ | .ch _ _ _ _ _, _, _, _, _, _, h, _ | .isn _ _, _, _, _, _, _, h, _ | .isb _ _ _, _, _, _, _, _, h, _ | .ix _ _, _, _, _, _, _, h, _ | .sl _ _ _, _, _, _, _, _, h, _
  | .rv _, _, _, _, _, _, h, _ | .ls _, _, _, _, _, _, h, _ | .tp _, _, _, _, _, _, h, _ | .rep _ _, _, _, _, _, _, h, _ | .comp _ _ _ _ _, _, _, _, _, _, h, _ | .call _ _ _, _, _, _, _, _, h, _ | .cal0 _ _, _, _, _, _, _, h, _ | .calE _ _ _, _, _, _, _, _, h, _
  | .isC _ _ _, _, _, _, _, _, h, _ | .isnH _ _, _, _, _, _, _, h, _ | .bi _ _, _, _, _, _, _, h, _ | .mt _ _ _, _, _, _, _, _, h, _ | .pop _ _, _, _, _, _, _, h, _ | .d0, _, _, _, _, _, h, _ | .d1 _ _, _, _, _, _, _, h, _ | .compM _ _ _ _ _, _, _, _, _, _, h, _ | .srtS _, _, _, _, _, _, h, _ | .lenS _, _, _, _, _, _, h, _ | .lr _, _, _, _, _, _, h, _ | .callT _ _ _ _ _, _, _, _, _, _, h, _ => by unfold chOr at h; cases h
theorem sndEs : ∀ (c : Es rm.S) {X : Cx} {t : Sx} {W : WN} {es : List Expr}, XC rm X k t cl W G GE GH → chEs c t es = true → fnEs G GE GH c → PA X es (rdA W c) ∧ PA X es (rdX W c) ∧ PA X es (rdV W c)
  | .nil, X, t, W, es, x, h, _ => by
    unfold chEs at h
    split at h
    · exact ⟨n_a0, n_x0, n_v0⟩
    · cases h
  | .cons a r, X, t, W, es, x, h, f => by
    unfold chEs at h
    unfold fnEs at f
    split at h
    · rw [Bool.and_eq_true, Bool.and_eq_true] at h
      have s := sndE a x h.1.1 f.1
      have s2 := sndEs r x h.2 f.2
      exact ⟨n_a1 (x.toP h.1.1 s.1) s2.1 h.1.2, n_x1 s.1 s2.2.1 h.1.2, n_v1 s.1 s2.2.2 h.1.2⟩
    · cases h
theorem sndPt : ∀ (c : Es rm.S) {X : Cx} {t : Sx} {W : WN} {e : Option Expr}, XC rm X k t cl W G GE GH → chP c t e = true → fnEs G GE GH c → PO X e (rdPart W c)
  | .nil, X, t, W, es, x, h, _ => by
    unfold chP at h
    split at h
    · exact n_part0
    · cases h
  | .cons a r, X, t, W, es, x, h, f => by
    unfold chP at h
    unfold fnEs at f
    split at h
    · exact n_part1 (x.toP h (sndE a x h f.1).1)
    · cases h
theorem sndC : ∀ (c : Es rm.S) {X : Cx} {t : Sx} {W : WN} {es : List Expr}, XC rm X k t cl W G GE GH → chC c t es = true → fnEs G GE GH c → PTs X es (rdC W c)
  | .nil, X, t, W, es, x, h, _ => by
    unfold chC at h
    split at h
    · exact n_c0
    · cases h
  | .cons a .nil, X, t, W, es, x, h, f => by
    unfold chC at h
    unfold fnEs at f
    split at h
    · exact n_c1 (sndE a x h f.1).2
    · cases h
  | .cons _ (.cons _ _), X, t, W, es, x, h, f => by
    unfold chC at h
    cases h
theorem sndI : ∀ (c : It rm.S) {X : Cx} {t : Sx} {W : WN} {tg e : Expr}, XC rm X k t cl W G GE GH → chI c t tg e = true → fnI G GE GH c → PI X tg e (rdI W c)
  | .seq a, X, t, W, tg, e, x, h, f => by
    unfold chI at h
    unfold fnI at f
    exact n_iSeq (x.toP h (sndE a x h f).1)
  | .rng es, X, t, W, tg, e, x, h, f => by
    unfold chI at h
    unfold fnI at f
    split at h
    · simp only [Bool.and_eq_true, decide_eq_true_eq] at h
      obtain ⟨⟨⟨rfl, h1⟩, h2⟩, h3⟩ := h
      obtain ⟨g1, g2, g3, g4⟩ := x.hasB h1
      have s := (sndEs es x h2 f).1
      have sl := shpL_of h2
      exact rngI es h2 s g1 g2 h3
    · cases h
  | .enu a, X, t, W, tg, e, x, h, f => by
    unfold chI at h
    unfold fnI at f
    split at h
    · simp only [Bool.and_eq_true, decide_eq_true_eq] at h
      obtain ⟨⟨⟨rfl, h1⟩, h2⟩, h3⟩ := h
      obtain ⟨g1, g2, g3, g4⟩ := x.hasB h1
      exact n_iEnu g1 g2 (x.toP h2 (sndE a x h2 f).1) h3
    · cases h
  | .zip a b, X, t, W, tg, e, x, h, f => by
    unfold chI at h
    unfold fnI at f
    split at h
    · simp only [Bool.and_eq_true, decide_eq_true_eq] at h
      obtain ⟨⟨⟨⟨⟨rfl, h1⟩, h2⟩, h3⟩, h4⟩, h5⟩ := h
      obtain ⟨g1, g2, g3, g4⟩ := x.hasB h1
      exact n_iZip g1 g2 (x.toP h2 (sndE a x h2 f.1).1) (x.toP h3 (sndE b x h3 f.2).1) h4 h5
    · cases h
end
end
end Ac
namespace Ac
open PySem PySem.Spec PyProof.Rows L2
/-! ### the checker of statements -/
def swc (sc : Scope) (y : Str) (py p : Pos) (scope : Scope) : Bool := (if sc.kind.isAnnotationScope then ScopeKind.function else sc.kind) == .function && sc.names.lookup y == some .local && py.line == p.line && !(scope.names.any fun (n, k) => n == y && (k == .local || k == .cell))
theorem swc_of {env : Env} {y : Str} {py p : Pos} {scope : Scope} {elt : Expr} {gs : List Comprehension} {l : Nat} : swapsWith (.ListComp elt gs scope p) (some (.Name y py)) l env = pure (swc env.scope y py p scope) := rfl
def swok (sc : Scope) (y : Str) (py : Pos) (e : Expr) : Bool := match e with
  | .ListComp _ _ scope p => !(swc sc y py p scope)
  | e => shp e
section
variable {S : Type}
def ch1 : St1 S → Sx → Stmt → Bool
  | .nop, _, st => (match st with | .Pass _ => true | _ => false)
  | .asg i c, t, st => (match st with | .Assign [.Name x py] e _ => decide (t.N[i]? = some x) && sSto t x && chM c t e && swok t.sc x py e | _ => false)
  | .asgL i c, t, st => (match st with
    | .Assign [.Name x py] (.ListComp elt [⟨tge, iter, ifs, z⟩] scope p) _ => (match c with
      | .comp own tg it cc ce => decide (t.N[i]? = some x) && decide (t.sc.names.lookup x = some .local) && swc t.sc x py p scope &&
        decide (z = 0) && chI it t tge iter && blkC t.N t.sc scope (ownOf t own) && decide ((ownOf t own).map (·.2) = own) && chTg (subT t scope) tg tge && chC cc (subT t scope) ifs && chE ce (subT t scope) elt && shp iter && tgSub tg own
      | .compM own tg it ip a => decide (t.N[i]? = some x) && decide (t.sc.names.lookup x = some .local) && swc t.sc x py p scope &&
        decide (z = 0) && ifs.isEmpty && chI it t tge iter && blkC t.N t.sc scope (ownOf t own) && decide ((ownOf t own).map (·.2) = own) && chTg (subT t scope) tg tge && chPop ip a (subT t scope) elt && shp iter && tgSub tg own
      | _ => false)
    | _ => false)
  | .asgH i _ c, t, st => (match st with | .Assign [.Name x _] (.List [e, .Constant (.int 0) _ _] _) _ => decide (t.N[i]? = some x) && sSto t x && chE c t e && shp e | _ => false)
  | .asgT is c, t, st => (match st with | .Assign [.Tuple xs _ _] e _ => chTn t is xs && chE c t e && shp e && !(isComp e) && !(isTupE e) | _ => false)
  | .app i c, t, st => (match st with | .Expr (.Call (.Attribute e1 m p2) [e] [] p4) _ => chNm t i e1 && decide (m = ("append" : Str)) && chE c t e && shp e && (p2.endLine == p4.line) | _ => false)
  | .ins i j c, t, st => (match st with | .Expr (.Call (.Attribute e1 m p2) [e0, e] [] p4) _ => chNm t i e1 && decide (m = ("insert" : Str)) && chE j t e0 && chE c t e && shp e0 && shp e && (p2.endLine == p4.line) | _ => false)
  | .setI i j c, t, st => (match st with | .Assign [.Subscript e1 e0 _] e _ => chNm t i e1 && chE j t e0 && chE c t e && shp e0 && shp e && !(isComp e) && !(isTupE e) | _ => false)
  | .aug i o c, t, st => (match st with | .AugAssign (.Name x _) o' e _ => decide (t.N[i]? = some x) && sSto t x && decide (o = o') && chE c t e && (decide (o = .Add) || decide (o = .Sub)) | _ => false)
  | .expr c, t, st => (match st with | .Expr e _ => chE c t e && shp e && !(isComp e) | _ => false)
  | .ret c, t, st => (match st with | .Return (some e) _ => chM c t e | _ => false)
  | .brk, _, st => (match st with | .Break _ => true | _ => false)
  | .cnt, _, st => (match st with | .Continue _ => true | _ => false)
  | .never, _, _ => true
  | .raise x _, t, st => (match st with | .Raise (some (.Call (.Name y _) [.Constant (.str _) _ _] [] _)) none _ => decide (x = y) && sGl t.sc x && plainN x | _ => false)
mutual
def chS : Sm S → Sx → Stmt → Bool
  | .one s => fun t st => ch1 s t st
  | .ite c a b => fun t st => match st with | .If e sa sb _ => chE c t e && chSs a t sa && chSs b t sb | _ => false
  | .whl c b => fun t st => match st with | .While e sb [] _ => chE c t e && chSs b t sb | _ => false
  | .for tg it b => fun t st => match st with | .For tge iter sb [] _ => chTg t tg tge && chI it t tge iter && shp iter && chSs b t sb | _ => false
  | .tryC b i j c => fun t st => match st with
    | .Try bd [.ExceptHandler (some (.Name x _)) (some n) [.Assign [.Name y _] e _] _] [] [] _ => t.xt && decide (x = ("PinError" : Str)) && sGl t.sc x && decide (t.N[i]? = some n) && decide (t.sc.names.lookup n = some .local) && decide (t.N[j]? = some y) && sSto t y && chSs b t bd &&
      (match c with | .var m => chNm t m e | _ => false)
    | _ => false
def chSs : Sms S → Sx → List Stmt → Bool
  | .nil => fun _ ss => match ss with | [] => true | _ => false
  | .cons a r => fun t ss => match ss with | s :: sr => chS a t s && chSs r t sr | _ => false
end
def fn1 (G : Str → Summ → Prop) (GE : Str → ESumm S → Prop) (GH : ESumm S → Prop) (GX : Str → Nat → Prop) : St1 S → Prop
  | .asg _ c | .asgL _ c | .asgT _ c | .app _ c | .aug _ _ c | .expr c | .ret c => fnE G GE GH c
  | .ins _ j c | .setI _ j c => fnE G GE GH j ∧ fnE G GE GH c
  | .asgH _ φ c => GH φ ∧ fnE G GE GH c
  | .raise x n => GX x n
  | _ => True
mutual
def fnS (G : Str → Summ → Prop) (GE : Str → ESumm S → Prop) (GH : ESumm S → Prop) (GX : Str → Nat → Prop) : Sm S → Prop
  | .one s => fn1 G GE GH GX s
  | .ite c a b => fnE G GE GH c ∧ fnSs G GE GH GX a ∧ fnSs G GE GH GX b
  | .whl c b => fnE G GE GH c ∧ fnSs G GE GH GX b
  | .for _ it b => fnI G GE GH it ∧ fnSs G GE GH GX b
  | .tryC b _ _ _ => fnSs G GE GH GX b
def fnSs (G : Str → Summ → Prop) (GE : Str → ESumm S → Prop) (GH : ESumm S → Prop) (GX : Str → Nat → Prop) : Sms S → Prop
  | .nil => True
  | .cons a r => fnS G GE GH GX a ∧ fnSs G GE GH GX r
end
end
section
variable {rm : RM} {k : Nat} {cl : Nat → Addr} {G : Str → Summ → Prop} {GE : Str → ESumm rm.S → Prop} {GH : ESumm rm.S → Prop} {GX : Str → Nat → Prop}
theorem swok_of {X : Cx} {t : Sx} {W : WN} {y : Str} {py : Pos} {e : Expr} {l : Nat} (x : XC rm X k t cl W G GE GH) (h : swok t.sc y py e = true) : swapsWith e (some (.Name y py)) l X.env = pure false := by
  cases e with
  | ListComp elt gs scope p =>
    rw [swc_of, x.hs]
    change (!(swc t.sc y py p scope)) = true at h
    rw [Bool.not_eq_true'] at h
    rw [h]
  | _ => exact swap1 h rfl
theorem sndJ (c : It rm.S) {X : Cx} {t : Sx} {W : WN} {tg e : Expr} (x : XC rm X k t cl W G GE GH) (h : chI c t tg e = true) (f : fnI G GE GH c) : PI X tg e (rdJ W c) := by
  cases c with
  | seq a =>
    unfold chI at h
    unfold fnI at f
    exact n_jSeq (sndE a x h f).1
  | rng es =>
    unfold chI at h
    unfold fnI at f
    split at h
    · simp only [Bool.and_eq_true, decide_eq_true_eq] at h
      obtain ⟨⟨⟨rfl, h1⟩, h2⟩, h3⟩ := h
      obtain ⟨g1, g2, g3, g4⟩ := x.hasB h1
      exact rngJ es h2 (sndEs es x h2 f).1 g1 g2 h3
    · cases h
  | enu a =>
    unfold chI at h
    unfold fnI at f
    split at h
    · simp only [Bool.and_eq_true, decide_eq_true_eq] at h
      obtain ⟨⟨⟨rfl, h1⟩, h2⟩, h3⟩ := h
      obtain ⟨g1, g2, g3, g4⟩ := x.hasB h1
      exact n_jEnu g1 g2 (sndE a x h2 f).1 h3
    · cases h
  | zip a b =>
    unfold chI at h
    unfold fnI at f
    split at h
    · simp only [Bool.and_eq_true, decide_eq_true_eq] at h
      obtain ⟨⟨⟨⟨⟨rfl, h1⟩, h2⟩, h3⟩, h4⟩, h5⟩ := h
      obtain ⟨g1, g2, g3, g4⟩ := x.hasB h1
      exact n_jZip g1 g2 (sndE a x h2 f.1).1 (sndE b x h3 f.2).1 h4 h5
    · cases h
theorem sndPop {i : Nat} {a : E rm.S} {X : Cx} {t : Sx} {W : WN} {e : Expr} (x : XC rm X k t cl W G GE GH) (h : chPop i a t e = true) (f : fnE G GE GH a) : PE X e (rdM W (.pop i a)) := by
  unfold chPop at h
  split at h
  · simp only [Bool.and_eq_true, decide_eq_true_eq] at h
    obtain ⟨⟨⟨⟨rfl, h1⟩, h2⟩, h3⟩, h4⟩ := h
    obtain ⟨y, p, e1, hv⟩ := x.nm h1
    cases e1
    exact n_pop hv (x.toP h2 (sndE a x h2 f).1) h3 h4
  · cases h
theorem sndCM {own : List Nat} {tg : Tg} {it : It rm.S} {i : Nat} {a : E rm.S} {X : Cx} {t : Sx} {W : WN} {e : Expr} (x : XC rm X k t cl W G GE GH) (h : chCM own tg it i a t e = true) (f : fnE G GE GH (.compM own tg it i a)) : PE X e (rdM W (.compM own tg it i a)) := by
  unfold chCM at h
  unfold fnE at f
  split at h
  · simp only [Bool.and_eq_true, decide_eq_true_eq] at h
    obtain ⟨⟨⟨⟨⟨⟨⟨rfl, h1⟩, h2⟩, h3⟩, h4⟩, h5⟩, h7⟩, h8⟩ := h
    exact (n_compM (ol := ownOf t own) h3 x.calm (by rw [x.hN]; exact x.nd) (sndJ it x h1 f.1) (by rw [x.hN, x.hs]; exact own_ix h2) (fun s H C cs fp => (x.blk s H _ cs C fp).tg h4) (fun s H C cs fp => sndPop (x.blk s H _ cs C fp) h5 f.2) h7 (tgS h8)).1
  · cases h
theorem sndM (c : E rm.S) {X : Cx} {t : Sx} {W : WN} {e : Expr} (x : XC rm X k t cl W G GE GH) (h : chM c t e = true) (f : fnE G GE GH c) : PE X e (rdM W c) := by
  unfold chM at h
  split at h
  · unfold fnE at f
    exact sndPop x h f
  · exact sndCM x h f
  · split at h
    · simp only [Bool.and_eq_true] at h
      unfold fnE fnEs fnEs at f
      have h2 := sndCM x h.1.2 f.2.1
      refine n_tp2M (sndE _ x h.1.1 f.1).1 h2 h.2 ?_
      have h12 := h.1.2
      unfold chCM at h12
      split at h12
      · rfl
      · cases h12
    · cases h
  · exact to_M (sndE _ x h f).1
theorem snd1 (c : St1 rm.S) {X : Cx} {t : Sx} {W : WN} {st : Stmt} (x : XC rm X k t cl W G GE GH) (gx : ∀ y n, GX y n → ExF X y (cl n)) (h : ch1 c t st = true) (f : fn1 G GE GH GX c) : PS X st (rd1 W c) := by
  have nd : X.N.Nodup := by rw [x.hN]; exact x.nd
  cases c with
  | nop =>
    dsimp only [ch1] at h
    split at h
    · exact n_pass
    · cases h
  | asg i c =>
    dsimp only [ch1] at h
    dsimp only [fn1] at f
    split at h
    · simp only [Bool.and_eq_true, decide_eq_true_eq] at h
      obtain ⟨⟨⟨h1, h2⟩, h3⟩, h4⟩ := h
      exact n_asgM nd (by rw [x.hN]; exact h1) (x.sto h2) (sndM c x h3 f) (swok_of x h4)
    · cases h
  | asgL i c =>
    dsimp only [ch1] at h
    dsimp only [fn1] at f
    split at h
    · split at h
      · unfold fnE at f
        simp only [Bool.and_eq_true, decide_eq_true_eq] at h
        obtain ⟨⟨⟨⟨⟨⟨⟨⟨⟨⟨⟨w1, w2⟩, w3⟩, rfl⟩, h1⟩, h2⟩, h3⟩, h4⟩, h5⟩, h6⟩, h7⟩, h8⟩ := h
        exact n_asgL (ol := ownOf t _) (by rw [x.hN]; exact w1) (by rw [x.hs]; exact w2) (by rw [swc_of, x.hs, w3]) h3 x.calm nd (sndI _ x h1 f.1) (by rw [x.hN, x.hs]; exact own_ix h2) (fun s H C cs fp => (x.blk s H _ cs C fp).tg h4) (fun s H C cs fp => sndC _ (x.blk s H _ cs C fp) h5 f.2.1) (fun s H C cs fp => (sndE _ (x.blk s H _ cs C fp) h6 f.2.2).1) h7 (tgS h8)
      · rename_i ifs _ _ _ _ _ _ _ _ _ _
        unfold fnE at f
        simp only [Bool.and_eq_true, decide_eq_true_eq] at h
        obtain ⟨⟨⟨⟨⟨⟨⟨⟨⟨⟨⟨w1, w2⟩, w3⟩, rfl⟩, w4⟩, h1⟩, h2⟩, h3⟩, h4⟩, h5⟩, h7⟩, h8⟩ := h
        have w5 := List.isEmpty_iff.mp w4
        subst w5
        exact n_asgLM (ol := ownOf t _) (by rw [x.hN]; exact w1) (by rw [x.hs]; exact w2) (by rw [swc_of, x.hs, w3]) h3 x.calm nd (sndJ _ x h1 f.1) (by rw [x.hN, x.hs]; exact own_ix h2) (fun s H C cs fp => (x.blk s H _ cs C fp).tg h4) (fun s H C cs fp => sndPop (x.blk s H _ cs C fp) h5 f.2) h7 (tgS h8)
      · cases h
    · cases h
  | asgH i φ c =>
    dsimp only [ch1] at h
    dsimp only [fn1] at f
    split at h
    · simp only [Bool.and_eq_true, decide_eq_true_eq] at h
      obtain ⟨⟨⟨h1, h2⟩, h3⟩, h4⟩ := h
      exact n_asgH (x.gh _ f.1) nd (by rw [x.hN]; exact h1) (x.sto h2) (sndE c x h3 f.2).1 h4
    · cases h
  | asgT is c =>
    dsimp only [ch1] at h
    dsimp only [fn1] at f
    split at h
    · simp only [Bool.and_eq_true, Bool.not_eq_true'] at h
      obtain ⟨⟨⟨⟨h1, h2⟩, h3⟩, h4⟩, h5⟩ := h
      exact n_asgT x.calm nd (x.tn h1) (sndE c x h2 f).1 h3 h4 h5
    · cases h
  | app i c =>
    dsimp only [ch1] at h
    dsimp only [fn1] at f
    split at h
    · simp only [Bool.and_eq_true, decide_eq_true_eq] at h
      obtain ⟨⟨⟨⟨h1, rfl⟩, h2⟩, h3⟩, h4⟩ := h
      obtain ⟨y, p, rfl, hv⟩ := x.nm h1
      exact n_app hv (sndE c x h2 f).1 h3 h4
    · cases h
  | ins i j c =>
    dsimp only [ch1] at h
    dsimp only [fn1] at f
    split at h
    · simp only [Bool.and_eq_true, decide_eq_true_eq] at h
      obtain ⟨⟨⟨⟨⟨⟨h1, rfl⟩, h2⟩, h3⟩, h4⟩, h5⟩, h6⟩ := h
      obtain ⟨y, p, rfl, hv⟩ := x.nm h1
      exact n_ins hv (x.toP h2 (sndE j x h2 f.1).1) (sndE c x h3 f.2).1 h4 h5 h6
    · cases h
  | setI i j c =>
    dsimp only [ch1] at h
    dsimp only [fn1] at f
    split at h
    · simp only [Bool.and_eq_true, Bool.not_eq_true'] at h
      obtain ⟨⟨⟨⟨⟨⟨h1, h2⟩, h3⟩, h4⟩, h5⟩, h6⟩, h7⟩ := h
      obtain ⟨y, p, rfl, hv⟩ := x.nm h1
      exact n_setI hv (x.toP h2 (sndE j x h2 f.1).1) (sndE c x h3 f.2).1 h4 h5 h6 h7
    · cases h
  | aug i o c =>
    dsimp only [ch1] at h
    dsimp only [fn1] at f
    split at h
    · simp only [Bool.and_eq_true, decide_eq_true_eq, Bool.or_eq_true] at h
      obtain ⟨⟨⟨⟨h1, h2⟩, rfl⟩, h3⟩, h4⟩ := h
      exact n_aug nd (by rw [x.hN]; exact h1) (x.sto h2) (x.toP h3 (sndE c x h3 f).1) h4
    · cases h
  | expr c =>
    dsimp only [ch1] at h
    dsimp only [fn1] at f
    split at h
    · simp only [Bool.and_eq_true, Bool.not_eq_true'] at h
      exact n_expr (sndE c x h.1.1 f).1 h.1.2 h.2
    · cases h
  | ret c =>
    dsimp only [ch1] at h
    dsimp only [fn1] at f
    split at h
    · cases c with
      | var i =>
        unfold chM chE at h
        obtain ⟨y, p, rfl, hv⟩ := x.nm h
        exact n_retV hv
      | _ => exact n_retM (sndM _ x h f) (fun i e => nomatch e)
    · cases h
  | brk =>
    dsimp only [ch1] at h
    split at h
    · exact n_brk
    · cases h
  | cnt =>
    dsimp only [ch1] at h
    split at h
    · exact n_cnt
    · cases h
  | never => exact n_never
  | raise y n =>
    dsimp only [ch1] at h
    dsimp only [fn1] at f
    split at h
    · simp only [Bool.and_eq_true, decide_eq_true_eq] at h
      obtain ⟨⟨rfl, h1⟩, h2⟩ := h
      exact n_raise x.calm x.tk (gx _ _ f) (x.gl h1) (plain3 h2).1
    · cases h
/-- a def's own context -/
structure FCx (X : Cx) : Prop where
  stk : X.stack = X.env :: X.outer
  frm : X.env.frame = some X.env.locals
  ext : X.ex = []
mutual
theorem sndS : ∀ (c : Sm rm.S) {X : Cx} {t : Sx} {W : WN} {st : Stmt}, XC rm X k t cl W G GE GH → (∀ y n, GX y n → ExF X y (cl n)) → (PassesOwn (model X.prog X.w) X.A X.env X.xe ∧ FCx X) → chS c t st = true → fnS G GE GH GX c → PS X st (rdS W c)
  | .one s, X, t, W, st, x, gx, hp, h, f => by
    unfold chS at h
    unfold fnS at f
    exact n_one (snd1 s x gx h f)
  | .ite c a b, X, t, W, st, x, gx, hp, h, f => by
    unfold chS at h
    unfold fnS at f
    split at h
    · simp only [Bool.and_eq_true] at h
      exact n_ite (sndE c x h.1.1 f.1).2 (sndSs a x gx hp h.1.2 f.2.1) (sndSs b x gx hp h.2 f.2.2)
    · cases h
  | .whl c b, X, t, W, st, x, gx, hp, h, f => by
    unfold chS at h
    unfold fnS at f
    split at h
    · simp only [Bool.and_eq_true] at h
      exact n_whl hp.1 (sndE c x h.1 f.1).2 (sndSs b x gx hp h.2 f.2)
    · cases h
  | .for tg it b, X, t, W, st, x, gx, hp, h, f => by
    unfold chS at h
    unfold fnS at f
    split at h
    · simp only [Bool.and_eq_true] at h
      exact n_for hp.1 x.calm (sndJ it x h.1.1.2 f.1) (x.tg h.1.1.1) (sndSs b x gx hp h.2 f.2) h.1.2
    · cases h
  | .tryC b i j c, X, t, W, st, x, gx, hp, h, f => by
    unfold chS at h
    unfold fnS at f
    split at h
    · simp only [Bool.and_eq_true, decide_eq_true_eq] at h
      obtain ⟨⟨⟨⟨⟨⟨⟨⟨h1, rfl⟩, h2⟩, h3⟩, h4⟩, h5⟩, h6⟩, h7⟩, h8⟩ := h
      have nd : X.N.Nodup := by rw [x.hN]; exact x.nd
      refine n_try (x.xt h1) (x.rx h1) hp.2.stk hp.2.frm hp.2.ext nd (by rw [x.hN]; exact h3) (by show X.env.scope.names.lookup _ = _; rw [x.hs]; exact h4) (x.gl h2) x.tk (fun W' pn xe t1 t2 => ?_) (fun a pn => ?_)
      · exact sndSs b (X := X.tr pn xe) { calm := x.calm, hN := x.hN, nd := x.nd, hs := x.hs, hf := x.hf, bn := x.bn, cn := x.cn, room := x.room, gd := x.gd, sm := x.sm, tk := t1, gp := x.gp, ge := x.ge, gh := x.gh, xt := x.xt, rx := x.rx } (fun y n z => let q := gx y n z; ⟨q.mg, q.ex, q.kp, q.sb, q.ty⟩) ⟨t2, hp.2.stk, hp.2.frm, hp.2.ext⟩ h7 f
      · split at h8
        · rename_i m
          unfold chNm at h8
          split at h8
          · rename_i y p
            rw [Bool.and_eq_true, Bool.and_eq_true, decide_eq_true_eq] at h8
            exact pss_one (n_asg (X := X.suite a pn) nd (by show X.N[j]? = _; rw [x.hN]; exact h5) (x.sto h6) (n_varE (X := X.suite a pn) (pe_var (X := X.suite a pn) (by show X.N[m]? = _; rw [x.hN]; exact h8.1.1) (x.vis h8.1.2) (plain3 h8.2).1 (plain3 h8.2).2.1)) (swap1 rfl rfl))
          · cases h8
        · cases h8
    · cases h
theorem sndSs : ∀ (c : Sms rm.S) {X : Cx} {t : Sx} {W : WN} {st : List Stmt}, XC rm X k t cl W G GE GH → (∀ y n, GX y n → ExF X y (cl n)) → (PassesOwn (model X.prog X.w) X.A X.env X.xe ∧ FCx X) → chSs c t st = true → fnSs G GE GH GX c → PSs X st (rdSs W c)
  | .nil, X, t, W, st, x, gx, hp, h, f => by
    unfold chSs at h
    split at h
    · exact n_nil
    · cases h
  | .cons a r, X, t, W, st, x, gx, hp, h, f => by
    unfold chSs at h
    unfold fnSs at f
    split at h
    · simp only [Bool.and_eq_true] at h
      exact n_cons (sndS a x gx hp h.1 f.1) (sndSs r x gx hp h.2 f.2)
    · cases h
end
end
end Ac
namespace Ac
open PySem PySem.Spec PyProof.Rows L2
/-! ### a def by its tree -/
/-- the names at the entry -/
def entry (n : Nat) (vs : List Val) : Ctx := vs.map some ++ List.replicate (n - vs.length) none
theorem look_get : ∀ {Γ : Ctx} {i : Nat}, look Γ i = (Γ[i]?).bind id
  | [], _ => rfl
  | v :: r, 0 => by cases v <;> rfl
  | _ :: r, i + 1 => by
    show look r i = _
    rw [look_get (Γ := r)]
    rfl
theorem look_entry {n : Nat} {vs : List Val} {i : Nat} {v : Val} (h : look (entry n vs) i = some v) : vs[i]? = some v := by
  rw [look_get] at h
  unfold entry at h
  by_cases hi : i < vs.length
  · rw [List.getElem?_append_left (by simpa using hi), List.getElem?_map] at h
    cases e : vs[i]? with
    | none => rw [e] at h; cases h
    | some w => rw [e] at h; exact h
  · rw [List.getElem?_append_right (by simpa using hi), List.getElem?_replicate] at h
    split at h <;> cases h
theorem start_get {N : List Str} {vs : List V} {i : Nat} {x : V} (h : vs[i]? = some x) : (L2.start N vs)[i]? = some (some x) := by
  have hi : i < vs.length := (List.getElem?_eq_some_iff.mp h).1
  unfold L2.start
  rw [List.getElem?_append_left (by simpa using hi), List.getElem?_map, h]
  rfl
theorem entry_len {N : List Str} {vs : List V} {ws : List Val} (h : vs.length = ws.length) : (entry N.length ws).length = (L2.start N vs).length := by
  unfold entry L2.start
  rw [List.length_append, List.length_append, List.length_map, List.length_map, List.length_replicate, List.length_replicate, h]
def GoodP0 (cl : Nat → Addr) (P : Program) (w : World) (K : PySem.W.Frag) (mg : Str → Option Value) (base : Heap) (k : Nat) (x : Str) (φ : Summ) : Prop := ∃ f fd ps, FnG P w K mg base k f fd ps (spP cl φ) ∧ mg x = some (.ref f) ∧ PySem.W.keepIn K (.ref f) = true ∧ Binds K fd ps []
def GoodE0 (rm : RM) (cl : Nat → Addr) (P : Program) (w : World) (K : PySem.W.Frag) (mg : Str → Option Value) (base : Heap) (k : Nat) (x : Str) (φ : ESumm rm.S) : Prop := ∃ f fd ps, FnG P w K mg base k f fd ps (spE rm cl φ) ∧ mg x = some (.ref f) ∧ PySem.W.keepIn K (.ref f) = true ∧ Binds K fd ps []
theorem GoodP0.mono {cl : Nat → Addr} {P : Program} {w : World} {K : PySem.W.Frag} {mg : Str → Option Value} {base : Heap} {j k : Nat} {x : Str} {φ : Summ} (h : GoodP0 cl P w K mg base j x φ) (hk : j ≤ k) : GoodP0 cl P w K mg base k x φ :=
  let ⟨f, fd, ps, a, b⟩ := h; ⟨f, fd, ps, a.mono hk, b⟩
theorem GoodE0.mono {rm : RM} {cl : Nat → Addr} {P : Program} {w : World} {K : PySem.W.Frag} {mg : Str → Option Value} {base : Heap} {j k : Nat} {x : Str} {φ : ESumm rm.S} (h : GoodE0 rm cl P w K mg base j x φ) (hk : j ≤ k) : GoodE0 rm cl P w K mg base k x φ :=
  let ⟨f, fd, ps, a, b⟩ := h; ⟨f, fd, ps, a.mono hk, b⟩
structure ExF0 (K : PySem.W.Frag) (mg : Str → Option Value) (x : Str) (C : Addr) : Prop where
  mg : mg x = some (.ref C)
  ex : PySem.W.excIn K C [.type "ValueError", .type "Exception", .type "BaseException", .type "object"] "ValueError.__new__" = true
  kp : PySem.W.keepIn K (.ref C) = true
  sb : PySem.W.subIn K (.ref C) (.type "BaseException") = some true
  ty : PySem.W.typeIn K (.ref C) = some (.type "type")
/-- what a law's top has left: by names -/
structure Top (K : PySem.W.Frag) (mg : Str → Option Value) (base : Heap) (bn : List Str) (cn : List (Str × Int)) (GX : Str → Nat → Prop) (cl : Nat → Addr) : Prop where
  sm : SmB base
  bn : ∀ x ∈ bn, mg x = none
  cn : ∀ x i, cn.lookup x = some i → ∃ u, mg x = some (.int i u)
  gx : ∀ x n, GX x n → ExF0 K mg x (cl n)
section
variable {P : Program} {w : World} {K : PySem.W.Frag} {mg : Str → Option Value} {base : Heap} {cl : Nat → Addr} {bn : List Str} {cn : List (Str × Int)} {GX : Str → Nat → Prop}
def txt (N : List Str) (sc : Scope) (bn : List Str) (cn : List (Str × Int)) (xb : Bool := false) : Sx := ⟨N, sc, fun _ => true, bn, cn, xb⟩
def fxP (H F : Hp) : Fx rm0 := ⟨fun a => match F a with | none => H a | some _ => none, F, ()⟩
theorem fxP_sub {H F : Hp} {σ : L2.St} {H' F' : Hp} {Γ : Ctx} {s : rm0.S} {A : rm0.A} (fh : Sub F H) (R : SR (fxP H F) σ H' Γ s F' A) : Sub H H' ∧ Sub F F' ∧ Sub F' H' ∧ ∀ a, H a ≠ none → F' a = F a := by
  refine ⟨fun a o e => ?_, R.f0, R.fh, fun a ha => ?_⟩
  · cases q : F a with
    | some u =>
      have := fh a u q
      rw [e] at this
      cases this
      exact R.fh _ _ (R.f0 a _ q)
    | none => exact (R.lk a o (by show (match F a with | none => H a | some _ => none) = some o; rw [q]; exact e)).1
  · cases q : F a with
    | some u => exact R.f0 a u q
    | none =>
      cases e : H a with
      | none => exact absurd e ha
      | some o => exact (R.lk a o (by show (match F a with | none => H a | some _ => none) = some o; rw [q]; exact e)).2.1
theorem fn_good {x : Str} {st : Stmt} {f : Addr} {fd : FuncData} {N ps : List Str} {k : Nat} {φ : Summ} {G : Str → Summ → Prop} (F : Fun K x x st f fd) (hm : mg x = some (.ref f)) (S : FnScope N ps (defScope st)) (hb : Binds K fd ps [])
    (T : Top K mg base bn cn GX cl) (gp : ∀ y ψ, G y ψ → GoodP0 cl P w K mg base k y ψ) (body : Sms rm0.S) (hc : chSs body (txt N (defScope st) bn cn) (defBody st) = true) (hf : fnSs G (fun _ _ => False) (fun _ => False) GX body)
    (hw : ∀ ds Q Y, φ.run ds Q Y → ds.length = ps.length ∧ wSs body (entry N.length (ds.map .dat)) () { nx := fun _ _ => Q (.dat .none), rt := fun v _ => Q v, ex := fun n _ _ => Y n }) : GoodP0 cl P w K mg base (k + 1) x φ := by
  refine ⟨f, fd, ps, fnG_of F S (fun vs H Q E h => ?_) (fun cdv A outer s H vs Q E hr hgd h => ?_), hm, F.kp, hb⟩
  · obtain ⟨F0, ds, fh, rl, q⟩ := h
    rw [rl.length]
    exact (hw ds _ _ q).1
  · obtain ⟨F0, ds, fh, rl, q⟩ := h
    obtain ⟨hl, q⟩ := hw ds _ _ q
    have tk : Takes (cxOf (L2.CX P w) P w K mg base N x (defScope st) f cdv A outer s H E) (fun cls d _ H => E cls d H) := takes_of rfl rfl rfl rfl
    have xx : XC rm0 (cxOf (L2.CX P w) P w K mg base N x (defScope st) f cdv A outer s H E) k (txt N (defScope st) bn cn) cl (fun n _ H' => E (.ref (cl n)) none H') G (fun _ _ => False) (fun _ => False) :=
      { calm := rfl, hN := rfl, nd := S.nd, hs := rfl, hf := fun _ _ => rfl, bn := T.bn, cn := T.cn, room := hr, gd := hgd, sm := T.sm, tk := tk.imp fun c d σ H ⟨n, e1, e2, h⟩ => (by rw [e1, e2]; exact h), gp := gp, ge := fun _ _ h => h.elim, gh := fun _ h => h.elim, xt := (fun h => nomatch h), rx := (fun h => nomatch h) }
    refine ⟨_, sndSs body xx (fun y n h => let e := T.gx y n h; ⟨e.mg, e.ex, e.kp, e.sb, e.ty⟩) ⟨passes_of rfl, rfl, rfl, rfl⟩ hc hf, ?_⟩
    refine ⟨fxP H F0, entry N.length (ds.map .dat), (), F0, (), ?_, _, ?_, q⟩
    · exact {
        fh := fh
        fz := fun a o e n => n
        f0 := Sub.refl F0
        lk := fun a o e => by
          have e' : (match F0 a with | none => H a | some _ => none) = some o := e
          cases q : F0 a with
          | none => rw [q] at e'; exact ⟨e', rfl, fun n => n⟩
          | some u => rw [q] at e'; cases e'
        a0 := trivial
        ok := trivial
        ln := entry_len (by rw [List.length_map]; exact rl.length)
        sl := fun i v e => by
          have e' := look_entry e
          rw [List.getElem?_map] at e'
          cases q : ds[i]? with
          | none => rw [q] at e'; cases e'
          | some d =>
            rw [q] at e'
            cases e'
            obtain ⟨y, h1, h2⟩ := rl.get q
            exact ⟨y, start_get h1, h2⟩
        dj := fun i j a xs ys e1 e2 s1 s2 => by
          have e' := look_entry e1
          rw [List.getElem?_map] at e'
          cases q : ds[i]? with
          | none => rw [q] at e'; cases e'
          | some d => rw [q] at e'; cases e' }
    · exact {
        nx := fun Γ s σ H' F' A R q => by
          obtain ⟨h1, h2, h3, h4⟩ := fxP_sub fh R
          exact q .non H' F' h1 h2 h3 h4 Rp.non
        rt := fun v y Γ s σ H' F' A R rv q => by
          obtain ⟨h1, h2, h3, h4⟩ := fxP_sub fh R
          refine q y H' F' h1 h2 h3 h4 ?_
          cases v with
          | dat d => exact rv
          | own ys => exact rv.elim
          | hdl n => exact rv.elim
          | new ys =>
            obtain ⟨p, vs, e1, e2, e3, e4, e5, e6, _⟩ := rv
            refine ⟨p, vs, e1, e2, e3, ?_, e6⟩
            have e5' : (match F0 p with | none => H p | some _ => none) = none := e5
            cases q : F0 p with
            | none => rw [q] at e5'; exact e5'
            | some u => rw [h2 p u q] at e3; cases e3
        bk := fun Γ s σ H F A R q => q
        ct := fun Γ s σ H F A R q => q
        ex := fun n Γ s σ H' F' A R q => q H' (fxP_sub fh R).1 }
/-! ### a def with a state -/
noncomputable def fxE (rm : RM) (H F : Hp) (A : rm.A) : Fx rm := ⟨fun a => @ite _ (F a = none ∧ ¬ rm.ft A a) (Classical.propDecidable _) (H a) none, F, A⟩
theorem fxE_L {rm : RM} {H F : Hp} {A : rm.A} {a : Addr} {o : HO} (h : H a = some o) (hf : F a = none) (hn : ¬ rm.ft A a) : (fxE rm H F A).L a = some o := by
  unfold fxE
  show @ite _ (F a = none ∧ ¬ rm.ft A a) (Classical.propDecidable _) (H a) none = some o
  rw [if_pos ⟨hf, hn⟩]
  exact h
theorem fxE_of {rm : RM} {H F : Hp} {A : rm.A} {a : Addr} {o : HO} (h : (fxE rm H F A).L a = some o) : H a = some o ∧ F a = none ∧ ¬ rm.ft A a := by
  have h' : @ite _ (F a = none ∧ ¬ rm.ft A a) (Classical.propDecidable _) (H a) none = some o := h
  by_cases c : F a = none ∧ ¬ rm.ft A a
  · rw [if_pos c] at h'; exact ⟨h', c⟩
  · rw [if_neg c] at h'; cases h'
theorem fxE_sub {rm : RM} {H F : Hp} {A0 : rm.A} {σ : L2.St} {H' F' : Hp} {Γ : Ctx} {s : rm.S} {A : rm.A} (fh : Sub F H) (fz : ∀ a o, F a = some o → ¬ rm.ft A0 a) (R : SR (fxE rm H F A0) σ H' Γ s F' A) :
    HX H A0 H' A ∧ Sub F F' ∧ Sub F' H' ∧ (∀ a o, F' a = some o → ¬ rm.ft A a) ∧ ∀ a, H a ≠ none → ¬ rm.ft A0 a → F' a = F a := by
  refine ⟨⟨R.a0, fun a o e n => ?_⟩, R.f0, R.fh, R.fz, fun a ha n => ?_⟩
  · cases q : F a with
    | some u =>
      have := fh a u q
      rw [e] at this
      cases this
      exact ⟨R.fh _ _ (R.f0 a _ q), R.fz _ _ (R.f0 a _ q)⟩
    | none =>
      obtain ⟨h1, h2, h3⟩ := R.lk a o (fxE_L e q n)
      exact ⟨h1, h3⟩
  · cases q : F a with
    | some u => exact R.f0 a u q
    | none =>
      cases e : H a with
      | none => exact absurd e ha
      | some o => exact (R.lk a o (fxE_L e q n)).2.1
theorem RHL.get {rm : RM} {F : Hp} {A : rm.A} : ∀ {vs : List V} {ws : List Val} {i : Nat} {w : Val}, RHL F A vs ws → ws[i]? = some w → ∃ x, vs[i]? = some x ∧ RH F A x w
  | _, _, _, _, .nil, e => by simp at e
  | _, _, 0, _, .cons h _, e => by simp at e; subst e; exact ⟨_, rfl, h⟩
  | _, _, i + 1, y, .cons _ t, e => by
    obtain ⟨u, h1, h2⟩ := RHL.get (i := i) (w := y) t (by simpa using e)
    exact ⟨u, by simpa using h1, h2⟩
theorem fn_okE {rm : RM} {x : Str} {st : Stmt} {f : Addr} {fd : FuncData} {N ps : List Str} {k : Nat} {φ : ESumm rm.S} {G : Str → Summ → Prop} {GE : Str → ESumm rm.S → Prop} (F : Fun K x x st f fd) (S : FnScope N ps (defScope st))
    (T : Top K mg base bn cn GX cl) (gp : ∀ y ψ, G y ψ → GoodP0 cl P w K mg base k y ψ) (ge : ∀ y ψ, GE y ψ → GoodE0 rm cl P w K mg base k y ψ) {xb : Bool} (hxb : xb = true → XTop K mg cl ∧ RMX rm cl) (body : Sms rm.S) (hc : chSs body (txt N (defScope st) bn cn xb) (defBody st) = true) (hf : fnSs G GE (HOk rm) GX body)
    (hw : ∀ ws s Q Y, φ.run ws s Q Y → ws.length = ps.length ∧ wSs body (entry N.length ws) s { nx := fun _ s' => Q (.dat .none) s', rt := fun v s' => Q v s', ex := fun n _ s' => Y n s' }) : FnG P w K mg base (k + 1) f fd ps (spE rm cl φ) := by
  refine fnG_of F S (fun vs H Q E h => ?_) (fun cdv A outer s H vs Q E hr hgd h => ?_)
  · obtain ⟨F0, A0, s0, ws, fh, fz, ok, rl, q⟩ := h
    rw [Paired.length rl]
    exact (hw ws s0 _ _ q).1
  · obtain ⟨F0, A0, s0, ws, fh, fz, ok, rl, q⟩ := h
    obtain ⟨hl, q⟩ := hw ws s0 _ _ q
    have tk : Takes (cxOf (L2.CX P w) P w K mg base N x (defScope st) f cdv A outer s H E) (fun cls d _ H => E cls d H) := takes_of rfl rfl rfl rfl
    have xx : XC rm (cxOf (L2.CX P w) P w K mg base N x (defScope st) f cdv A outer s H E) k (txt N (defScope st) bn cn xb) cl (fun n _ H' => E (.ref (cl n)) none H') G GE (HOk rm) :=
      { calm := rfl, hN := rfl, nd := S.nd, hs := rfl, hf := fun _ _ => rfl, bn := T.bn, cn := T.cn, room := hr, gd := hgd, sm := T.sm, tk := tk.imp fun c d σ H ⟨n, e1, e2, h⟩ => (by rw [e1, e2]; exact h), gp := gp, ge := ge, gh := fun _ h => h, xt := fun h => (hxb h).1, rx := fun h => (hxb h).2 }
    refine ⟨_, sndSs body xx (fun y n h => let e := T.gx y n h; ⟨e.mg, e.ex, e.kp, e.sb, e.ty⟩) ⟨passes_of rfl, rfl, rfl, rfl⟩ hc hf, ?_⟩
    refine ⟨fxE rm H F0 A0, entry N.length ws, s0, F0, A0, ?_, _, ?_, q⟩
    · exact {
        fh := fh
        fz := fz
        f0 := Sub.refl F0
        lk := fun a o e => fxE_of e
        a0 := rm.le_refl A0
        ok := ok
        ln := entry_len (Paired.length rl)
        sl := fun i v e => by
          have e' := look_entry e
          obtain ⟨y, h1, h2⟩ := RHL.get rl e'
          refine ⟨y, start_get h1, ?_⟩
          cases v with
          | dat d => exact h2
          | own _ => exact h2.elim
          | new _ => exact h2.elim
          | hdl n => exact h2
        dj := fun i j a xs ys e1 e2 s1 s2 => by
          have e' := look_entry e1
          obtain ⟨y, h1, h2⟩ := RHL.get rl e'
          exact h2.elim }
    · exact {
        nx := fun Γ s σ H' F' A R q => by
          obtain ⟨h1, h2, h3, h4, h5⟩ := fxE_sub fh fz R
          exact q .non H' F' A h1 h2 h3 h4 h5 R.ok Rp.non
        rt := fun v y Γ s σ H' F' A R rv q => by
          obtain ⟨h1, h2, h3, h4, h5⟩ := fxE_sub fh fz R
          refine q y H' F' A h1 h2 h3 h4 h5 R.ok ?_
          cases v with
          | dat d => exact rv
          | own ys => exact rv.elim
          | hdl n => exact rv
          | new ys =>
            obtain ⟨p, vs, e1, e2, e3, e4, e5, e6, _⟩ := rv
            refine ⟨p, vs, e1, e2, e3, ?_, e4, e6⟩
            cases q : H p with
            | none => rfl
            | some o =>
              have n1 : ¬ rm.ft A0 p := fun n => e4 (rm.le_ft R.a0 n)
              cases z : F0 p with
              | some u => rw [h2 p u z] at e3; cases e3
              | none => rw [fxE_L q z n1] at e5; cases e5
        bk := fun Γ s σ H F A R q => q
        ct := fun Γ s σ H F A R q => q
        ex := fun n Γ s σ H' F' A R q => q H' A (fxE_sub fh fz R).1 R.ok }
theorem fn_goodE {rm : RM} {x : Str} {st : Stmt} {f : Addr} {fd : FuncData} {N ps : List Str} {k : Nat} {φ : ESumm rm.S} {G : Str → Summ → Prop} {GE : Str → ESumm rm.S → Prop} (F : Fun K x x st f fd) (hm : mg x = some (.ref f)) (S : FnScope N ps (defScope st)) (hb : Binds K fd ps [])
    (T : Top K mg base bn cn GX cl) (gp : ∀ y ψ, G y ψ → GoodP0 cl P w K mg base k y ψ) (ge : ∀ y ψ, GE y ψ → GoodE0 rm cl P w K mg base k y ψ) {xb : Bool} (hxb : xb = true → XTop K mg cl ∧ RMX rm cl) (body : Sms rm.S) (hc : chSs body (txt N (defScope st) bn cn xb) (defBody st) = true) (hf : fnSs G GE (HOk rm) GX body)
    (hw : ∀ ws s Q Y, φ.run ws s Q Y → ws.length = ps.length ∧ wSs body (entry N.length ws) s { nx := fun _ s' => Q (.dat .none) s', rt := fun v s' => Q v s', ex := fun n _ s' => Y n s' }) : GoodE0 rm cl P w K mg base (k + 1) x φ :=
  ⟨f, fd, ps, fn_okE F S T gp ge hxb body hc hf hw, hm, F.kp, hb⟩
end
end Ac
namespace Ac
open PySem PySem.Spec PyProof.Rows L2
/-! ### data of bounded depth; data whose == is = -/
def scalB : D → Bool
  | .none | .bool _ | .int _ => true
  | .str x => PyData.strOk x
  | _ => false
def okD : Nat → D → Bool
  | 0, d => scalB d
  | k + 1, d => (match d with
    | .list xs => xs.all (okD k)
    | .tuple xs => xs.all (okD k)
    | d => scalB d)
theorem okD_lay : ∀ (k : Nat) (d : D), okD k d = true → d.canLay0 = true ∧ d.depth ≤ k + 1
  | 0, d, h => by cases d <;> simp_all [okD, scalB, PyData.canLay0, PyData.depth]
  | k + 1, .list xs, h => by
    have h' : xs.all (okD k) = true := h
    have : ∀ ys : List D, ys.all (okD k) = true → PyData.canLayAll0 ys = true ∧ PyData.depthAll ys ≤ k + 1 := by
      intro ys
      induction ys with
      | nil => intro _; exact ⟨rfl, Nat.zero_le _⟩
      | cons y r ih =>
        intro h
        rw [List.all_cons, Bool.and_eq_true] at h
        have a := okD_lay k y h.1
        have b := ih h.2
        refine ⟨?_, ?_⟩
        · simp only [PyData.canLayAll0, Bool.and_eq_true]; exact ⟨a.1, b.1⟩
        · simp only [PyData.depthAll]; omega
    have t := this xs h'
    refine ⟨?_, ?_⟩
    · simp only [PyData.canLay0]; exact t.1
    · simp only [PyData.depth]; omega
  | k + 1, .tuple xs, h => by
    have h' : xs.all (okD k) = true := h
    have : ∀ ys : List D, ys.all (okD k) = true → PyData.canLayAll0 ys = true ∧ PyData.depthAll ys ≤ k + 1 := by
      intro ys
      induction ys with
      | nil => intro _; exact ⟨rfl, Nat.zero_le _⟩
      | cons y r ih =>
        intro h
        rw [List.all_cons, Bool.and_eq_true] at h
        have a := okD_lay k y h.1
        have b := ih h.2
        refine ⟨?_, ?_⟩
        · simp only [PyData.canLayAll0, Bool.and_eq_true]; exact ⟨a.1, b.1⟩
        · simp only [PyData.depthAll]; omega
    have t := this xs h'
    refine ⟨?_, ?_⟩
    · simp only [PyData.canLay0]; exact t.1
    · simp only [PyData.depth]; omega
  | k + 1, .none, h => by simp [PyData.canLay0, PyData.depth]
  | k + 1, .bool _, h => by simp [PyData.canLay0, PyData.depth]
  | k + 1, .int _, h => by simp [PyData.canLay0, PyData.depth]
  | k + 1, .str _, h => by
    have h' : PyData.strOk _ = true := h
    simp [PyData.canLay0, PyData.depth, h']
  | k + 1, .dict _, h => by cases h
theorem okD_shaped {k : Nat} {d : D} (h : okD k d = true) (hk : k ≤ 60) : SeqAt.shaped d = true := by
  obtain ⟨a, b⟩ := okD_lay k d h
  unfold SeqAt.shaped
  rw [a, Bool.true_and, decide_eq_true_eq]
  omega
mutual
def clean : D → Bool
  | .none | .int _ | .str _ => true
  | .list xs => cleanL xs
  | .tuple xs => cleanL xs
  | _ => false
def cleanL : List D → Bool
  | [] => true
  | x :: r => clean x && cleanL r
end
mutual
theorem eqv_clean : ∀ (x y : D), clean x = true → clean y = true → (PyData.eqv x y = true ↔ x = y)
  | .none, y, _, hy => by cases y <;> simp_all [PyData.eqv, clean]
  | .bool _, _, hx, _ => by simp [clean] at hx
  | .int i, y, _, hy => by cases y <;> simp_all [PyData.eqv, clean]
  | .str i, y, _, hy => by cases y <;> simp_all [PyData.eqv, clean]
  | .dict _, _, hx, _ => by simp [clean] at hx
  | .list xs, y, hx, hy => by
    cases y with
    | list ys =>
      simp only [clean] at hx hy
      simp only [PyData.eqv, PyData.list.injEq]
      exact eqvAll_clean xs ys hx hy
    | _ => simp_all [PyData.eqv, clean]
  | .tuple xs, y, hx, hy => by
    cases y with
    | tuple ys =>
      simp only [clean] at hx hy
      simp only [PyData.eqv, PyData.tuple.injEq]
      exact eqvAll_clean xs ys hx hy
    | _ => simp_all [PyData.eqv, clean]
theorem eqvAll_clean : ∀ (x y : List D), cleanL x = true → cleanL y = true → (PyData.eqvAll x y = true ↔ x = y)
  | [], [], _, _ => by simp [PyData.eqvAll]
  | [], _ :: _, _, _ => by simp [PyData.eqvAll]
  | _ :: _, [], _, _ => by simp [PyData.eqvAll]
  | x :: xs, y :: ys, hx, hy => by
    simp only [cleanL, Bool.and_eq_true] at hx hy
    simp only [PyData.eqvAll, Bool.and_eq_true, List.cons.injEq]
    rw [eqv_clean x y hx.1 hy.1, eqvAll_clean xs ys hx.2 hy.2]
end
theorem cleanL_all {xs : List D} (h : ∀ x ∈ xs, clean x = true) : cleanL xs = true := by
  induction xs with
  | nil => rfl
  | cons x r ih =>
    simp only [cleanL, Bool.and_eq_true]
    exact ⟨h x List.mem_cons_self, ih fun y hy => h y (List.mem_cons_of_mem _ hy)⟩
@[simp] theorem eqD_nil {xs : List D} {k : Bool → Prop} : eqD (.list xs) (.list []) k = k xs.isEmpty := by
  cases xs <;> rfl
/-- what is of bounded depth and clean -/
def okc (d : D) : Bool := okD 8 d && clean d
theorem eqD_okc {x y : D} {k : Bool → Prop} (hx : okc x = true) (hy : okc y = true) (h1 : x = y → k true) (h2 : x ≠ y → k false) : eqD x y k := by
  unfold okc at hx hy
  rw [Bool.and_eq_true] at hx hy
  have key : ∀ b, (b = true ↔ x = y) → k b := fun b hb => by
    cases b with
    | true => exact h1 (hb.mp rfl)
    | false => exact h2 fun e => Bool.noConfusion (hb.mpr e)
  have sx := okD_shaped hx.1 (by decide)
  have sy := okD_shaped hy.1 (by decide)
  have ev := eqv_clean x y hx.2 hy.2
  unfold eqD
  split
  · exact key _ (by rw [decide_eq_true_eq]; simp)
  · exact key _ (by rw [decide_eq_true_eq]; simp)
  · exact key _ (by rw [decide_eq_true_eq]; simp)
  · exact key _ (by simp)
  · exact key _ (by simp)
  · exact key _ (by simp)
  · exact ⟨sx, sy, key _ ev⟩
theorem okc_int (i : Int) : okc (.int i) = true := rfl
theorem okD_mono : ∀ {j k : Nat} {d : D}, okD j d = true → j ≤ k → okD k d = true
  | 0, 0, _, h, _ => h
  | 0, k + 1, d, h, _ => by cases d <;> first | rfl | exact h | cases h
  | j + 1, 0, _, _, hk => absurd hk (Nat.not_succ_le_zero j)
  | j + 1, k + 1, d, h, hk => by
    have hk' := Nat.le_of_succ_le_succ hk
    cases d with
    | list xs =>
      have h' : xs.all (okD j) = true := h
      exact List.all_eq_true.mpr fun x hx => okD_mono (List.all_eq_true.mp h' x hx) hk'
    | tuple xs =>
      have h' : xs.all (okD j) = true := h
      exact List.all_eq_true.mpr fun x hx => okD_mono (List.all_eq_true.mp h' x hx) hk'
    | dict _ => cases h
    | str _ => exact h
    | _ => rfl
/-! ### single steps, by rfl -/
theorem sv_i {i : Int} : scalV (.dat (.int i)) = true := rfl
theorem sv_b {i : Bool} : scalV (.dat (.bool i)) = true := rfl
theorem sv_s {i : Str} : scalV (.dat (.str i)) = true := rfl
theorem sv_0 : scalV (.dat .none) = true := rfl
theorem sv_l {xs : List D} : scalV (.dat (.list xs)) = false := rfl
theorem sv_t {xs : List D} : scalV (.dat (.tuple xs)) = false := rfl
theorem sv_d {xs : List (D × D)} : scalV (.dat (.dict xs)) = false := rfl
theorem sv_n {xs : List D} : scalV (.new xs) = false := rfl
section
variable {S : Type}
@[simp] theorem asD_d {d : D} {k : D → Prop} : asD (.dat d) k = k d := rfl
@[simp] theorem asD_n {xs : List D} {k : D → Prop} : asD (.new xs) k = k (.list xs) := rfl
@[simp] theorem rdO_d {d : D} {k : D → Prop} : rdO (some (.dat d)) k = k d := rfl
@[simp] theorem rdO_o {xs : List D} {k : D → Prop} : rdO (some (.own xs)) k = k (.list xs) := rfl
@[simp] theorem boolD_b {b : Bool} {k : Bool → Prop} : boolD (.bool b) k = k b := rfl
@[simp] theorem relD_i {f : Int → Int → Bool} {i j : Int} {k : Val → Prop} : relD f (.int i) (.int j) k = k (.dat (.bool (f i j))) := rfl
@[simp] theorem addD_i {i j : Int} {k : Val → Prop} : addD (.int i) (.int j) k = k (.dat (.int (i + j))) := rfl
@[simp] theorem addD_l {i j : List D} {k : Val → Prop} : addD (.list i) (.list j) k = (i.length + j.length ≤ big ∧ k (.new (i ++ j))) := rfl
@[simp] theorem subD_i {i j : Int} {k : Val → Prop} : subD (.int i) (.int j) k = k (.dat (.int (i - j))) := rfl
@[simp] theorem intD_i {C : Int → Int → Prop} {f : Int → Int → Int} {i j : Int} {k : Val → Prop} : intD C f (.int i) (.int j) k = (C i j ∧ k (.dat (.int (f i j)))) := rfl
@[simp] theorem lenD_l {xs : List D} {k : Val → Prop} : lenD [.list xs] k = k (.dat (.int xs.length)) := rfl
@[simp] theorem lenD_t {xs : List D} {k : Val → Prop} : lenD [.tuple xs] k = k (.dat (.int xs.length)) := rfl
@[simp] theorem isD_1 {f : D → Bool} {d : D} {k : Val → Prop} : isD f [d] k = k (.dat (.bool (f d))) := rfl
@[simp] theorem listD_l {xs : List D} {k : Val → Prop} : listD [.list xs] k = k (.new xs) := rfl
@[simp] theorem listD_t {xs : List D} {k : Val → Prop} : listD [.tuple xs] k = k (.new xs) := rfl
@[simp] theorem tupleD_l {xs : List D} {k : Val → Prop} : tupleD [.list xs] k = k (.dat (.tuple xs)) := rfl
@[simp] theorem int2D_i {f : Int → Int → Int} {i j : Int} {k : Val → Prop} : int2D f [.int i, .int j] k = k (.dat (.int (f i j))) := rfl
@[simp] theorem absD_i {i : Int} {k : Val → Prop} : absD [.int i] k = k (.dat (.int (if i < 0 then -i else i))) := rfl
@[simp] theorem toIntD_i {i : Int} {k : Val → Prop} : toIntD [.int i] k = k (.dat (.int i)) := rfl
@[simp] theorem toIntD_b {b : Bool} {k : Val → Prop} : toIntD [.bool b] k = k (.dat (.int (if b then 1 else 0))) := rfl
@[simp] theorem eqD_i {i j : Int} {k : Bool → Prop} : eqD (.int i) (.int j) k = k (decide (i = j)) := rfl
@[simp] theorem eqD_b {i j : Bool} {k : Bool → Prop} : eqD (.bool i) (.bool j) k = k (decide (i = j)) := rfl
@[simp] theorem eqD_s {i j : Str} {k : Bool → Prop} : eqD (.str i) (.str j) k = k (decide (i = j)) := rfl
@[simp] theorem rngD_1 {n : Int} {k : List D → Prop} : rngD [.int n] k = ((-(2 ^ 62) ≤ n ∧ n < 2 ^ 62) ∧ k ((List.range n.toNat).map fun i => .int (i : Nat))) := rfl
@[simp] theorem rngD_2 {a b : Int} {k : List D → Prop} : rngD [.int a, .int b] k = ((-(2 ^ 62) ≤ a ∧ a < 2 ^ 62 ∧ -(2 ^ 62) ≤ b ∧ b < 2 ^ 62) ∧ k ((List.range (b - a).toNat).map fun i => .int (a + (i : Nat)))) := rfl
@[simp] theorem seqD_l {xs : List D} {k : List D → Prop} : seqD (.list xs) k = k xs := rfl
@[simp] theorem seqD_t {xs : List D} {k : List D → Prop} : seqD (.tuple xs) k = k xs := rfl
@[simp] theorem lstD_l {xs : List D} {k : List D → Prop} : lstD (.list xs) k = k xs := rfl
@[simp] theorem ixX_l {xs : List D} {i : Int} {k : D → Prop} : ixX (.list xs) (.int i) k = ixD xs i k := rfl
@[simp] theorem ixX_t {xs : List D} {i : Int} {k : D → Prop} : ixX (.tuple xs) (.int i) k = ixD xs i k := rfl
@[simp] theorem negX_i {i : Int} {k : Val → Prop} : negX (.int i) k = k (.dat (.int (-i))) := rfl
@[simp] theorem slX_l {xs : List D} {l h : Option Int} {k : Val → Prop} : slX (.list xs) l h k = k (.new (cutD xs l h)) := rfl
@[simp] theorem rvX_l {xs : List D} {k : Val → Prop} : rvX (.list xs) k = k (.new xs.reverse) := rfl
@[simp] theorem repX_i {ds : List D} {j : Int} {k : Val → Prop} : repX ds (.int j) k = ((-100000 ≤ j ∧ j ≤ 100000 ∧ ds.length * j.toNat ≤ big) ∧ k (.new (List.replicate j.toNat ds).flatten)) := rfl
@[simp] theorem intX_i {i : Int} {k : Int → Prop} : intX (.int i) k = k i := rfl
@[simp] theorem look_0 {v : Option Val} {r : Ctx} : look (v :: r) 0 = v := rfl
@[simp] theorem look_s {v : Option Val} {r : Ctx} {i : Nat} : look (v :: r) (i + 1) = look r i := rfl
@[simp] theorem put_0 {v w : Option Val} {r : Ctx} : put (v :: r) 0 w = w :: r := rfl
@[simp] theorem put_s {v w : Option Val} {r : Ctx} {i : Nat} : put (v :: r) (i + 1) w = v :: put r i w := rfl
end
/-! ### summaries by functions -/
def Summ.pure (f : List D → Option (Val ⊕ Nat)) : Summ where
  run ds Q Y := match f ds with
    | some (.inl v) => Q v
    | some (.inr n) => Y n
    | none => False
  mono := fun {ds Q Q' Y Y'} h1 h2 q => by
    cases e : f ds with
    | none => rw [e] at q; exact q
    | some r =>
      rw [e] at q
      cases r with
      | inl v => exact h1 v q
      | inr n => exact h2 n q
def KQY (Q : Val → Prop) (Y : Nat → Prop) : Kn Unit := { nx := fun _ _ => Q (.dat .none), rt := fun v _ => Q v, ex := fun n _ _ => Y n }
/-- the tree keeps the summary: np parameters, nN names -/
def WOk (φ : Summ) (np nN : Nat) (body : Sms Unit) : Prop := ∀ ds Q Y, φ.run ds Q Y → ds.length = np ∧ wSs body (entry nN (ds.map .dat)) () (KQY Q Y)
theorem WOk.of {f : List D → Option (Val ⊕ Nat)} {np nN : Nat} {body : Sms Unit} (h : ∀ ds r, f ds = some r → ds.length = np ∧ ∀ Q Y, (match r with | .inl v => Q v | .inr n => Y n) → wSs body (entry nN (ds.map .dat)) () (KQY Q Y)) : WOk (Summ.pure f) np nN body := fun ds Q Y q => by
  have q' : (match f ds with
    | some (.inl v) => Q v
    | some (.inr n) => Y n
    | none => False) := q
  cases e : f ds with
  | none => rw [e] at q'; exact q'.elim
  | some r =>
    rw [e] at q'
    obtain ⟨h1, h2⟩ := h ds r e
    refine ⟨h1, h2 Q Y ?_⟩
    cases r <;> exact q'
/-! ### turns -/
theorem cLoop_pure {S : Type} {f : D → Ctx → S → (Option D → Ctx → S → Prop) → Prop} {g : D → Option D} {Γ : Ctx} {s : S} {k : List D → Ctx → S → Prop} : ∀ (xs acc : List D), (∀ x ∈ xs, ∀ k' : Option D → Ctx → S → Prop, k' (g x) Γ s → f x Γ s k') → k (acc ++ xs.filterMap g) Γ s → cLoop f xs Γ s acc k
  | [], acc, _, h => by
    rw [List.filterMap_nil, List.append_nil] at h
    exact h
  | x :: r, acc, hf, h => by
    refine hf x List.mem_cons_self _ (cLoop_pure r _ (fun y hy => hf y (List.mem_cons_of_mem _ hy)) ?_)
    rw [List.append_assoc]
    have e : (g x).toList ++ r.filterMap g = (x :: r).filterMap g := by
      cases e : g x with
      | none => rw [List.filterMap_cons_none e]; rfl
      | some y => rw [List.filterMap_cons_some e]; rfl
    rw [e]
    exact h
/-- an invariant over a list, by what is done and what is left -/
theorem fLoop_inv {S : Type} {f : D → Ctx → S → Kn S → Prop} {K : Kn S} (I : List D → List D → Ctx → S → Prop) (hnx : ∀ done Γ s, I done [] Γ s → K.nx Γ s)
    (hstep : ∀ done x r Γ s (K' : Kn S), I done (x :: r) Γ s → (∀ Γ' s', I (done ++ [x]) r Γ' s' → K'.nx Γ' s') → (∀ Γ' s', I (done ++ [x]) r Γ' s' → K'.ct Γ' s') → K'.bk = K.nx → K'.rt = K.rt → K'.ex = K.ex → f x Γ s K') :
    ∀ (xs done : List D) (Γ : Ctx) (s : S), I done xs Γ s → fLoop f K xs Γ s
  | [], done, Γ, s, h => hnx done Γ s h
  | x :: r, done, Γ, s, h => hstep done x r Γ s _ h (fun Γ' s' h' => fLoop_inv I hnx hstep r (done ++ [x]) Γ' s' h') (fun Γ' s' h' => fLoop_inv I hnx hstep r (done ++ [x]) Γ' s' h') rfl rfl rfl
/-! ### items -/
theorem ixD_nat {xs : List D} {i : Int} {j : Nat} {d : D} {k : D → Prop} (hi : i = (j : Int)) (h : xs[j]? = some d) : ixD xs i k = k d := by
  have hl : j < xs.length := (List.getElem?_eq_some_iff.mp h).1
  unfold ixD ixN
  rw [if_pos (show (0 : Int) ≤ i by omega), if_pos (show i < (xs.length : Nat) by omega)]
  have : i.toNat = j := by omega
  rw [this]
  show (match xs[j]? with | some d => k d | none => False) = k d
  rw [h]
@[simp] theorem ixD_0 {x : D} {r : List D} {k : D → Prop} : ixD (x :: r) 0 k = k x := ixD_nat (j := 0) rfl rfl
@[simp] theorem ixD_1 {x y : D} {r : List D} {k : D → Prop} : ixD (x :: y :: r) 1 k = k y := ixD_nat (j := 1) rfl rfl
@[simp] theorem ixD_2 {x y z : D} {r : List D} {k : D → Prop} : ixD (x :: y :: z :: r) 2 k = k z := ixD_nat (j := 2) rfl rfl
theorem ixD_map {α : Type} {f : α → D} {xs : List α} {i : Int} {k : D → Prop} (h0 : 0 ≤ i) (h1 : i < xs.length) : ixD (xs.map f) i k = k (f (xs[i.toNat]'(by omega))) :=
  ixD_nat (j := i.toNat) (by omega) (by rw [List.getElem?_map, List.getElem?_eq_getElem (by omega)]; rfl)
theorem ixD_last {xs : List D} {x : D} {k : D → Prop} : ixD (xs ++ [x]) (-1) k = k x := by
  unfold ixD ixN
  rw [if_neg (by decide), if_pos (by rw [List.length_append, List.length_singleton]; omega)]
  show (match (xs ++ [x])[(-1 + ((xs ++ [x]).length : Int)).toNat]? with | some d => k d | none => False) = k x
  have e : (-1 + ((xs ++ [x]).length : Int)).toNat = xs.length := by rw [List.length_append, List.length_singleton]; omega
  rw [e, List.getElem?_concat_length]
theorem qb {Q : Val → Prop} {x y : Bool} (h : Q (.dat (.bool x))) (e : x = true ↔ y = true) : Q (.dat (.bool y)) := by
  have : x = y := Bool.eq_iff_iff.mpr e
  rw [← this]
  exact h
/-! ### is_number, is_arc, is_ring -/
def isNumD (d : D) (b : Int) : Bool := match d with
  | .int i => decide (0 ≤ i) && decide (i < b)
  | _ => false
def Sis_number : Summ := Summ.pure fun ds => match ds with
  | [d, .int b] => some (.inl (.dat (.bool (isNumD d b))))
  | _ => none
def tris_number : Sms Unit :=
  (.cons (.one (.ret (.an (.bi .isint (.cons (.var 0) .nil)) (.an (.nt (.bi .isbool (.cons (.var 0) .nil))) (.ch .LtE .Lt (.int 0) (.var 0) (.var 1))))))
    .nil)

@[simp] theorem run_is_number {d : D} {b : Int} {Q : Val → Prop} {Y : Nat → Prop} : Sis_number.run [d, .int b] Q Y = Q (.dat (.bool (isNumD d b))) := rfl
theorem w_is_number : WOk Sis_number 2 2 tris_number := WOk.of fun ds r e => by
  split at e
  · rename_i d b
    cases e
    refine ⟨rfl, fun Q Y h => ?_⟩
    unfold tris_number
    simp only [wSs, wS, w1, wT, wE, wA, wX, wV, wP, wC, opn, rdO_d, rdO_o, asD_d, asD_n, KQY, entry, look, put, slotV, argsOk, frzA, frzV, sv_i, sv_b, sv_s, sv_0, sv_l, sv_t, sv_d, sv_n, List.map, List.length, List.replicate, List.cons_append, List.nil_append, Nat.sub_self, biD, isD_1, boolD_b, cmpD, relD_i, opD, addD_i, addD_l, subD_i, intD_i, lenD_l, lenD_t, listD_l, listD_t, tupleD_l, int2D_i, absD_i, toIntD_i, toIntD_b, eqD_i, eqD_b, eqD_s, rngD_1, rngD_2, seqD_l, seqD_t, lstD_l, ixX_l, ixX_t, negX_i, slX_l, rvX_l, repX_i, intX_i, ixD_0, ixD_1, ixD_2, true_and, and_true, ite_self]
    cases d with
    | int i =>
      simp only [isIntD, isBoolD, Bool.not_false, if_true, relD_i, asD_d, boolD_b]
      by_cases hc : 0 ≤ i
      · rw [if_pos (decide_eq_true hc)]
        exact qb h (by simp [isNumD, hc])
      · rw [if_neg (by simp [hc])]
        exact qb h (by simp [isNumD, hc])
    | _ => simpa [isIntD, isBoolD, isNumD] using h
  · cases e
def isArcD (d : D) (n : Int) : Bool := match d with
  | .tuple [s, .int m] => isNumD s n && decide (0 < m) && decide (m < n + 1)
  | _ => false
def Sis_arc : Summ := Summ.pure fun ds => match ds with
  | [d, .int n] => some (.inl (.dat (.bool (isArcD d n))))
  | _ => none
def tris_arc : Sms Unit :=
  (.cons (.ite (.or (.nt (.bi .istuple (.cons (.var 0) .nil))) (.cmp .NotEq (.bi .len (.cons (.var 0) .nil)) (.int 2)))
    (.cons (.one (.ret (.bl false)))
    .nil)
    .nil)
    (.cons (.one (.ret (.an (.call "is_number" Sis_number (.cons (.ix (.var 0) (.int 0)) (.cons (.var 1) .nil))) (.an (.call "is_number" Sis_number (.cons (.ix (.var 0) (.int 1)) (.cons (.op .Add (.var 1) (.int 1)) .nil))) (.cmp .Gt (.ix (.var 0) (.int 1)) (.int 0))))))
    .nil))

@[simp] theorem run_is_arc {d : D} {b : Int} {Q : Val → Prop} {Y : Nat → Prop} : Sis_arc.run [d, .int b] Q Y = Q (.dat (.bool (isArcD d b))) := rfl
theorem w_is_arc : WOk Sis_arc 2 2 tris_arc := WOk.of fun ds r e => by
  split at e
  · rename_i d b
    cases e
    refine ⟨rfl, fun Q Y h => ?_⟩
    unfold tris_arc
    simp only [wSs, wS, w1, wT, wE, wA, wX, wV, wP, wC, opn, rdO_d, rdO_o, asD_d, asD_n, KQY, entry, look, put, slotV, argsOk, frzA, frzV, sv_i, sv_b, sv_s, sv_0, sv_l, sv_t, sv_d, sv_n, List.map, List.length, List.replicate, List.cons_append, List.nil_append, Nat.sub_self, biD, isD_1, boolD_b, cmpD, relD_i, opD, addD_i, addD_l, subD_i, intD_i, lenD_l, lenD_t, listD_l, listD_t, tupleD_l, int2D_i, absD_i, toIntD_i, toIntD_b, eqD_i, eqD_b, eqD_s, rngD_1, rngD_2, seqD_l, seqD_t, lstD_l, ixX_l, ixX_t, negX_i, slX_l, rvX_l, repX_i, intX_i, ixD_0, ixD_1, ixD_2, true_and, and_true, ite_self, run_is_number]
    cases d with
    | tuple xs =>
      match xs with
      | [] => simpa [isTupD, isArcD] using h
      | [_] => simpa [isTupD, isArcD] using h
      | _ :: _ :: _ :: r =>
        have e : ¬ ((r.length : Int) + 1 + 1 + 1 = 2) := by omega
        simpa [isTupD, isArcD, e] using h
      | [s, m] =>
        simp only [isTupD, lenD_t, asD_d, boolD_b, eqD_i, ixD_0, ixD_1, List.length]
        cases m with
        | int i =>
          by_cases hs : isNumD s b = true
          · by_cases hi : isNumD (.int i) (b + 1) = true
            · simp [hs, hi]
              refine qb h ?_
              simp only [isNumD, Bool.and_eq_true, decide_eq_true_eq] at hi
              simp [isArcD, hs]
              omega
            · simp [hs, hi]
              refine qb h ?_
              simp [isNumD] at hi
              simp [isArcD, hs]
              omega
          · simp [hs]
            exact qb h (by simp [isArcD, hs])
        | _ => simpa [isArcD, isNumD] using h
    | _ => simpa [isTupD, isArcD] using h
  · cases e
end Ac
namespace Ac
open PySem PySem.Spec PyProof.Rows L2
def isRingD (d : D) : Bool := match d with
  | .tuple [.int n, .list xs] => decide (1 ≤ n) && decide (n ≤ 40) && decide (xs.length ≤ 20) && xs.all (isArcD · n)
  | _ => false
def Sis_ring : Summ := Summ.pure fun ds => match ds with
  | [d] => some (.inl (.dat (.bool (isRingD d))))
  | _ => none
def tris_ring_c1 : Es Unit :=
  (.cons (.nt (.call "is_arc" Sis_arc (.cons (.var 1) (.cons (.ix (.var 0) (.int 0)) .nil)))) .nil)
def tris_ring : Sms Unit :=
  (.cons (.ite (.or (.nt (.bi .istuple (.cons (.var 0) .nil))) (.cmp .NotEq (.bi .len (.cons (.var 0) .nil)) (.int 2)))
    (.cons (.one (.ret (.bl false)))
    .nil)
    .nil)
    (.cons (.ite (.or (.nt (.call "is_number" Sis_number (.cons (.ix (.var 0) (.int 0)) (.cons (.op .Add (.glb "MOST_PLACES" 40) (.int 1)) .nil)))) (.cmp .Eq (.ix (.var 0) (.int 0)) (.int 0)))
    (.cons (.one (.ret (.bl false)))
    .nil)
    .nil)
    (.cons (.ite (.or (.nt (.bi .islist (.cons (.ix (.var 0) (.int 1)) .nil))) (.cmp .Gt (.bi .len (.cons (.ix (.var 0) (.int 1)) .nil)) (.glb "MOST_ARCS" 20)))
    (.cons (.one (.ret (.bl false)))
    .nil)
    .nil)
    (.cons (.one (.ret (.cmp .Eq (.comp [1] (.nm 1) (.seq (.ix (.var 0) (.int 1))) tris_ring_c1 (.var 1)) (.ls .nil))))
    .nil))))

@[simp] theorem run_is_ring {d : D} {Q : Val → Prop} {Y : Nat → Prop} : Sis_ring.run [d] Q Y = Q (.dat (.bool (isRingD d))) := rfl
theorem filterMap_empty {α β : Type} {g : α → Option β} {xs : List α} : (xs.filterMap g).isEmpty = true ↔ ∀ x ∈ xs, g x = none := by
  rw [List.isEmpty_iff, List.filterMap_eq_nil_iff]
theorem big20 {n : Nat} (h : n ≤ 20) : n ≤ big := Nat.le_trans h (by decide)
theorem big40 {n : Nat} (h : n ≤ 40) : n ≤ big := Nat.le_trans h (by decide)
theorem w_is_ring : WOk Sis_ring 1 2 tris_ring := WOk.of fun ds r e => by
  split at e
  · rename_i d
    cases e
    refine ⟨rfl, fun Q Y h => ?_⟩
    unfold tris_ring
    simp only [wSs, wS, w1, wT, wE, wA, wX, wV, wP, wC, opn, rdO_d, rdO_o, asD_d, asD_n, KQY, entry, look, put, slotV, argsOk, frzA, frzV, sv_i, sv_b, sv_s, sv_0, sv_l, sv_t, sv_d, sv_n, List.map, List.length, List.replicate, List.cons_append, List.nil_append, Nat.sub_self, biD, isD_1, boolD_b, cmpD, relD_i, opD, addD_i, addD_l, subD_i, intD_i, lenD_l, lenD_t, listD_l, listD_t, tupleD_l, int2D_i, absD_i, toIntD_i, toIntD_b, eqD_i, eqD_b, eqD_s, rngD_1, rngD_2, seqD_l, seqD_t, lstD_l, ixX_l, ixX_t, negX_i, slX_l, rvX_l, repX_i, intX_i, ixD_0, ixD_1, ixD_2, true_and, and_true, ite_self, wI, run_is_number, wipeG, backG]
    cases d with
    | tuple xs =>
      match xs with
      | [] => simpa [isTupD, isRingD] using h
      | [_] => simpa [isTupD, isRingD] using h
      | _ :: _ :: _ :: r =>
        have e : ¬ ((r.length : Int) + 1 + 1 + 1 = 2) := by omega
        simpa [isTupD, isRingD, e] using h
      | [a, b] =>
        cases a with
        | int n =>
          by_cases hn : isNumD (.int n) 41 = true
          · simp only [isNumD, Bool.and_eq_true, decide_eq_true_eq] at hn
            by_cases h0 : n = 0
            · subst h0
              simp [isTupD, isNumD]
              exact qb h (by cases b <;> simp [isRingD])
            · have hn1 : n < 41 := hn.2
              cases b with
              | list xs =>
                by_cases hl : xs.length ≤ 20
                · have hl' : ¬ (20 < (xs.length : Int)) := by omega
                  simp [isTupD, isNumD, isListD, h0, hn.1, hn1, hl']
                  refine ⟨big20 hl, ?_⟩
                  refine cLoop_pure (g := fun x => if isArcD x n = true then none else some x) _ _ (fun x hx k' hk => ?_) ?_
                  · simp [bindT, tris_ring_c1, wipeG, wSs, wS, w1, wT, wE, wA, wX, wV, wP, wC, opn, rdO_d, rdO_o, asD_d, asD_n, KQY, entry, look, put, slotV, argsOk, frzA, frzV, sv_i, sv_b, sv_s, sv_0, sv_l, sv_t, sv_d, sv_n, List.map, List.length, List.replicate, List.cons_append, List.nil_append, Nat.sub_self, biD, isD_1, boolD_b, cmpD, relD_i, opD, addD_i, addD_l, subD_i, intD_i, lenD_l, lenD_t, listD_l, listD_t, tupleD_l, int2D_i, absD_i, toIntD_i, toIntD_b, eqD_i, eqD_b, eqD_s, rngD_1, rngD_2, seqD_l, seqD_t, lstD_l, ixX_l, ixX_t, negX_i, slX_l, rvX_l, repX_i, intX_i, ixD_0, ixD_1, ixD_2, true_and, and_true, ite_self]
                    by_cases ha : isArcD x n = true <;> simp_all
                  · simp only [List.nil_append, eqD_nil]
                    refine qb h ?_
                    rw [filterMap_empty]
                    simp [isRingD, hl]
                    intro _
                    omega
                · have hl' : 20 < (xs.length : Int) := by omega
                  simp [isTupD, isNumD, isListD, h0, hn.1, hn1, hl']
                  exact qb h (by simp [isRingD, hl])
              | _ =>
                simp [isTupD, isNumD, isListD, h0, hn.1, hn1]
                simpa [isRingD] using h
          · simp [isTupD, hn]
            refine qb h ?_
            simp only [isNumD, Bool.and_eq_true, decide_eq_true_eq] at hn
            cases b <;> simp [isRingD]
            omega
        | _ => simpa [isTupD, isRingD, isNumD] using h
    | _ => simpa [isTupD, isRingD] using h
  · cases e
/-! ### rings, plainly -/
def arcD (a : Int × Int) : D := .tuple [.int a.1, .int a.2]
def ringD (n : Int) (as : List (Int × Int)) : D := .tuple [.int n, .list (as.map arcD)]
def arcOk (n : Int) (a : Int × Int) : Prop := 0 ≤ a.1 ∧ a.1 < n ∧ 1 ≤ a.2 ∧ a.2 ≤ n
structure RingOk (n : Int) (as : List (Int × Int)) : Prop where
  n1 : 1 ≤ n
  n40 : n ≤ 40
  len : as.length ≤ 20
  arcs : ∀ a ∈ as, arcOk n a
theorem isArcD_iff {d : D} {n : Int} : isArcD d n = true ↔ ∃ a, d = arcD a ∧ arcOk n a := by
  constructor
  · intro h
    unfold isArcD at h
    split at h
    · rename_i s m
      rw [Bool.and_eq_true, Bool.and_eq_true, decide_eq_true_eq, decide_eq_true_eq] at h
      obtain ⟨⟨h1, h2⟩, h3⟩ := h
      unfold isNumD at h1
      split at h1
      · rename_i i
        rw [Bool.and_eq_true, decide_eq_true_eq, decide_eq_true_eq] at h1
        exact ⟨(i, m), rfl, h1.1, h1.2, h2, by show m ≤ n; omega⟩
      · cases h1
    · cases h
  · rintro ⟨⟨s, m⟩, rfl, h1, h2, h3, h4⟩
    have h1 : 0 ≤ s := h1
    have h2 : s < n := h2
    have h3 : 1 ≤ m := h3
    have h4 : m ≤ n := h4
    simp [isArcD, arcD, isNumD]
    omega
theorem arcs_of {xs : List D} {n : Int} (h : ∀ x ∈ xs, isArcD x n = true) : ∃ as : List (Int × Int), xs = as.map arcD ∧ ∀ a ∈ as, arcOk n a := by
  induction xs with
  | nil => exact ⟨[], rfl, fun a h => nomatch h⟩
  | cons x r ih =>
    obtain ⟨a, rfl, ha⟩ := isArcD_iff.mp (h x List.mem_cons_self)
    obtain ⟨as, rfl, has⟩ := ih fun y hy => h y (List.mem_cons_of_mem _ hy)
    exact ⟨a :: as, rfl, fun b hb => by cases hb with | head => exact ha | tail _ hb => exact has b hb⟩
theorem isRingD_iff {d : D} : isRingD d = true ↔ ∃ n as, d = ringD n as ∧ RingOk n as := by
  constructor
  · intro h
    unfold isRingD at h
    split at h
    · rename_i n xs
      simp only [Bool.and_eq_true, decide_eq_true_eq, List.all_eq_true] at h
      obtain ⟨⟨⟨h1, h2⟩, h3⟩, h4⟩ := h
      obtain ⟨as, rfl, has⟩ := arcs_of h4
      rw [List.length_map] at h3
      exact ⟨n, as, rfl, h1, h2, h3, has⟩
    · cases h
  · rintro ⟨n, as, rfl, h1, h2, h3, h4⟩
    simp only [isRingD, ringD, Bool.and_eq_true, decide_eq_true_eq, List.all_eq_true, List.length_map]
    refine ⟨⟨⟨h1, h2⟩, h3⟩, fun x hx => ?_⟩
    obtain ⟨a, ha, rfl⟩ := List.mem_map.mp hx
    exact isArcD_iff.mpr ⟨a, rfl, h4 a ha⟩
@[simp] theorem isRing_ringD {n : Int} {as : List (Int × Int)} (h : RingOk n as) : isRingD (ringD n as) = true := isRingD_iff.mpr ⟨n, as, rfl, h⟩
/-! ### summaries with a condition -/
def Summ.cond (f : List D → Option (Prop × (Val ⊕ Nat))) : Summ where
  run ds Q Y := match f ds with
    | some (p, .inl v) => p ∧ Q v
    | some (p, .inr n) => p ∧ Y n
    | none => False
  mono := fun {ds Q Q' Y Y'} h1 h2 q => by
    cases e : f ds with
    | none => rw [e] at q; exact q
    | some r =>
      rw [e] at q
      obtain ⟨p, r⟩ := r
      cases r with
      | inl v => exact ⟨q.1, h1 v q.2⟩
      | inr n => exact ⟨q.1, h2 n q.2⟩
theorem WOk.cond {f : List D → Option (Prop × (Val ⊕ Nat))} {np nN : Nat} {body : Sms Unit} (h : ∀ ds p r, f ds = some (p, r) → ds.length = np ∧ (p → ∀ Q Y, (match r with | .inl v => Q v | .inr n => Y n) → wSs body (entry nN (ds.map .dat)) () (KQY Q Y))) : WOk (Summ.cond f) np nN body := fun ds Q Y q => by
  have q' : (match f ds with
    | some (p, .inl v) => p ∧ Q v
    | some (p, .inr n) => p ∧ Y n
    | none => False) := q
  cases e : f ds with
  | none => rw [e] at q'; exact q'.elim
  | some r =>
    rw [e] at q'
    obtain ⟨p, r⟩ := r
    obtain ⟨h1, h2⟩ := h ds p r e
    refine ⟨h1, ?_⟩
    cases r with
    | inl v => exact h2 q'.1 Q Y q'.2
    | inr n => exact h2 q'.1 Q Y q'.2
/-! ### need_ring, need_number, need_place -/
def Sneed_ring : Summ := Summ.pure fun ds => match ds with
  | [d] => some (if isRingD d = true then .inl (.dat .none) else .inr 0)
  | _ => none
def trneed_ring : Sms Unit :=
  (.cons (.ite (.nt (.call "is_ring" Sis_ring (.cons (.var 0) .nil)))
    (.cons (.one (.raise "NoRing" 0))
    .nil)
    .nil)
    .nil)

@[simp] theorem run_need_ring {d : D} {Q : Val → Prop} {Y : Nat → Prop} : Sneed_ring.run [d] Q Y = (if isRingD d = true then Q (.dat .none) else Y 0) := by
  show (match some (if isRingD d = true then .inl (.dat .none) else .inr 0) with
    | some (Sum.inl v) => Q v
    | some (Sum.inr n) => Y n
    | none => False) = _
  split <;> split at * <;> simp_all
theorem w_need_ring : WOk Sneed_ring 1 1 trneed_ring := WOk.of fun ds r e => by
  split at e
  · rename_i d
    cases e
    refine ⟨rfl, fun Q Y h => ?_⟩
    unfold trneed_ring
    simp only [wSs, wS, w1, wT, wE, wA, wX, wV, wP, wC, opn, rdO_d, rdO_o, asD_d, asD_n, KQY, entry, look, put, slotV, argsOk, frzA, frzV, sv_i, sv_b, sv_s, sv_0, sv_l, sv_t, sv_d, sv_n, List.map, List.length, List.replicate, List.cons_append, List.nil_append, Nat.sub_self, biD, isD_1, boolD_b, cmpD, relD_i, opD, addD_i, addD_l, subD_i, intD_i, lenD_l, lenD_t, listD_l, listD_t, tupleD_l, int2D_i, absD_i, toIntD_i, toIntD_b, eqD_i, eqD_b, eqD_s, rngD_1, rngD_2, seqD_l, seqD_t, lstD_l, ixX_l, ixX_t, negX_i, slX_l, rvX_l, repX_i, intX_i, ixD_0, ixD_1, ixD_2, true_and, and_true, ite_self, run_is_ring]
    by_cases hd : isRingD d = true <;> simp_all
  · cases e
def Sneed_number : Summ := Summ.pure fun ds => match ds with
  | [.tuple [_, .list xs], d] => some (if isNumD d xs.length = true then .inl (.dat .none) else .inr 1)
  | _ => none
def trneed_number : Sms Unit :=
  (.cons (.ite (.nt (.call "is_number" Sis_number (.cons (.var 1) (.cons (.bi .len (.cons (.ix (.var 0) (.int 1)) .nil)) .nil))))
    (.cons (.one (.raise "NoArc" 1))
    .nil)
    .nil)
    .nil)

@[simp] theorem run_need_number {a d : D} {xs : List D} {Q : Val → Prop} {Y : Nat → Prop} : Sneed_number.run [.tuple [a, .list xs], d] Q Y = (if isNumD d xs.length = true then Q (.dat .none) else Y 1) := by
  show (match some (if isNumD d xs.length = true then .inl (.dat .none) else .inr 1) with
    | some (Sum.inl v) => Q v
    | some (Sum.inr n) => Y n
    | none => False) = _
  split <;> split at * <;> simp_all
theorem w_need_number : WOk Sneed_number 2 2 trneed_number := WOk.of fun ds r e => by
  split at e
  · rename_i a xs d
    cases e
    refine ⟨rfl, fun Q Y h => ?_⟩
    unfold trneed_number
    simp only [wSs, wS, w1, wT, wE, wA, wX, wV, wP, wC, opn, rdO_d, rdO_o, asD_d, asD_n, KQY, entry, look, put, slotV, argsOk, frzA, frzV, sv_i, sv_b, sv_s, sv_0, sv_l, sv_t, sv_d, sv_n, List.map, List.length, List.replicate, List.cons_append, List.nil_append, Nat.sub_self, biD, isD_1, boolD_b, cmpD, relD_i, opD, addD_i, addD_l, subD_i, intD_i, lenD_l, lenD_t, listD_l, listD_t, tupleD_l, int2D_i, absD_i, toIntD_i, toIntD_b, eqD_i, eqD_b, eqD_s, rngD_1, rngD_2, seqD_l, seqD_t, lstD_l, ixX_l, ixX_t, negX_i, slX_l, rvX_l, repX_i, intX_i, ixD_0, ixD_1, ixD_2, true_and, and_true, ite_self, run_is_number]
    by_cases hd : isNumD d xs.length = true <;> simp_all
  · cases e
def Sneed_place : Summ := Summ.pure fun ds => match ds with
  | [.tuple [.int n, _], d] => some (if isNumD d n = true then .inl (.dat .none) else .inr 2)
  | _ => none
def trneed_place : Sms Unit :=
  (.cons (.ite (.nt (.call "is_number" Sis_number (.cons (.var 1) (.cons (.ix (.var 0) (.int 0)) .nil))))
    (.cons (.one (.raise "NoPlace" 2))
    .nil)
    .nil)
    .nil)

@[simp] theorem run_need_place {a d : D} {n : Int} {Q : Val → Prop} {Y : Nat → Prop} : Sneed_place.run [.tuple [.int n, a], d] Q Y = (if isNumD d n = true then Q (.dat .none) else Y 2) := by
  show (match some (if isNumD d n = true then .inl (.dat .none) else .inr 2) with
    | some (Sum.inl v) => Q v
    | some (Sum.inr n) => Y n
    | none => False) = _
  split <;> split at * <;> simp_all
theorem w_need_place : WOk Sneed_place 2 2 trneed_place := WOk.of fun ds r e => by
  split at e
  · rename_i n a d
    cases e
    refine ⟨rfl, fun Q Y h => ?_⟩
    unfold trneed_place
    simp only [wSs, wS, w1, wT, wE, wA, wX, wV, wP, wC, opn, rdO_d, rdO_o, asD_d, asD_n, KQY, entry, look, put, slotV, argsOk, frzA, frzV, sv_i, sv_b, sv_s, sv_0, sv_l, sv_t, sv_d, sv_n, List.map, List.length, List.replicate, List.cons_append, List.nil_append, Nat.sub_self, biD, isD_1, boolD_b, cmpD, relD_i, opD, addD_i, addD_l, subD_i, intD_i, lenD_l, lenD_t, listD_l, listD_t, tupleD_l, int2D_i, absD_i, toIntD_i, toIntD_b, eqD_i, eqD_b, eqD_s, rngD_1, rngD_2, seqD_l, seqD_t, lstD_l, ixX_l, ixX_t, negX_i, slX_l, rvX_l, repX_i, intX_i, ixD_0, ixD_1, ixD_2, true_and, and_true, ite_self, run_is_number]
    by_cases hd : isNumD d n = true <;> simp_all
  · cases e
/-! ### places_in, holds, meet -/
/-- the places that an arc holds -/
def plc (n : Int) (a : Int × Int) : List Int := (List.range a.2.toNat).map fun k => (a.1 + (k : Nat)) % n
def Splaces_in : Summ := Summ.cond fun ds => match ds with
  | [.int n, .tuple [.int s, .int m]] => some (0 < n ∧ m ≤ 1000 ∧ -1000 ≤ m, .inl (.new ((plc n (s, m)).map .int)))
  | _ => none
def trplaces_in_e1 : E Unit :=
  (.op .Mod (.op .Add (.ix (.var 1) (.int 0)) (.var 2)) (.var 0))
def trplaces_in : Sms Unit :=
  (.cons (.one (.ret (.comp [2] (.nm 2) (.rng (.cons (.ix (.var 1) (.int 1)) .nil)) .nil trplaces_in_e1)))
    .nil)

@[simp] theorem run_places_in {n s m : Int} {Q : Val → Prop} {Y : Nat → Prop} : Splaces_in.run [.int n, .tuple [.int s, .int m]] Q Y = ((0 < n ∧ m ≤ 1000 ∧ -1000 ≤ m) ∧ Q (.new ((plc n (s, m)).map .int))) := rfl
theorem filterMap_some {α β : Type} {f : α → β} {xs : List α} : xs.filterMap (fun x => some (f x)) = xs.map f := by
  induction xs with
  | nil => rfl
  | cons x r ih => simp [List.filterMap_cons, ih]
theorem w_places_in : WOk Splaces_in 2 3 trplaces_in := WOk.cond fun ds p r e => by
  split at e
  · rename_i n s m
    cases e
    refine ⟨rfl, fun hp Q Y h => ?_⟩
    unfold trplaces_in
    simp only [wSs, wS, w1, wT, wE, wA, wX, wV, wP, wC, opn, rdO_d, rdO_o, asD_d, asD_n, KQY, entry, look, put, slotV, argsOk, frzA, frzV, sv_i, sv_b, sv_s, sv_0, sv_l, sv_t, sv_d, sv_n, List.map, List.length, List.replicate, List.cons_append, List.nil_append, Nat.sub_self, biD, isD_1, boolD_b, cmpD, relD_i, opD, addD_i, addD_l, subD_i, intD_i, lenD_l, lenD_t, listD_l, listD_t, tupleD_l, int2D_i, absD_i, toIntD_i, toIntD_b, eqD_i, eqD_b, eqD_s, rngD_1, rngD_2, seqD_l, seqD_t, lstD_l, ixX_l, ixX_t, negX_i, slX_l, rvX_l, repX_i, intX_i, ixD_0, ixD_1, ixD_2, true_and, and_true, ite_self, wI, wipeG, backG]
    refine ⟨by omega, ?_, ?_⟩
    · rw [List.length_map, List.length_range]
      unfold big
      omega
    · refine cLoop_pure (g := fun x => match x with | .int k => some (.int ((s + k) % n)) | _ => none) _ _ (fun x hx k' hk => ?_) ?_
      · obtain ⟨i, _, rfl⟩ := List.mem_map.mp hx
        simp [bindT, trplaces_in_e1, wipeG, wSs, wS, w1, wT, wE, wA, wX, wV, wP, wC, opn, rdO_d, rdO_o, asD_d, asD_n, KQY, entry, look, put, slotV, argsOk, frzA, frzV, sv_i, sv_b, sv_s, sv_0, sv_l, sv_t, sv_d, sv_n, List.map, List.length, List.replicate, List.cons_append, List.nil_append, Nat.sub_self, biD, isD_1, boolD_b, cmpD, relD_i, opD, addD_i, addD_l, subD_i, intD_i, lenD_l, lenD_t, listD_l, listD_t, tupleD_l, int2D_i, absD_i, toIntD_i, toIntD_b, eqD_i, eqD_b, eqD_s, rngD_1, rngD_2, seqD_l, seqD_t, lstD_l, ixX_l, ixX_t, negX_i, slX_l, rvX_l, repX_i, intX_i, ixD_0, ixD_1, ixD_2, true_and, and_true, ite_self]
        exact ⟨hp.1, hk⟩
      · rw [List.filterMap_map]
        simp only [List.nil_append, Function.comp_def, filterMap_some]
        simpa [plc, Function.comp_def] using h
  · cases e
def hld (n : Int) (a : Int × Int) (p : Int) : Bool := decide ((p - a.1) % n < a.2)
def Sholds : Summ := Summ.cond fun ds => match ds with
  | [.int n, .tuple [.int s, .int m], .int p] => some (0 < n, .inl (.dat (.bool (hld n (s, m) p))))
  | _ => none
def trholds : Sms Unit :=
  (.cons (.one (.ret (.cmp .Lt (.op .Mod (.op .Sub (.var 2) (.ix (.var 1) (.int 0))) (.var 0)) (.ix (.var 1) (.int 1)))))
    .nil)

@[simp] theorem run_holds {n s m p : Int} {Q : Val → Prop} {Y : Nat → Prop} : Sholds.run [.int n, .tuple [.int s, .int m], .int p] Q Y = (0 < n ∧ Q (.dat (.bool (hld n (s, m) p)))) := rfl
theorem w_holds : WOk Sholds 3 3 trholds := WOk.cond fun ds p r e => by
  split at e
  · cases e
    refine ⟨rfl, fun hp Q Y h => ?_⟩
    unfold trholds
    simp only [wSs, wS, w1, wT, wE, wA, wX, wV, wP, wC, opn, rdO_d, rdO_o, asD_d, asD_n, KQY, entry, look, put, slotV, argsOk, frzA, frzV, sv_i, sv_b, sv_s, sv_0, sv_l, sv_t, sv_d, sv_n, List.map, List.length, List.replicate, List.cons_append, List.nil_append, Nat.sub_self, biD, isD_1, boolD_b, cmpD, relD_i, opD, addD_i, addD_l, subD_i, intD_i, lenD_l, lenD_t, listD_l, listD_t, tupleD_l, int2D_i, absD_i, toIntD_i, toIntD_b, eqD_i, eqD_b, eqD_s, rngD_1, rngD_2, seqD_l, seqD_t, lstD_l, ixX_l, ixX_t, negX_i, slX_l, rvX_l, repX_i, intX_i, ixD_0, ixD_1, ixD_2, true_and, and_true, ite_self]
    exact ⟨hp, h⟩
  · cases e
def mtB (n : Int) (a b : Int × Int) : Bool := hld n a b.1 || hld n b a.1
def Smeet : Summ := Summ.cond fun ds => match ds with
  | [.int n, .tuple [.int s, .int m], .tuple [.int s', .int m']] => some (0 < n, .inl (.dat (.bool (mtB n (s, m) (s', m')))))
  | _ => none
def trmeet : Sms Unit :=
  (.cons (.one (.ret (.or (.call "holds" Sholds (.cons (.var 0) (.cons (.var 1) (.cons (.ix (.var 2) (.int 0)) .nil)))) (.call "holds" Sholds (.cons (.var 0) (.cons (.var 2) (.cons (.ix (.var 1) (.int 0)) .nil)))))))
    .nil)

@[simp] theorem run_meet {n s m s' m' : Int} {Q : Val → Prop} {Y : Nat → Prop} : Smeet.run [.int n, .tuple [.int s, .int m], .tuple [.int s', .int m']] Q Y = (0 < n ∧ Q (.dat (.bool (mtB n (s, m) (s', m'))))) := rfl
theorem w_meet : WOk Smeet 3 3 trmeet := WOk.cond fun ds p r e => by
  split at e
  · rename_i n s m s' m'
    cases e
    refine ⟨rfl, fun hp Q Y h => ?_⟩
    unfold trmeet
    simp only [wSs, wS, w1, wT, wE, wA, wX, wV, wP, wC, opn, rdO_d, rdO_o, asD_d, asD_n, KQY, entry, look, put, slotV, argsOk, frzA, frzV, sv_i, sv_b, sv_s, sv_0, sv_l, sv_t, sv_d, sv_n, List.map, List.length, List.replicate, List.cons_append, List.nil_append, Nat.sub_self, biD, isD_1, boolD_b, cmpD, relD_i, opD, addD_i, addD_l, subD_i, intD_i, lenD_l, lenD_t, listD_l, listD_t, tupleD_l, int2D_i, absD_i, toIntD_i, toIntD_b, eqD_i, eqD_b, eqD_s, rngD_1, rngD_2, seqD_l, seqD_t, lstD_l, ixX_l, ixX_t, negX_i, slX_l, rvX_l, repX_i, intX_i, ixD_0, ixD_1, ixD_2, true_and, and_true, ite_self, run_holds]
    refine ⟨hp, ?_⟩
    by_cases h1 : hld n (s, m) s' = true
    · simp [h1]
      exact qb h (by simp [mtB, h1])
    · simp [h1, hp]
      exact qb h (by simp [mtB, h1])
  · cases e
end Ac
namespace Ac
open PySem PySem.Spec PyProof.Rows L2
/-! ### drawn numbers: stores that change, of which nothing is told but what they are -/
inductive Kd where
  | deck (p : Addr) | pools (qs : List Addr) | pool | stB (p : Addr) | nums | err (n : Nat)
def Kd.tag : Kd → Nat
  | .deck _ => 0 | .stB _ => 1 | .pool => 2 | .pools _ => 9 | .nums => 9 | .err n => 100 + n
abbrev KA := Addr → Option Kd
def okK (cl : Nat → Addr) (A : KA) (H : Hp) (a : Addr) : Kd → Prop
  | .deck p => ∃ i : Int, H a = some (.lst [.ref p, .int i]) ∧ ∃ qs, A p = some (.pools qs)
  | .pools qs => H a = some (.lst (qs.map V.ref)) ∧ qs ≠ [] ∧ ∀ q ∈ qs, A q = some .pool
  | .pool => ∃ x y z : Int, H a = some (.lst [.int x, .int y, .int z])
  | .stB p => ∃ i : Int, H a = some (.lst [.ref p, .int i]) ∧ A p = some .nums
  | .nums => ∃ ns : List Int, ns ≠ [] ∧ H a = some (.lst (ns.map V.int))
  | .err n => H a = some (ErrO (.ref (cl n)) a)
theorem okK_some {cl : Nat → Addr} {A : KA} {H : Hp} {a : Addr} {k : Kd} (h : okK cl A H a k) : H a ≠ none := by
  cases k with
  | deck p => obtain ⟨_, h, _⟩ := h; rw [h]; exact nofun
  | pools qs => rw [h.1]; exact nofun
  | pool => obtain ⟨_, _, _, h⟩ := h; rw [h]; exact nofun
  | stB p => obtain ⟨_, h, _⟩ := h; rw [h]; exact nofun
  | nums => obtain ⟨_, _, h⟩ := h; rw [h]; exact nofun
  | err n => have h' : H a = some (ErrO (.ref (cl n)) a) := h; rw [h']; exact nofun
theorem okK_same {cl : Nat → Addr} {A : KA} {H H' : Hp} {a : Addr} {k : Kd} (h : okK cl A H a k) (e : H' a = H a) : okK cl A H' a k := by
  cases k with
  | deck p => obtain ⟨i, h1, h2⟩ := h; exact ⟨i, by rw [e]; exact h1, h2⟩
  | pools qs => exact ⟨by rw [e]; exact h.1, h.2⟩
  | pool => obtain ⟨x, y, z, h⟩ := h; exact ⟨x, y, z, by rw [e]; exact h⟩
  | stB p => obtain ⟨i, h1, h2⟩ := h; exact ⟨i, by rw [e]; exact h1, h2⟩
  | nums => obtain ⟨ns, h1, h2⟩ := h; exact ⟨ns, h1, by rw [e]; exact h2⟩
  | err n => have h' : H a = some (ErrO (.ref (cl n)) a) := h; exact e.trans h'
theorem okK_le {cl : Nat → Addr} {A B : KA} {H : Hp} {a : Addr} {k : Kd} (le : ∀ a k, A a = some k → B a = some k) (h : okK cl A H a k) : okK cl B H a k := by
  cases k with
  | deck p => obtain ⟨i, h1, qs, h2⟩ := h; exact ⟨i, h1, qs, le _ _ h2⟩
  | pools qs => exact ⟨h.1, h.2.1, fun q hq => le _ _ (h.2.2 q hq)⟩
  | pool => exact h
  | stB p => obtain ⟨i, h1, h2⟩ := h; exact ⟨i, h1, le _ _ h2⟩
  | nums => exact h
  | err n => exact h
def rmD (cl : Nat → Addr) : RM where
  S := Unit
  A := KA
  ok := fun A _ H => ∀ a k, A a = some k → okK cl A H a k
  ft := fun A a => A a ≠ none
  hd := fun A n v => ∃ a k, v = .ref a ∧ A a = some k ∧ k.tag = n
  le := fun A B => ∀ a k, A a = some k → B a = some k
  le_refl := fun _ _ _ h => h
  le_trans := fun h1 h2 a k h => h2 a k (h1 a k h)
  le_ft := fun {A B p} h e => by
    cases q : A p with
    | none => exact absurd q e
    | some k => rw [h p k q]; exact nofun
  le_hd := fun h ⟨a, k, h1, h2, h3⟩ => ⟨a, k, h1, h a k h2, h3⟩
  hd_ref := fun ⟨a, _, h, _⟩ => ⟨a, h⟩
  ex := fun {A s H p} h e => by
    cases q : A p with
    | none => exact absurd q e
    | some k => exact okK_some (h p k q)
  frame := fun {A s H H'} h e a k hk => okK_same (h a k hk) (e a (by rw [hk]; exact nofun))
/-- a list of the store is written -/
theorem okK_upd {cl : Nat → Addr} {A : KA} {H : Hp} {a : Addr} {o : HO} {k : Kd} (h : ∀ b j, A b = some j → okK cl A H b j) (hk : A a = some k) (hn : okK cl A (upd H a o) a k) : ∀ b j, A b = some j → okK cl A (upd H a o) b j := fun b j hb => by
  by_cases e : b = a
  · subst e
    rw [hk] at hb
    cases hb
    exact hn
  · exact okK_same (h b j hb) (upd_ne e)
/-- a new error -/
def newErr (A : KA) (a : Addr) (n : Nat) : KA := fun b => if b = a then some (.err n) else A b
theorem rmD_err (cl : Nat → Addr) : RMX (rmD cl) cl where
  new := fun {fx σ H Γ s F A a n} R ha => by
    have ok : ∀ a k, A a = some k → okK cl A H a k := R.ok
    have hA : A a = none := by
      cases z : A a with
      | none => rfl
      | some k => exact absurd ha (okK_some (ok a k z))
    have le : ∀ b k, A b = some k → newErr A a n b = some k := fun b k e => by
      have h1 : b ≠ a := fun z => by rw [z, hA] at e; cases e
      unfold newErr
      rw [if_neg h1]
      exact e
    have nft : ∀ b, b ≠ a → ¬ (rmD cl).ft A b → ¬ (rmD cl).ft (newErr A a n) b := fun b h1 h => by
      show ¬ (newErr A a n b ≠ none)
      unfold newErr
      rw [if_neg h1]
      exact h
    have R1 := R.alloc (o := ErrO (.ref (cl n)) a) ha
    refine ⟨newErr A a n, ?_, a, .err n, rfl, by unfold newErr; rw [if_pos rfl], rfl⟩
    exact {
      fh := R1.fh
      fz := fun b o e => nft b (fun z => by rw [z, R.nF ha] at e; cases e) (R.fz b o e)
      f0 := R.f0
      lk := fun b o e => ⟨(R1.lk b o e).1, (R1.lk b o e).2.1, nft b (fun z => by rw [z, R.nL ha] at e; cases e) (R1.lk b o e).2.2⟩
      a0 := (rmD cl).le_trans R.a0 le
      ok := fun b k e => by
        by_cases h1 : b = a
        · subst h1
          unfold newErr at e
          rw [if_pos rfl] at e
          cases e
          exact upd_same
        · unfold newErr at e
          rw [if_neg h1] at e
          exact okK_le le (okK_same (ok b k e) (upd_ne h1))
      ln := R.ln
      sl := fun i v e => by
        obtain ⟨y, h1, h2⟩ := R1.sl i v e
        refine ⟨y, h1, ?_⟩
        cases v with
        | dat d => exact h2
        | new ys => exact h2
        | hdl k => exact (rmD cl).le_hd le h2
        | own ys =>
          obtain ⟨b, us, w1, w2, w3, w4, w5, w6⟩ := h2
          refine ⟨b, us, w1, w2, w3, nft b (fun z => ?_) w4, w5, w6⟩
          rw [w1, z] at h1
          exact R.noOwn ha i ys e h1
      dj := R.dj }
  get := fun {A s H n x} ok hn h => by
    obtain ⟨a, k, rfl, h1, h2⟩ := h
    have ok' : ∀ a k, A a = some k → okK cl A H a k := ok
    cases k with
    | err m =>
      have e : m = n := by
        have h3 : 100 + m = 100 + n := h2
        omega
      subst e
      exact ⟨a, rfl, ok' a _ h1⟩
    | deck p => exact absurd (show 0 = 100 + n from h2) (by omega)
    | stB p => exact absurd (show 1 = 100 + n from h2) (by omega)
    | pool => exact absurd (show 2 = 100 + n from h2) (by omega)
    | pools qs => exact absurd (show 9 = 100 + n from h2) (by omega)
    | nums => exact absurd (show 9 = 100 + n from h2) (by omega)
/-- a new deck -/
def newDeck (A : KA) (d o : Addr) (qs : List Addr) : KA := fun b => if b = d then some (.deck o) else if b = o then some (.pools qs) else if b ∈ qs then some .pool else A b
theorem newDeck_none {cl : Nat → Addr} {A : KA} {H : Hp} {d o b : Addr} {qs : List Addr} {u : HO} (e : H b = some u) (n : ¬ (rmD cl).ft A b) (hd : H d = none) (ho : H o = none) (hq : ∀ q ∈ qs, H q = none) : ¬ (rmD cl).ft (newDeck A d o qs) b := by
  have h1 : b ≠ d := ne_of_none e hd
  have h2 : b ≠ o := ne_of_none e ho
  have h3 : b ∉ qs := fun z => by rw [hq b z] at e; cases e
  show ¬ (newDeck A d o qs b ≠ none)
  unfold newDeck
  rw [if_neg h1, if_neg h2, if_neg h3]
  exact n
/-- a number is drawn -/
def Etake (tag : Nat) : ESumm Unit where
  run vs s Q Y := match vs with
    | [.hdl t, .dat (.int m)] => t = tag ∧ (0 < m ∧ m < 1073741824) ∧ ∀ r, 0 ≤ r → r < m → Q (.dat (.int r)) ()
    | _ => False
  mono := fun {vs s Q Q' Y Y'} h1 h2 q => by
    split at q
    · exact ⟨q.1, q.2.1, fun r a b => h1 _ _ (q.2.2 r a b)⟩
    · exact q.elim
@[simp] theorem run_take {tag t : Nat} {m : Int} {Q : Val → Unit → Prop} {Y : Nat → Unit → Prop} : (Etake tag).run [.hdl t, .dat (.int m)] () Q Y = (t = tag ∧ (0 < m ∧ m < 1073741824) ∧ ∀ r, 0 ≤ r → r < m → Q (.dat (.int r)) ()) := rfl
def E_law_draw : ESumm Unit := Etake 0
def E_law_deck : ESumm Unit where
  run vs s Q Y := match vs with
    | [.dat (.list xs)] => ∃ ns : List Int, xs = ns.map PyData.int ∧ ns.length ≤ 63 ∧ Q (.hdl 0) ()
    | _ => False
  mono := fun {vs s Q Q' Y Y'} h1 h2 q => by
    split at q
    · obtain ⟨ns, e, h, q⟩ := q; exact ⟨ns, e, h, h1 _ _ q⟩
    · exact q.elim
end Ac
namespace Ac
open PySem PySem.Spec PyProof.Rows L2
/-! ### defs of a ring: what is none is refused -/
structure RF where
  run : Int → List (Int × Int) → List D → (Val → Prop) → (Nat → Prop) → Prop
  mono : ∀ {n as ds} {Q Q' : Val → Prop} {Y Y' : Nat → Prop}, (∀ v, Q v → Q' v) → (∀ k, Y k → Y' k) → run n as ds Q Y → run n as ds Q' Y'
def Summ.ring (np : Nat) (f : RF) : Summ where
  run ds Q Y := ds.length = np + 1 ∧ ∀ d r, ds = d :: r → (isRingD d = false → Y 0) ∧ ∀ n as, d = ringD n as → RingOk n as → f.run n as r Q Y
  mono := fun {ds Q Q' Y Y'} h1 h2 q => ⟨q.1, fun d r e => ⟨fun z => h2 0 ((q.2 d r e).1 z), fun n as z ok => f.mono h1 h2 ((q.2 d r e).2 n as z ok)⟩⟩
theorem ringD_inj {n m : Int} {as bs : List (Int × Int)} (h : ringD n as = ringD m bs) : n = m ∧ as = bs := by
  unfold ringD at h
  simp only [PyData.tuple.injEq, List.cons.injEq, PyData.int.injEq, PyData.list.injEq, and_true] at h
  refine ⟨h.1, ?_⟩
  have inj : ∀ (xs ys : List (Int × Int)), xs.map arcD = ys.map arcD → xs = ys := by
    intro xs
    induction xs with
    | nil => intro ys h; cases ys with | nil => rfl | cons y r => cases h
    | cons x r ih =>
      intro ys h
      cases ys with
      | nil => cases h
      | cons y s =>
        rw [List.map_cons, List.map_cons, List.cons.injEq] at h
        have e1 : x = y := by
          have := h.1
          unfold arcD at this
          simp only [PyData.tuple.injEq, List.cons.injEq, PyData.int.injEq, and_true] at this
          exact Prod.ext this.1 this.2
        rw [e1, ih s h.2]
  exact inj _ _ h.2
/-- a call with a ring -/
theorem ring_ok {np : Nat} {f : RF} {n : Int} {as : List (Int × Int)} {r : List D} {Q : Val → Prop} {Y : Nat → Prop} (hl : r.length = np) (ok : RingOk n as) (h : f.run n as r Q Y) : (Summ.ring np f).run (ringD n as :: r) Q Y := by
  refine ⟨by rw [List.length_cons, hl], fun d r' e => ?_⟩
  cases e
  refine ⟨fun e => ?_, fun m bs e _ => ?_⟩
  · rw [isRing_ringD ok] at e; cases e
  · obtain ⟨rfl, rfl⟩ := ringD_inj e
    exact h
theorem ring_bad {np : Nat} {f : RF} {d : D} {r : List D} {Q : Val → Prop} {Y : Nat → Prop} (hl : r.length = np) (bad : isRingD d = false) (h : Y 0) : (Summ.ring np f).run (d :: r) Q Y := by
  refine ⟨by rw [List.length_cons, hl], fun d r' e => ?_⟩
  cases e
  refine ⟨fun _ => h, fun m bs e ok => ?_⟩
  rw [e, isRing_ringD ok] at bad
  cases bad
/-- a def of a ring keeps its summary: the two cases -/
theorem WOk.ring {np nN : Nat} {f : RF} {body : Sms Unit} (hbad : ∀ d r (Q : Val → Prop) (Y : Nat → Prop), r.length = np → isRingD d = false → Y 0 → wSs body (entry nN ((d :: r).map .dat)) () (KQY Q Y))
    (hok : ∀ n as r (Q : Val → Prop) (Y : Nat → Prop), r.length = np → RingOk n as → f.run n as r Q Y → wSs body (entry nN ((ringD n as :: r).map .dat)) () (KQY Q Y)) : WOk (Summ.ring np f) (np + 1) nN body := fun ds Q Y h => by
  cases ds with
  | nil => cases h.1
  | cons d r =>
    have hl : r.length = np := Nat.succ.inj h.1
    refine ⟨h.1, ?_⟩
    obtain ⟨h0, h1⟩ := h.2 d r rfl
    cases hr : isRingD d with
    | false => exact hbad d r Q Y hl hr (h0 hr)
    | true =>
      obtain ⟨n, as, rfl, ok⟩ := isRingD_iff.mp hr
      exact hok n as r Q Y hl ok (h1 n as rfl ok)
theorem len1 {α : Type} {l : List α} (h : l.length = 1) : ∃ a, l = [a] := by
  match l, h with
  | [a], _ => exact ⟨a, rfl⟩
theorem len2 {α : Type} {l : List α} (h : l.length = 2) : ∃ a b, l = [a, b] := by
  match l, h with
  | [a, b], _ => exact ⟨a, b, rfl⟩
theorem arc_item {as : List (Int × Int)} {i : Nat} (hi : i < as.length) : (as.map arcD)[i]? = some (arcD as[i]) := by rw [List.getElem?_map, List.getElem?_eq_getElem hi]; rfl
/-- its tree: need_ring(ring) first -/
theorem isNum_iff {d : D} {b : Nat} : isNumD d b = true ↔ ∃ i : Nat, i < b ∧ d = .int i := by
  constructor
  · intro h
    unfold isNumD at h
    split at h
    · rename_i i
      rw [Bool.and_eq_true, decide_eq_true_eq, decide_eq_true_eq] at h
      exact ⟨i.toNat, by omega, by rw [Int.toNat_of_nonneg h.1]⟩
    · cases h
  · rintro ⟨i, hi, rfl⟩
    simp [isNumD]
    omega
theorem isNum_int {d : D} {b : Int} : isNumD d b = true ↔ ∃ i : Int, 0 ≤ i ∧ i < b ∧ d = .int i := by
  constructor
  · intro h
    unfold isNumD at h
    split at h
    · rename_i i
      rw [Bool.and_eq_true, decide_eq_true_eq, decide_eq_true_eq] at h
      exact ⟨i, h.1, h.2, rfl⟩
    · cases h
  · rintro ⟨i, h0, hi, rfl⟩
    simp [isNumD]
    omega
/-! ### places_of -/
def Fplaces_of : RF where
  run n as ds Q Y := match ds with
    | [a] => (isNumD a as.length = false → Y 1) ∧ ∀ (i : Nat) (h : i < as.length), a = .int i → Q (.new ((plc n as[i]).map .int))
    | _ => False
  mono := fun h1 h2 q => by
    split at q
    · exact ⟨fun e => h2 _ (q.1 e), fun i h e => h1 _ (q.2 i h e)⟩
    · exact q
def Splaces_of : Summ := Summ.ring 1 Fplaces_of
theorem call_places_of {n : Int} {as : List (Int × Int)} {i : Nat} {Q : Val → Prop} {Y : Nat → Prop} (ok : RingOk n as) (hi : i < as.length) (h : Q (.new ((plc n as[i]).map .int))) : Splaces_of.run [ringD n as, .int (i : Nat)] Q Y := by
  refine ring_ok rfl ok ⟨fun e => ?_, fun j hj e => ?_⟩
  · rw [isNum_iff.mpr ⟨i, hi, rfl⟩] at e; cases e
  · have : j = i := by cases e; rfl
    subst this
    exact h
def trplaces_of : Sms Unit :=
  (.cons (.one (.expr (.call "need_ring" Sneed_ring (.cons (.var 0) .nil))))
    (.cons (.one (.expr (.call "need_number" Sneed_number (.cons (.var 0) (.cons (.var 1) .nil)))))
    (.cons (.one (.ret (.call "places_in" Splaces_in (.cons (.ix (.var 0) (.int 0)) (.cons (.ix (.ix (.var 0) (.int 1)) (.var 1)) .nil)))))
    .nil)))

theorem w_places_of : WOk Splaces_of 2 2 trplaces_of := WOk.ring (fun d r Q Y hl hr h0 => by
    obtain ⟨a, rfl⟩ := len1 hl
    unfold trplaces_of
    simp only [wSs, wS, w1, wT, wE, wA, wX, wV, wP, wC, opn, rdO_d, rdO_o, asD_d, asD_n, KQY, entry, look, put, slotV, argsOk, frzA, frzV, sv_i, sv_b, sv_s, sv_0, sv_l, sv_t, sv_d, sv_n, List.map, List.length, List.replicate, List.cons_append, List.nil_append, Nat.sub_self, biD, isD_1, boolD_b, cmpD, relD_i, opD, addD_i, addD_l, subD_i, intD_i, lenD_l, lenD_t, listD_l, listD_t, tupleD_l, int2D_i, absD_i, toIntD_i, toIntD_b, eqD_i, eqD_b, eqD_s, rngD_1, rngD_2, seqD_l, seqD_t, lstD_l, ixX_l, ixX_t, negX_i, slX_l, rvX_l, repX_i, intX_i, ixD_0, ixD_1, ixD_2, true_and, and_true, ite_self, run_need_ring]
    simpa [hr] using h0) (fun n as r Q Y hl ok h => by
    obtain ⟨a, rfl⟩ := len1 hl
    obtain ⟨h2, h3⟩ := h
    unfold trplaces_of
    simp only [wSs, wS, w1, wT, wE, wA, wX, wV, wP, wC, opn, rdO_d, rdO_o, asD_d, asD_n, KQY, entry, look, put, slotV, argsOk, frzA, frzV, sv_i, sv_b, sv_s, sv_0, sv_l, sv_t, sv_d, sv_n, List.map, List.length, List.replicate, List.cons_append, List.nil_append, Nat.sub_self, biD, isD_1, boolD_b, cmpD, relD_i, opD, addD_i, addD_l, subD_i, intD_i, lenD_l, lenD_t, listD_l, listD_t, tupleD_l, int2D_i, absD_i, toIntD_i, toIntD_b, eqD_i, eqD_b, eqD_s, rngD_1, rngD_2, seqD_l, seqD_t, lstD_l, ixX_l, ixX_t, negX_i, slX_l, rvX_l, repX_i, intX_i, ixD_0, ixD_1, ixD_2, true_and, and_true, ite_self, run_need_ring, isRing_ringD ok]
    simp only [if_true, ringD, ixX_t, ixX_l, ixD_0, ixD_1, run_need_number, List.length_map]
    cases ha : isNumD a as.length with
    | false => simpa [ha] using h2 ha
    | true =>
      obtain ⟨i, hi, rfl⟩ := isNum_iff.mp ha
      have oki := ok.arcs _ (List.getElem_mem hi)
      have n1 := ok.n1
      have n40 := ok.n40
      simp only [if_true, ixX_l, ixX_t, ixD_nat (j := i) rfl (arc_item hi), arcD, run_places_in, argsOk, true_and, and_true, scalV, Bool.false_eq_true, if_false]
      refine ⟨⟨by omega, ?_, ?_⟩, h3 i hi rfl⟩
      · have := oki.2.2.2; omega
      · have := oki.2.2.1; omega)
/-! ### arcs_at, do_meet -/
def atB (n : Int) (as : List (Int × Int)) (p : Int) : List Nat := (List.range as.length).filter fun k => match as[k]? with | some a => hld n a p | none => false
def natD (k : Nat) : D := .int (k : Nat)
def Farcs_at : RF where
  run n as ds Q Y := match ds with
    | [a] => (isNumD a n = false → Y 2) ∧ ∀ p : Int, 0 ≤ p → p < n → a = .int p → Q (.new ((atB n as p).map natD))
    | _ => False
  mono := fun h1 h2 q => by
    split at q
    · exact ⟨fun e => h2 _ (q.1 e), fun p a b e => h1 _ (q.2 p a b e)⟩
    · exact q
def Sarcs_at : Summ := Summ.ring 1 Farcs_at
theorem call_arcs_at {n : Int} {as : List (Int × Int)} {p : Int} {Q : Val → Prop} {Y : Nat → Prop} (ok : RingOk n as) (h0 : 0 ≤ p) (h1 : p < n) (h : Q (.new ((atB n as p).map natD))) : Sarcs_at.run [ringD n as, .int p] Q Y := by
  refine ring_ok rfl ok ⟨fun e => ?_, fun j _ _ e => ?_⟩
  · rw [isNum_int.mpr ⟨p, h0, h1, rfl⟩] at e; cases e
  · cases e
    exact h
def trarcs_at_c1 : Es Unit :=
  (.cons (.call "holds" Sholds (.cons (.ix (.var 0) (.int 0)) (.cons (.var 3) (.cons (.var 1) .nil)))) .nil)
def trarcs_at : Sms Unit :=
  (.cons (.one (.expr (.call "need_ring" Sneed_ring (.cons (.var 0) .nil))))
    (.cons (.one (.expr (.call "need_place" Sneed_place (.cons (.var 0) (.cons (.var 1) .nil)))))
    (.cons (.one (.ret (.comp [2, 3] (.tp [2, 3]) (.enu (.ix (.var 0) (.int 1))) trarcs_at_c1 (.var 2))))
    .nil)))

/-- an enumerated list, filtered -/
theorem enum_filter {α β : Type} {f : α → D} {g : D → Option β} {p : Nat → α → Option β} (hg : ∀ k a, g (.tuple [.int (k : Nat), f a]) = p k a) : ∀ (as : List α) (i : Nat), ((as.zipIdx i).map fun q => PyData.tuple [.int (q.2 : Nat), f q.1]).filterMap g = (as.zipIdx i).filterMap fun q => p q.2 q.1
  | [], _ => rfl
  | a :: r, i => by
    rw [List.zipIdx_cons, List.map_cons, List.filterMap_cons, List.filterMap_cons, enum_filter hg r (i + 1), hg]
theorem enumD_map {α : Type} {f : α → D} (as : List α) : enumD (as.map f) = (as.zipIdx).map fun q => PyData.tuple [.int (q.2 : Nat), f q.1] := by
  unfold enumD
  rw [List.zipIdx_map, List.map_map]
  rfl
theorem zip_filter (n p : Int) : ∀ (as pre : List (Int × Int)), (as.zipIdx pre.length).filterMap (fun q => if hld n q.1 p = true then some (natD q.2) else none) = ((List.range' pre.length as.length).filter fun k => match (pre ++ as)[k]? with | some a => hld n a p | none => false).map natD
  | [], pre => rfl
  | a :: r, pre => by
    have ih := zip_filter n p r (pre ++ [a])
    rw [List.length_append, List.length_singleton] at ih
    rw [List.zipIdx_cons, List.filterMap_cons, ih, List.length_cons, List.range'_succ, List.filter_cons]
    have e : (pre ++ a :: r)[pre.length]? = some a := by rw [List.getElem?_append_right (Nat.le_refl _), Nat.sub_self]; rfl
    rw [e, List.append_assoc, List.singleton_append]
    by_cases h : hld n a p = true
    · simp [h]
    · simp [h]
theorem atB_zip (n p : Int) (as : List (Int × Int)) : (as.zipIdx).filterMap (fun q => if hld n q.1 p = true then some (natD q.2) else none) = (atB n as p).map natD := by
  have := zip_filter n p as []
  rw [List.nil_append] at this
  unfold atB
  rw [List.range_eq_range']
  exact this
theorem w_arcs_at : WOk Sarcs_at 2 4 trarcs_at := WOk.ring (fun d r Q Y hl hr h0 => by
    obtain ⟨a, rfl⟩ := len1 hl
    unfold trarcs_at
    simp only [wSs, wS, w1, wT, wE, wA, wX, wV, wP, wC, opn, rdO_d, rdO_o, asD_d, asD_n, KQY, entry, look, put, slotV, argsOk, frzA, frzV, sv_i, sv_b, sv_s, sv_0, sv_l, sv_t, sv_d, sv_n, List.map, List.length, List.replicate, List.cons_append, List.nil_append, Nat.sub_self, biD, isD_1, boolD_b, cmpD, relD_i, opD, addD_i, addD_l, subD_i, intD_i, lenD_l, lenD_t, listD_l, listD_t, tupleD_l, int2D_i, absD_i, toIntD_i, toIntD_b, eqD_i, eqD_b, eqD_s, rngD_1, rngD_2, seqD_l, seqD_t, lstD_l, ixX_l, ixX_t, negX_i, slX_l, rvX_l, repX_i, intX_i, ixD_0, ixD_1, ixD_2, true_and, and_true, ite_self, run_need_ring]
    simpa [hr] using h0) (fun n as r Q Y hl ok h => by
    obtain ⟨a, rfl⟩ := len1 hl
    obtain ⟨h2, h3⟩ := h
    unfold trarcs_at
    simp only [wSs, wS, w1, wT, wE, wA, wX, wV, wP, wC, opn, rdO_d, rdO_o, asD_d, asD_n, KQY, entry, look, put, slotV, argsOk, frzA, frzV, sv_i, sv_b, sv_s, sv_0, sv_l, sv_t, sv_d, sv_n, List.map, List.length, List.replicate, List.cons_append, List.nil_append, Nat.sub_self, biD, isD_1, boolD_b, cmpD, relD_i, opD, addD_i, addD_l, subD_i, intD_i, lenD_l, lenD_t, listD_l, listD_t, tupleD_l, int2D_i, absD_i, toIntD_i, toIntD_b, eqD_i, eqD_b, eqD_s, rngD_1, rngD_2, seqD_l, seqD_t, lstD_l, ixX_l, ixX_t, negX_i, slX_l, rvX_l, repX_i, intX_i, ixD_0, ixD_1, ixD_2, true_and, and_true, ite_self, run_need_ring, isRing_ringD ok]
    simp only [if_true, ringD, ixX_t, ixX_l, ixD_0, ixD_1, run_need_place]
    cases ha : isNumD a n with
    | false => simpa [ha] using h2 ha
    | true =>
      obtain ⟨p, h0, h1, rfl⟩ := isNum_int.mp ha
      have n1 := ok.n1
      simp only [if_true, ixX_l, ixX_t, wI, wSs, wS, w1, wT, wE, wA, wX, wV, wP, wC, opn, rdO_d, rdO_o, asD_d, asD_n, KQY, entry, look, put, slotV, argsOk, frzA, frzV, sv_i, sv_b, sv_s, sv_0, sv_l, sv_t, sv_d, sv_n, List.map, List.length, List.replicate, List.cons_append, List.nil_append, Nat.sub_self, biD, isD_1, boolD_b, cmpD, relD_i, opD, addD_i, addD_l, subD_i, intD_i, lenD_l, lenD_t, listD_l, listD_t, tupleD_l, int2D_i, absD_i, toIntD_i, toIntD_b, eqD_i, eqD_b, eqD_s, rngD_1, rngD_2, seqD_l, seqD_t, lstD_l, ixX_l, ixX_t, negX_i, slX_l, rvX_l, repX_i, intX_i, ixD_0, ixD_1, ixD_2, true_and, and_true, ite_self, wipeG, backG]
      refine ⟨?_, ?_⟩
      · rw [enumD_len, List.length_map]; exact big20 ok.len
      · refine cLoop_pure (g := fun x => match x with | .tuple [.int k, .tuple [.int s, .int m]] => if hld n (s, m) p = true then some (.int k) else none | _ => none) _ _ (fun x hx k' hk => ?_) ?_
        · rw [enumD_map] at hx
          obtain ⟨⟨b, i⟩, _, rfl⟩ := List.mem_map.mp hx
          have hk' : k' (if hld n b p = true then some (.int (i : Nat)) else none) _ _ := hk
          simp [bindT, putAll, trarcs_at_c1, wipeG, arcD, wSs, wS, w1, wT, wE, wA, wX, wV, wP, wC, opn, rdO_d, rdO_o, asD_d, asD_n, KQY, entry, look, put, slotV, argsOk, frzA, frzV, sv_i, sv_b, sv_s, sv_0, sv_l, sv_t, sv_d, sv_n, List.map, List.length, List.replicate, List.cons_append, List.nil_append, Nat.sub_self, biD, isD_1, boolD_b, cmpD, relD_i, opD, addD_i, addD_l, subD_i, intD_i, lenD_l, lenD_t, listD_l, listD_t, tupleD_l, int2D_i, absD_i, toIntD_i, toIntD_b, eqD_i, eqD_b, eqD_s, rngD_1, rngD_2, seqD_l, seqD_t, lstD_l, ixX_l, ixX_t, negX_i, slX_l, rvX_l, repX_i, intX_i, ixD_0, ixD_1, ixD_2, true_and, and_true, ite_self]
          refine ⟨by omega, ?_⟩
          by_cases hb : hld n b p = true
          · rw [if_pos hb] at hk'
            simpa [hb] using hk'
          · rw [if_neg hb] at hk'
            simpa [hb] using hk'
        · rw [List.nil_append, enumD_map, enum_filter (p := fun k a => if hld n a p = true then some (natD k) else none) (fun k a => rfl), atB_zip]
          exact h3 p h0 h1 rfl)
def Fdo_meet : RF where
  run n as ds Q Y := match ds with
    | [a, b] => (isNumD a as.length = false → Y 1) ∧ (isNumD a as.length = true → isNumD b as.length = false → Y 1) ∧ ∀ (i j : Nat) (hi : i < as.length) (hj : j < as.length), a = .int i → b = .int j → Q (.dat (.bool (mtB n as[i] as[j])))
    | _ => False
  mono := fun h1 h2 q => by
    split at q
    · exact ⟨fun e => h2 _ (q.1 e), fun e e' => h2 _ (q.2.1 e e'), fun i j h h' e e' => h1 _ (q.2.2 i j h h' e e')⟩
    · exact q
def Sdo_meet : Summ := Summ.ring 2 Fdo_meet
theorem call_do_meet {n : Int} {as : List (Int × Int)} {i j : Nat} {Q : Val → Prop} {Y : Nat → Prop} (ok : RingOk n as) (hi : i < as.length) (hj : j < as.length) (h : Q (.dat (.bool (mtB n as[i] as[j])))) : Sdo_meet.run [ringD n as, .int (i : Nat), .int (j : Nat)] Q Y := by
  refine ring_ok rfl ok ⟨fun e => ?_, fun _ e => ?_, fun i' j' _ _ e e' => ?_⟩
  · rw [isNum_iff.mpr ⟨i, hi, rfl⟩] at e; cases e
  · rw [isNum_iff.mpr ⟨j, hj, rfl⟩] at e; cases e
  · have e1 : i' = i := by cases e; rfl
    have e2 : j' = j := by cases e'; rfl
    subst e1 e2
    exact h
def trdo_meet : Sms Unit :=
  (.cons (.one (.expr (.call "need_ring" Sneed_ring (.cons (.var 0) .nil))))
    (.cons (.one (.expr (.call "need_number" Sneed_number (.cons (.var 0) (.cons (.var 1) .nil)))))
    (.cons (.one (.expr (.call "need_number" Sneed_number (.cons (.var 0) (.cons (.var 2) .nil)))))
    (.cons (.one (.ret (.call "meet" Smeet (.cons (.ix (.var 0) (.int 0)) (.cons (.ix (.ix (.var 0) (.int 1)) (.var 1)) (.cons (.ix (.ix (.var 0) (.int 1)) (.var 2)) .nil))))))
    .nil))))

theorem w_do_meet : WOk Sdo_meet 3 3 trdo_meet := WOk.ring (fun d r Q Y hl hr h0 => by
    obtain ⟨a, b, rfl⟩ := len2 hl
    unfold trdo_meet
    simp only [wSs, wS, w1, wT, wE, wA, wX, wV, wP, wC, opn, rdO_d, rdO_o, asD_d, asD_n, KQY, entry, look, put, slotV, argsOk, frzA, frzV, sv_i, sv_b, sv_s, sv_0, sv_l, sv_t, sv_d, sv_n, List.map, List.length, List.replicate, List.cons_append, List.nil_append, Nat.sub_self, biD, isD_1, boolD_b, cmpD, relD_i, opD, addD_i, addD_l, subD_i, intD_i, lenD_l, lenD_t, listD_l, listD_t, tupleD_l, int2D_i, absD_i, toIntD_i, toIntD_b, eqD_i, eqD_b, eqD_s, rngD_1, rngD_2, seqD_l, seqD_t, lstD_l, ixX_l, ixX_t, negX_i, slX_l, rvX_l, repX_i, intX_i, ixD_0, ixD_1, ixD_2, true_and, and_true, ite_self, run_need_ring]
    simpa [hr] using h0) (fun n as r Q Y hl ok h => by
    obtain ⟨a, b, rfl⟩ := len2 hl
    obtain ⟨h1, h2, h3⟩ := h
    unfold trdo_meet
    simp only [wSs, wS, w1, wT, wE, wA, wX, wV, wP, wC, opn, rdO_d, rdO_o, asD_d, asD_n, KQY, entry, look, put, slotV, argsOk, frzA, frzV, sv_i, sv_b, sv_s, sv_0, sv_l, sv_t, sv_d, sv_n, List.map, List.length, List.replicate, List.cons_append, List.nil_append, Nat.sub_self, biD, isD_1, boolD_b, cmpD, relD_i, opD, addD_i, addD_l, subD_i, intD_i, lenD_l, lenD_t, listD_l, listD_t, tupleD_l, int2D_i, absD_i, toIntD_i, toIntD_b, eqD_i, eqD_b, eqD_s, rngD_1, rngD_2, seqD_l, seqD_t, lstD_l, ixX_l, ixX_t, negX_i, slX_l, rvX_l, repX_i, intX_i, ixD_0, ixD_1, ixD_2, true_and, and_true, ite_self, run_need_ring, isRing_ringD ok]
    simp only [if_true, ringD, ixX_t, ixX_l, ixD_0, ixD_1, run_need_number, List.length_map]
    cases ha : isNumD a as.length with
    | false => simpa [ha] using h1 ha
    | true =>
      cases hb : isNumD b as.length with
      | false => simpa [ha, hb] using h2 ha hb
      | true =>
        obtain ⟨i, hi, rfl⟩ := isNum_iff.mp ha
        obtain ⟨j, hj, rfl⟩ := isNum_iff.mp hb
        have n1 := ok.n1
        simp only [if_true, ixX_l, ixX_t, ixD_nat (j := i) rfl (arc_item hi), ixD_nat (j := j) rfl (arc_item hj), arcD, run_meet, argsOk, true_and, and_true, scalV, scal]
        exact ⟨by omega, h3 i j hi hj rfl rfl⟩)
end Ac
namespace Ac
open PySem PySem.Spec PyProof.Rows L2
section
variable {S : Type}
structure KLe (K K' : Kn S) : Prop where
  nx : ∀ Γ s, K.nx Γ s → K'.nx Γ s
  rt : ∀ v s, K.rt v s → K'.rt v s
  bk : ∀ Γ s, K.bk Γ s → K'.bk Γ s
  ct : ∀ Γ s, K.ct Γ s → K'.ct Γ s
  ex : K'.ex = K.ex
theorem w1_mono {K K' : Kn S} (h : KLe K K') (c : St1 S) {Γ : Ctx} {s : S} (q : w1 c Γ s K) : w1 c Γ s K' := by
  cases c <;> dsimp only [w1] at q ⊢
  case nop => exact h.nx _ _ q
  case asg i e => rw [h.ex]; exact wE_mono e (fun v Γ' s' => h.nx _ _) q
  case asgL i e => rw [h.ex]; exact wE_mono e (fun v Γ' s' => h.nx _ _) q
  case asgH i φ e => rw [h.ex]; exact wE_mono e (fun v Γ' s' => φ.mono (fun w s2 => h.nx _ _) (fun _ _ z => z)) q
  case asgT is e =>
    rw [h.ex]
    refine wE_mono e (fun v Γ' s' => asD_mono fun d q => ?_) q
    split at q
    · exact putAll_mono (fun Γ2 => h.nx _ _) q
    · exact q.elim
  case app i e =>
    rw [h.ex]
    split at q
    · refine wE_mono e (fun v Γ' s' => asD_mono fun d q => ?_) q
      split at q
      · exact ⟨q.1, h.nx _ _ q.2⟩
      · exact q.elim
    · exact q.elim
  case ins i j e =>
    rw [h.ex]
    split at q
    · refine opnE_mono j (fun y Γ1 s1 => wE_mono e (fun v Γ' s' => asD_mono fun d q => ?_)) q
      split at q
      · exact ⟨q.1, q.2.1, q.2.2.1, h.nx _ _ q.2.2.2⟩
      · exact q.elim
    · exact q.elim
  case setI i j e =>
    rw [h.ex]
    refine wE_mono e (fun v Γ' s' => asD_mono fun d q => ?_) q
    split at q
    · refine opnE_mono j (fun y Γ2 s2 q => ?_) q
      split at q
      · split at q
        · exact h.nx _ _ q
        · exact q.elim
      · exact q.elim
    · exact q.elim
  case aug i o e =>
    rw [h.ex]
    split at q
    · refine opnE_mono e (fun y Γ' s' q => ?_) q
      split at q
      · split at q
        · exact h.nx _ _ q
        · exact h.nx _ _ q
        · exact q.elim
      · exact q.elim
    · exact q.elim
  case expr e => rw [h.ex]; exact wE_mono e (fun v Γ' s' => h.nx _ _) q
  case ret e =>
    cases e with
    | var i =>
      dsimp only at q ⊢
      split at q <;> first | exact h.rt _ _ q | exact q.elim
    | _ =>
      dsimp only at q ⊢
      rw [h.ex]
      exact wE_mono _ (fun v Γ' s' => h.rt _ _) q
  case brk => exact h.bk _ _ q
  case cnt => exact h.ct _ _ q
  case raise x n => rw [h.ex]; exact q
theorem fLoop_mono {f : D → Ctx → S → Kn S → Prop} (hf : ∀ (x : D) (Γ : Ctx) (s : S) (K K' : Kn S), KLe K K' → f x Γ s K → f x Γ s K') {K K' : Kn S} (h : KLe K K') : ∀ {xs : List D} {Γ : Ctx} {s : S}, fLoop f K xs Γ s → fLoop f K' xs Γ s
  | [], _, _, q => h.nx _ _ q
  | x :: r, _, _, q => by
    refine hf _ _ _ { K with nx := fun Γ' s' => fLoop f K r Γ' s', ct := fun Γ' s' => fLoop f K r Γ' s', bk := K.nx } _ ?_ q
    exact { nx := fun Γ s q => fLoop_mono hf h (xs := r) q, rt := h.rt, bk := h.nx, ct := fun Γ s q => fLoop_mono hf h (xs := r) q, ex := h.ex }
theorem wT_mono {xc : Nat → Ctx → S → Prop} {c : E S} {Γ : Ctx} {s : S} {Q Q' : Bool → Ctx → S → Prop} (h : ∀ b Γ s, Q b Γ s → Q' b Γ s) (q : wT xc c Γ s Q) : wT xc c Γ s Q' := opnE_mono c (fun d Γ1 s1 => boolD_mono fun b => h b Γ1 s1) q
theorem wJ_mono' {xc : Nat → Ctx → S → Prop} (it : It S) {Γ : Ctx} {s : S} {Q Q' : List D → Ctx → S → Prop} (h : ∀ v Γ' s', Q v Γ' s' → Q' v Γ' s') (q : wJ xc it Γ s Q) : wJ xc it Γ s Q' := by
  cases it with
  | seq e =>
    unfold wJ at q ⊢
    exact wE_mono e (fun v Γ1 s1 => asD_mono fun d => seqD_mono fun xs => h _ _ _) q
  | rng es =>
    unfold wJ at q ⊢
    exact wA_mono es (fun ds Γ1 s1 => rngD_mono fun xs => h _ _ _) q
  | enu e =>
    unfold wJ at q ⊢
    exact wE_mono e (fun v Γ1 s1 => asD_mono fun d => lstD_mono fun xs => h _ _ _) q
  | zip a b =>
    unfold wJ at q ⊢
    exact wE_mono a (fun v Γ1 s1 => asD_mono fun d q => wE_mono b (fun v Γ2 s2 => asD_mono fun d2 => lstD_mono fun xs => lstD_mono fun ys => h _ _ _) q) q
mutual
theorem wS_mono : ∀ (c : Sm S) {K K' : Kn S}, KLe K K' → ∀ {Γ : Ctx} {s : S}, wS c Γ s K → wS c Γ s K'
  | .one c, K, K', h, Γ, s, q => by
    unfold wS at q ⊢
    exact w1_mono h c q
  | .ite c a b, K, K', h, Γ, s, q => by
    unfold wS at q ⊢
    rw [h.ex]
    exact wT_mono (fun v Γ1 s1 => ite_mono (wSs_mono a h) (wSs_mono b h)) q
  | .whl c b, K, K', h, Γ, s, q => by
    unfold wS at q ⊢
    obtain ⟨V, h0, turn⟩ := q
    refine ⟨V, h0, fun m Γ s v => ?_⟩
    rw [h.ex]
    refine wT_mono (fun v Γ1 s1 q => ite_mono (fun q => ?_) (h.nx _ _) q) (turn m Γ s v)
    refine wSs_mono b (K := { K with nx := fun Γ' s' => ∃ m', m' < m ∧ V m' Γ' s', ct := fun Γ' s' => ∃ m', m' < m ∧ V m' Γ' s', bk := K.nx }) ?_ q
    exact { nx := fun _ _ z => z, rt := h.rt, bk := h.nx, ct := fun _ _ z => z, ex := rfl }
  | .for tg it b, K, K', h, Γ, s, q => by
    unfold wS at q ⊢
    rw [h.ex]
    exact wJ_mono' it (fun xs Γ1 s1 q => ⟨q.1, fLoop_mono (f := fun x Γ s K' => bindT tg x Γ fun Γ' => wSs b Γ' s K') (fun x Γ s K K' h q => bindT_mono (fun Γ' => wSs_mono b h) q) h q.2⟩) q
  | .tryC b i j c, K, K', h, Γ, s, q => by
    unfold wS at q ⊢
    obtain ⟨K0, le, q⟩ := q
    exact ⟨K0, ⟨fun _ _ z => h.nx _ _ (le.nx _ _ z), fun _ _ z => h.rt _ _ (le.rt _ _ z), fun _ _ z => h.bk _ _ (le.bk _ _ z), fun _ _ z => h.ct _ _ (le.ct _ _ z)⟩, q⟩
theorem wSs_mono : ∀ (c : Sms S) {K K' : Kn S}, KLe K K' → ∀ {Γ : Ctx} {s : S}, wSs c Γ s K → wSs c Γ s K'
  | .nil, K, K', h, Γ, s, q => by
    unfold wSs at q ⊢
    exact h.nx _ _ q
  | .cons a r, K, K', h, Γ, s, q => by
    unfold wSs at q ⊢
    refine wS_mono a (K := { K with nx := fun Γ' s' => wSs r Γ' s' K }) ?_ q
    exact { nx := fun Γ s => wSs_mono r h, rt := h.rt, bk := h.bk, ct := h.ct, ex := h.ex }
end
/-- one statement, what it reaches, the rest -/
theorem wSs_cut {a : Sm S} {r : Sms S} {Γ : Ctx} {s : S} {K : Kn S} (P : Ctx → S → Prop) (h1 : wS a Γ s { K with nx := P }) (h2 : ∀ Γ' s', P Γ' s' → wSs r Γ' s' K) : wSs (.cons a r) Γ s K := by
  unfold wSs
  refine wS_mono a (K := { K with nx := P }) ?_ h1
  exact { nx := fun Γ s => h2 Γ s, rt := fun _ _ z => z, bk := fun _ _ z => z, ct := fun _ _ z => z, ex := rfl }
end
end Ac
namespace Ac
open PySem PySem.Spec PyProof.Rows L2
/-! ### defs with a state -/
def KE2 (Q : Val → Unit → Prop) (Y : Nat → Unit → Prop) : Kn Unit := { nx := fun _ s' => Q (.dat .none) s', rt := fun v s' => Q v s', ex := fun n _ s' => Y n s' }
def WOkE (φ : ESumm Unit) (np nN : Nat) (body : Sms Unit) : Prop := ∀ ws s Q Y, φ.run ws s Q Y → ws.length = np ∧ wSs body (entry nN ws) s (KE2 Q Y)
theorem ixD_any {xs : List D} {i : Int} {k : D → Prop} (h0 : 0 ≤ i) (h1 : i < xs.length) (h : ∀ x ∈ xs, k x) : ixD xs i k := by
  have hl : i.toNat < xs.length := by omega
  rw [ixD_nat (j := i.toNat) (by omega) (List.getElem?_eq_getElem hl)]
  exact h _ (List.getElem_mem hl)
theorem arcOk_mod {n x m : Int} (hn : 0 < n) (h1 : 1 ≤ m) (h2 : m ≤ n) : arcOk n (x % n, m) := ⟨Int.emod_nonneg _ (by omega), Int.emod_lt_of_pos _ hn, h1, h2⟩
theorem notEmpty_iff {α : Type} {l : List α} : (!l.isEmpty) = true ↔ l ≠ [] := by cases l <;> simp
/-! ### the law itself -/
def Elaw : ESumm Unit where
  run vs s Q Y := match vs with
    | [.dat (.list xs)] => ∃ ns : List Int, xs = ns.map PyData.int ∧ ns.length ≤ 63 ∧ Q (.dat (.bool true)) ()
    | _ => False
  mono := fun {vs s Q Q' Y Y'} h1 h2 q => by
    split at q
    · obtain ⟨ns, e, h, q⟩ := q; exact ⟨ns, e, h, h1 _ _ q⟩
    · exact q.elim
theorem Elaw_run {vs : List Val} {s : Unit} {Q : Val → Unit → Prop} {Y : Nat → Unit → Prop} (h : Elaw.run vs s Q Y) : ∃ ns : List Int, vs = [.dat (.list (ns.map PyData.int))] ∧ ns.length ≤ 63 ∧ Q (.dat (.bool true)) () := by
  unfold Elaw at h
  dsimp only at h
  split at h
  · obtain ⟨ns, rfl, h1, h2⟩ := h; exact ⟨ns, rfl, h1, h2⟩
  · exact h.elim
/-! ### clean things -/
theorem okc_list {xs : List D} (h : ∀ x ∈ xs, okD 7 x = true ∧ clean x = true) : okc (.list xs) = true := by
  unfold okc
  rw [Bool.and_eq_true]
  refine ⟨List.all_eq_true.mpr fun x hx => (h x hx).1, ?_⟩
  simp only [clean]
  exact cleanL_all fun x hx => (h x hx).2
theorem okc_ints (ns : List Int) : okc (.list (ns.map .int)) = true := okc_list fun x hx => by
  obtain ⟨i, _, rfl⟩ := List.mem_map.mp hx
  exact ⟨rfl, rfl⟩
theorem okc_ring (n : Int) (as : List (Int × Int)) : okc (ringD n as) = true := by
  unfold okc ringD
  rw [Bool.and_eq_true]
  constructor
  · show ([PyData.int n, .list (as.map arcD)]).all (okD 7) = true
    rw [List.all_cons, List.all_cons]
    have : okD 7 (.list (as.map arcD)) = true := List.all_eq_true.mpr fun x hx => by
      obtain ⟨a, _, rfl⟩ := List.mem_map.mp hx
      rfl
    rw [this]
    rfl
  · simp only [clean, cleanL, Bool.and_true, Bool.true_and]
    exact cleanL_all fun x hx => by
      obtain ⟨a, _, rfl⟩ := List.mem_map.mp hx
      rfl
theorem eqD_self {x : D} {k : Bool → Prop} (hx : okc x = true) (h : k true) : eqD x x k := eqD_okc hx hx (fun _ => h) fun e => absurd rfl e
end Ac
namespace Ac
open PySem PySem.Spec PyProof.Rows L2
/-! ### arcs and places, plainly -/
theorem mem_plc {n : Int} {a : Int × Int} (ok : arcOk n a) {x : Int} : x ∈ plc n a ↔ 0 ≤ x ∧ x < n ∧ hld n a x = true := by
  obtain ⟨h0, h1, h2, h3⟩ := ok
  have hn : 0 < n := by omega
  unfold plc hld
  rw [List.mem_map]
  constructor
  · rintro ⟨k, hk, rfl⟩
    rw [List.mem_range] at hk
    refine ⟨Int.emod_nonneg _ (by omega), Int.emod_lt_of_pos _ hn, ?_⟩
    rw [decide_eq_true_eq]
    have e : ((a.1 + (k : Int)) % n - a.1) % n = (k : Int) := by
      rw [Int.emod_sub_emod]
      have : a.1 + (k : Int) - a.1 = k := by omega
      rw [this]
      exact Int.emod_eq_of_lt (by omega) (by omega)
    rw [e]
    omega
  · rintro ⟨g0, g1, g2⟩
    rw [decide_eq_true_eq] at g2
    have k0 := Int.emod_nonneg (x - a.1) (show n ≠ 0 by omega)
    refine ⟨((x - a.1) % n).toNat, by rw [List.mem_range]; omega, ?_⟩
    rw [Int.toNat_of_nonneg k0, Int.add_emod_emod]
    have : a.1 + (x - a.1) = x := by omega
    rw [this]
    exact Int.emod_eq_of_lt g0 g1
theorem plc_len {n : Int} {a : Int × Int} : (plc n a).length = a.2.toNat := by
  unfold plc
  rw [List.length_map, List.length_range]
theorem hld_start {n : Int} {a : Int × Int} (ok : arcOk n a) : hld n a a.1 = true := by
  unfold hld
  rw [decide_eq_true_eq, Int.sub_self, Int.zero_emod]
  have := ok.2.2.1
  omega
theorem mtB_iff {n : Int} {a b : Int × Int} (oa : arcOk n a) (ob : arcOk n b) : mtB n a b = true ↔ ∃ x, 0 ≤ x ∧ x < n ∧ hld n a x = true ∧ hld n b x = true := by
  have hn : 0 < n := by have := oa.1; have := oa.2.1; omega
  unfold mtB
  rw [Bool.or_eq_true]
  constructor
  · rintro (h | h)
    · exact ⟨b.1, ob.1, ob.2.1, h, hld_start ob⟩
    · exact ⟨a.1, oa.1, oa.2.1, hld_start oa, h⟩
  · rintro ⟨x, _, _, h1, h2⟩
    unfold hld at h1 h2 ⊢
    rw [decide_eq_true_eq] at h1 h2
    rw [decide_eq_true_eq, decide_eq_true_eq]
    have u0 := Int.emod_nonneg (x - a.1) (show n ≠ 0 by omega)
    have v0 := Int.emod_nonneg (x - b.1) (show n ≠ 0 by omega)
    have u1 := Int.emod_lt_of_pos (x - a.1) hn
    have v1 := Int.emod_lt_of_pos (x - b.1) hn
    by_cases hc : (x - a.1) % n ≤ (x - b.1) % n
    · right
      have e : (a.1 - b.1) % n = (x - b.1) % n - (x - a.1) % n := by
        have e1 : a.1 - b.1 = (x - b.1) - (x - a.1) := by omega
        rw [e1, Int.sub_emod]
        exact Int.emod_eq_of_lt (by omega) (by omega)
      rw [e]
      omega
    · left
      have e : (b.1 - a.1) % n = (x - a.1) % n - (x - b.1) % n := by
        have e1 : b.1 - a.1 = (x - a.1) - (x - b.1) := by omega
        rw [e1, Int.sub_emod]
        exact Int.emod_eq_of_lt (by omega) (by omega)
      rw [e]
      omega
theorem mtB_comm {n : Int} {a b : Int × Int} : mtB n a b = mtB n b a := by
  unfold mtB
  exact Bool.or_comm _ _
theorem mem_atB {n : Int} {as : List (Int × Int)} {p : Int} {k : Nat} : k ∈ atB n as p ↔ ∃ h : k < as.length, hld n as[k] p = true := by
  unfold atB
  rw [List.mem_filter, List.mem_range]
  constructor
  · rintro ⟨h, h2⟩
    rw [List.getElem?_eq_getElem h] at h2
    exact ⟨h, h2⟩
  · rintro ⟨h, h2⟩
    rw [List.getElem?_eq_getElem h]
    exact ⟨h, h2⟩
/-! ### more on meaning -/
theorem inD_ints {x : Int} : ∀ {ns : List Int}, inD (.int x) (ns.map .int) = decide (x ∈ ns)
  | [] => by simp [inD]
  | n :: r => by
    have ih := inD_ints (x := x) (ns := r)
    unfold inD at ih ⊢
    rw [List.map_cons, List.any_cons, ih, eqv_int]
    by_cases h : n = x
    · subst h; simp
    · simp [h, Ne.symm h]
theorem flat_ints {ns : List Int} : (ns.map PyData.int).all flatD = true := List.all_eq_true.mpr fun x hx => by
  obtain ⟨i, _, rfl⟩ := List.mem_map.mp hx
  rfl
theorem memD_ints {neg : Bool} {x : Int} {ns : List Int} {k : Val → Prop} : memD neg (.int x) (.list (ns.map .int)) k = k (.dat (.bool (if neg then !decide (x ∈ ns) else decide (x ∈ ns)))) := by
  show (flatD (.int x) = true ∧ (ns.map PyData.int).all flatD = true ∧ _) = _
  rw [inD_ints, flat_ints]
  simp [flatD]
theorem fLoop_all {S : Type} {f : D → Ctx → S → Kn S → Prop} {K : Kn S} (I : Ctx → S → Prop) : ∀ {xs : List D}, (∀ Γ s, I Γ s → K.nx Γ s) →
    (∀ x ∈ xs, ∀ Γ s (K' : Kn S), I Γ s → (∀ Γ' s', I Γ' s' → K'.nx Γ' s') → K'.rt = K.rt → K'.ex = K.ex → f x Γ s K') → ∀ {Γ : Ctx} {s : S}, I Γ s → fLoop f K xs Γ s
  | [], hnx, _, Γ, s, h => hnx Γ s h
  | x :: r, hnx, hst, Γ, s, h => hst x List.mem_cons_self Γ s _ h (fun Γ' s' h' => fLoop_all I (xs := r) hnx (fun y hy => hst y (List.mem_cons_of_mem _ hy)) h') rfl rfl
/-- a summary by cases -/
def Summ.ex {α : Type} (args : α → List D) (pre : α → Prop) (res : α → Val) : Summ where
  run ds Q _ := ∃ a, ds = args a ∧ pre a ∧ Q (res a)
  mono := fun h1 _ ⟨a, e, p, q⟩ => ⟨a, e, p, h1 _ q⟩
theorem WOk.ex {α : Type} {args : α → List D} {pre : α → Prop} {res : α → Val} {np nN : Nat} {body : Sms Unit} (h : ∀ a, pre a → (args a).length = np ∧ ∀ (Q : Val → Prop) (Y : Nat → Prop), Q (res a) → wSs body (entry nN ((args a).map .dat)) () (KQY Q Y)) : WOk (Summ.ex args pre res) np nN body := fun ds Q Y ⟨a, e, p, q⟩ => by
  subst e
  exact ⟨(h a p).1, (h a p).2 Q Y q⟩
theorem plc_big {n : Int} {as : List (Int × Int)} {a : Int × Int} (ok : RingOk n as) (h : a ∈ as) : (plc n a).length ≤ 40 := by
  rw [plc_len]
  have := (ok.arcs a h).2.2.2
  have := ok.n40
  omega
theorem filterMap_no {α β : Type} {xs : List α} : xs.filterMap (fun _ => (none : Option β)) = [] := by
  induction xs with
  | nil => rfl
  | cons x r ih => rw [List.filterMap_cons]; exact ih
/-- numbers picked -/
def pickN (q : Nat → Bool) : D → Option D
  | .int k => if q k.toNat = true then some (.int k) else none
  | _ => none
theorem filter_range {q : Nat → Bool} {m : Nat} : ((List.range m).map fun i => PyData.int (i : Nat)).filterMap (pickN q) = ((List.range m).filter q).map natD := by
  induction m with
  | zero => rfl
  | succ m ih =>
    rw [List.range_succ, List.map_append, List.filterMap_append, List.filter_append, List.map_append, ih]
    congr 1
    by_cases h : q m = true <;> simp [h, natD, pickN]
def pickI (q : Int → Bool) : D → Option D
  | .int k => if q k = true then some (.int k) else none
  | _ => none
theorem filter_ints {q : Int → Bool} {ns : List Int} : (ns.map PyData.int).filterMap (pickI q) = (ns.filter q).map PyData.int := by
  induction ns with
  | nil => rfl
  | cons n r ih =>
    rw [List.map_cons, List.filterMap_cons, List.filter_cons, ih]
    by_cases h : q n = true <;> simp [h, pickI]
def holdsAt (n : Int) (as : List (Int × Int)) (p : Int) (k : Nat) : Bool := match as[k]? with
  | some a => hld n a p
  | none => false
theorem atB_eq {n : Int} {as : List (Int × Int)} {p : Int} : atB n as p = (List.range as.length).filter (holdsAt n as p) := rfl
theorem natD_ints {ks : List Nat} : ks.map natD = (ks.map fun k : Nat => (k : Int)).map PyData.int := by
  rw [List.map_map]
  rfl
theorem atB_len {n : Int} {as : List (Int × Int)} {p : Int} : (atB n as p).length ≤ as.length := by
  unfold atB
  exact Nat.le_trans (List.length_filter_le _ _) (by rw [List.length_range]; exact Nat.le_refl _)
end Ac
namespace Ac
open PySem PySem.Spec PyProof.Rows L2
/-! ### rising lists -/
def inR (b : Int) : D → Bool
  | .int i => decide (0 ≤ i) && decide (i < b)
  | _ => false
def risN : List Int → Bool
  | [] => true
  | [_] => true
  | a :: b :: r => decide (a < b) && risN (b :: r)
theorem risN_iff : ∀ {ns : List Int}, risN ns = true ↔ ns.Pairwise (· < ·)
  | [] => by simp [risN]
  | [a] => by simp [risN]
  | a :: b :: r => by
    rw [risN, Bool.and_eq_true, decide_eq_true_eq, risN_iff (ns := b :: r), List.pairwise_cons (a := a)]
    constructor
    · rintro ⟨h1, h2⟩
      refine ⟨fun c hc => ?_, h2⟩
      rcases List.mem_cons.mp hc with rfl | hc
      · exact h1
      · exact Int.lt_trans h1 ((List.pairwise_cons.mp h2).1 c hc)
    · rintro ⟨h1, h2⟩
      exact ⟨h1 b List.mem_cons_self, h2⟩
def risD (d : D) (b : Int) : Bool := match d with
  | .list xs => xs.all (inR b) && (match intsD xs with | some ns => risN ns | none => false)
  | _ => false
theorem inR_ints {b : Int} : ∀ {xs : List D}, xs.all (inR b) = true → ∃ ns : List Int, xs = ns.map .int ∧ ∀ m ∈ ns, 0 ≤ m ∧ m < b
  | [], _ => ⟨[], rfl, fun m hm => nomatch hm⟩
  | x :: xs, h => by
    rw [List.all_cons, Bool.and_eq_true] at h
    obtain ⟨ns, rfl, hb⟩ := inR_ints h.2
    cases x with
    | int i =>
      have h1 : (decide (0 ≤ i) && decide (i < b)) = true := h.1
      rw [Bool.and_eq_true, decide_eq_true_eq, decide_eq_true_eq] at h1
      refine ⟨i :: ns, rfl, fun m hm => ?_⟩
      rcases List.mem_cons.mp hm with rfl | hm
      · exact h1
      · exact hb m hm
    | _ => cases h.1
theorem risD_ints {ns : List Int} {b : Int} : risD (.list (ns.map .int)) b = true ↔ (∀ m ∈ ns, 0 ≤ m ∧ m < b) ∧ ns.Pairwise (· < ·) := by
  unfold risD
  dsimp only
  rw [intsD_map, Bool.and_eq_true, risN_iff, List.all_map, List.all_eq_true]
  refine and_congr ⟨fun h m hm => ?_, fun h m hm => ?_⟩ Iff.rfl
  · have : (decide (0 ≤ m) && decide (m < b)) = true := h m hm
    rw [Bool.and_eq_true, decide_eq_true_eq, decide_eq_true_eq] at this
    exact this
  · show (decide (0 ≤ m) && decide (m < b)) = true
    rw [Bool.and_eq_true, decide_eq_true_eq, decide_eq_true_eq]
    exact h m hm
def bigL : D → Prop
  | .list xs => xs.length ≤ 90000
  | _ => True
def S_law_rising : Summ where
  run ds Q _ := ∃ d b, ds = [d, .int b] ∧ bigL d ∧ Q (.dat (.bool (risD d b)))
  mono := fun h1 _ ⟨d, b, e, hl, q⟩ => ⟨d, b, e, hl, h1 _ q⟩
theorem call_rising {d : D} {b : Int} {Q : Val → Prop} {Y : Nat → Prop} (hl : bigL d) (h : Q (.dat (.bool (risD d b)))) : S_law_rising.run [d, .int b] Q Y := ⟨d, b, rfl, hl, h⟩
def outR (b : Int) (d : D) : Option D := if inR b d = true then none else some d
def fallG (ns : List Int) : D → Option D
  | .int k => if ns.getD k.toNat 0 ≤ ns.getD (k - 1).toNat 0 then some (.int k) else none
  | _ => none
theorem fall_iff {ns : List Int} : (((List.range ((ns.length : Int) - 1).toNat).map fun i : Nat => PyData.int (1 + (i : Nat))).filterMap (fallG ns)).isEmpty = true ↔ ns.Pairwise (· < ·) := by
  rw [filterMap_empty]
  constructor
  · intro h
    rw [List.pairwise_iff_getElem]
    have step : ∀ i (hi : i + 1 < ns.length), ns[i] < ns[i + 1] := fun i hi => by
      have := h (.int (1 + (i : Nat))) (List.mem_map.mpr ⟨i, List.mem_range.mpr (by omega), rfl⟩)
      unfold fallG at this
      dsimp only at this
      have e1 : (1 + (i : Int)).toNat = i + 1 := by omega
      have e2 : (1 + (i : Int) - 1).toNat = i := by omega
      rw [e1, e2, List.getD_eq_getElem?_getD, List.getD_eq_getElem?_getD, List.getElem?_eq_getElem hi, List.getElem?_eq_getElem (by omega)] at this
      dsimp only [Option.getD] at this
      by_cases hc : ns[i + 1] ≤ ns[i]
      · rw [if_pos hc] at this; cases this
      · omega
    have all : ∀ d i (hi : i + d + 1 < ns.length), ns[i] < ns[i + d + 1] := by
      intro d
      induction d with
      | zero => intro i hi; exact step i hi
      | succ d ih =>
        intro i hi
        have h1 := ih i (by omega)
        have h2 := step (i + d + 1) (by omega)
        have e : i + (d + 1) + 1 = i + d + 1 + 1 := by omega
        simp only [e]
        omega
    intro i j hi hj hij
    have := all (j - i - 1) i (by omega)
    have e : i + (j - i - 1) + 1 = j := by omega
    simp only [e] at this
    exact this
  · intro h x hx
    obtain ⟨i, hi, rfl⟩ := List.mem_map.mp hx
    rw [List.mem_range] at hi
    unfold fallG
    dsimp only
    have e1 : (1 + (i : Int)).toNat = i + 1 := by omega
    have e2 : (1 + (i : Int) - 1).toNat = i := by omega
    rw [e1, e2, List.getD_eq_getElem?_getD, List.getD_eq_getElem?_getD, List.getElem?_eq_getElem (by omega), List.getElem?_eq_getElem (by omega)]
    dsimp only [Option.getD]
    have := List.pairwise_iff_getElem.mp h i (i + 1) (by omega) (by omega) (by omega)
    rw [if_neg (by omega)]
theorem sv_r {n : Int} {as : List (Int × Int)} : scalV (.dat (ringD n as)) = false := rfl
theorem ixR0 {n : Int} {as : List (Int × Int)} {k : D → Prop} : ixX (ringD n as) (.int 0) k = k (.int n) := by
  unfold ringD
  rw [ixX_t, ixD_0]
theorem ixR1 {n : Int} {as : List (Int × Int)} {k : D → Prop} : ixX (ringD n as) (.int 1) k = k (.list (as.map arcD)) := by
  unfold ringD
  rw [ixX_t, ixD_1]
/-! ### turns that may end a def -/
theorem fLoop_find {S α : Type} {f : D → Ctx → S → Kn S → Prop} {K : Kn S} {g : α → D} {p : α → Bool} {xs0 : List α} (I : Ctx → S → Prop) (hnx : xs0.all p = true → ∀ Γ s, I Γ s → K.nx Γ s)
    (hst : ∀ a ∈ xs0, ∀ Γ s (K' : Kn S), I Γ s → K'.rt = K.rt → K'.ex = K.ex → (p a = true → ∀ Γ' s', I Γ' s' → K'.nx Γ' s') → f (g a) Γ s K') :
    ∀ (xs done : List α), xs0 = done ++ xs → done.all p = true → ∀ (Γ : Ctx) (s : S), I Γ s → fLoop f K (xs.map g) Γ s
  | [], done, e, hd, Γ, s, h => hnx (by rw [e, List.append_nil]; exact hd) Γ s h
  | x :: r, done, e, hd, Γ, s, h => hst x (by rw [e]; simp) Γ s _ h rfl rfl fun hp Γ' s' h' => fLoop_find I hnx hst r (done ++ [x]) (by rw [e]; simp) (by rw [List.all_append, hd]; simp [hp]) Γ' s' h'
theorem fLoop_findA {S α : Type} {f : D → Ctx → S → Kn S → Prop} {K : Kn S} {g : α → D} {p : α → Bool} {xs : List α} (I : Ctx → S → Prop) (hnx : xs.all p = true → ∀ Γ s, I Γ s → K.nx Γ s)
    (hst : ∀ a ∈ xs, ∀ Γ s (K' : Kn S), I Γ s → K'.rt = K.rt → K'.ex = K.ex → (p a = true → ∀ Γ' s', I Γ' s' → K'.nx Γ' s') → f (g a) Γ s K') {Γ : Ctx} {s : S} (h : I Γ s) : fLoop f K (xs.map g) Γ s :=
  fLoop_find I hnx hst xs [] rfl rfl Γ s h
theorem all_false {α : Type} {p : α → Bool} {xs : List α} {a : α} (h : a ∈ xs) (hp : p a = false) : xs.all p = false := List.all_eq_false.mpr ⟨a, h, by rw [hp]; exact Bool.noConfusion⟩
/-- an invariant over things, by what is done and what is left -/
theorem fLoop_mp {S α : Type} {f : D → Ctx → S → Kn S → Prop} {K : Kn S} {g : α → D} (I : List α → List α → Ctx → S → Prop) (hnx : ∀ done Γ s, I done [] Γ s → K.nx Γ s)
    (hstep : ∀ done x r Γ s (K' : Kn S), I done (x :: r) Γ s → (∀ Γ' s', I (done ++ [x]) r Γ' s' → K'.nx Γ' s') → (∀ Γ' s', I (done ++ [x]) r Γ' s' → K'.ct Γ' s') → K'.bk = K.nx → K'.rt = K.rt → K'.ex = K.ex → f (g x) Γ s K') :
    ∀ (xs done : List α) (Γ : Ctx) (s : S), I done xs Γ s → fLoop f K (xs.map g) Γ s
  | [], done, Γ, s, h => hnx done Γ s h
  | x :: r, done, Γ, s, h => hstep done x r Γ s _ h (fun Γ' s' h' => fLoop_mp I hnx hstep r (done ++ [x]) Γ' s' h') (fun Γ' s' h' => fLoop_mp I hnx hstep r (done ++ [x]) Γ' s' h') rfl rfl rfl
/-- a comprehension over things -/
theorem cLoop_mp {S α : Type} {f : D → Ctx → S → (Option D → Ctx → S → Prop) → Prop} {g : α → D} {q : α → Option D} {Γ : Ctx} {s : S} {k : List D → Ctx → S → Prop} : ∀ (xs : List α) (acc : List D), (∀ x ∈ xs, ∀ k' : Option D → Ctx → S → Prop, k' (q x) Γ s → f (g x) Γ s k') → k (acc ++ xs.filterMap q) Γ s → cLoop f (xs.map g) Γ s acc k
  | [], acc, _, h => by
    rw [List.filterMap_nil, List.append_nil] at h
    exact h
  | x :: r, acc, hf, h => by
    refine hf x List.mem_cons_self _ (cLoop_mp r _ (fun y hy => hf y (List.mem_cons_of_mem _ hy)) ?_)
    rw [List.append_assoc]
    have e : (q x).toList ++ r.filterMap q = (x :: r).filterMap q := by
      cases e : q x with
      | none => rw [List.filterMap_cons_none e]; rfl
      | some y => rw [List.filterMap_cons_some e]; rfl
    rw [e]
    exact h
theorem fm_pick {α β : Type} {p : α → Bool} {f : α → β} : ∀ L : List α, (L.filterMap fun k => if p k = true then some (f k) else none) = (L.filter p).map f
  | [] => rfl
  | k :: L => by
    rw [List.filterMap_cons, fm_pick L, List.filter_cons]
    by_cases h : p k = true <;> simp [h]
theorem fm_drop {α β : Type} {p : α → Bool} {f : α → β} : ∀ L : List α, (L.filterMap fun k => if p k = true then none else some (f k)) = (L.filter fun k => !p k).map f
  | [] => rfl
  | k :: L => by
    rw [List.filterMap_cons, fm_drop L, List.filter_cons]
    by_cases h : p k = true <;> simp [h]
theorem fm_all {α β : Type} {f : α → β} : ∀ L : List α, (L.filterMap fun k => some (f k)) = L.map f
  | [] => rfl
  | k :: L => by rw [List.filterMap_cons, fm_all L]; rfl
theorem pairsD_map : ∀ ps : List (Int × Int), pairsD (ps.map pairD) = some ps
  | [] => rfl
  | p :: r => by
    show (pairsD (r.map pairD)).map ((p.1, p.2) :: ·) = _
    rw [pairsD_map r]
    rfl
theorem minL_mp {α : Type} {e : α → Int} {L : List α} {k : Val → Prop} (hne : L ≠ []) (h : ∀ j ∈ L, (∀ i ∈ L, e j ≤ e i) → k (.dat (.int (e j)))) : minLD [.list (L.map fun k => .int (e k))] k := by
  have el : (L.map fun k => PyData.int (e k)) = (L.map e).map .int := by rw [List.map_map]; rfl
  show ∃ ns, intsD (L.map fun k => PyData.int (e k)) = some ns ∧ 0 < ns.length ∧ ∀ m, m ∈ ns → (∀ y, y ∈ ns → m ≤ y) → k (.dat (.int m))
  refine ⟨L.map e, by rw [el]; exact intsD_map _, by rw [List.length_map]; exact List.length_pos_iff.mpr hne, fun m hm hy => ?_⟩
  obtain ⟨j, hj, rfl⟩ := List.mem_map.mp hm
  exact h j hj fun i hi => hy _ (List.mem_map.mpr ⟨i, hi, rfl⟩)
theorem idx_mp {α : Type} {e : α → Int} {L : List α} {y : Int} {k : Val → Prop} (hj : ∃ j ∈ L, e j = y) (h : ∀ (i : Nat) (hi : i < L.length), e L[i] = y → (∀ (j : Nat) (hj : j < i), e L[j] ≠ y) → k (.dat (.int (i : Nat)))) : mtD .index (.list (L.map fun k => .int (e k))) [.int y] k := by
  have el : (L.map fun k => PyData.int (e k)) = (L.map e).map .int := by rw [List.map_map]; rfl
  show ∃ ns, intsD (L.map fun k => PyData.int (e k)) = some ns ∧ (match idxD ns y with | some j => k (.dat (.int (j : Nat))) | none => False)
  refine ⟨L.map e, by rw [el]; exact intsD_map _, ?_⟩
  cases q : idxD (L.map e) y with
  | none =>
    unfold idxD at q
    rw [List.findIdx?_eq_none_iff] at q
    obtain ⟨j, hj, hy⟩ := hj
    have := q _ (List.mem_map.mpr ⟨j, hj, rfl⟩)
    rw [hy] at this
    simp at this
  | some i =>
    unfold idxD at q
    rw [List.findIdx?_eq_some_iff_getElem] at q
    obtain ⟨hi, h1, h2⟩ := q
    have hi' : i < L.length := by rw [List.length_map] at hi; exact hi
    refine h i hi' ?_ fun j hj => ?_
    · simpa using h1
    · have := h2 j hj
      simpa using this
theorem nodup_len {α : Type} [DecidableEq α] : ∀ {l P : List α}, l.Nodup → (∀ x ∈ l, x ∈ P) → l.length ≤ P.length
  | [], _, _, _ => Nat.zero_le _
  | x :: l, P, hn, h => by
    rw [List.nodup_cons] at hn
    have hx := h x List.mem_cons_self
    have := nodup_len (l := l) (P := P.erase x) hn.2 fun y hy => (List.mem_erase_of_ne (fun e : y = x => hn.1 (e ▸ hy))).mpr (h y (List.mem_cons_of_mem _ hy))
    rw [List.length_erase_of_mem hx] at this
    have := List.length_pos_of_mem hx
    rw [List.length_cons]
    omega
end Ac
namespace Ac
open PySem PySem.Spec PyProof.Rows L2
/-! ### what may be shown, how deep, how long -/
def Rk (k w : Nat) (d : D) : Prop := d.showable = true ∧ d.depth ≤ k ∧ d.shown.length ≤ w
theorem Rk.mono {k k' w w' : Nat} {d : D} (h : Rk k w d) (hk : k ≤ k') (hw : w ≤ w') : Rk k' w' d := ⟨h.1, Nat.le_trans h.2.1 hk, Nat.le_trans h.2.2 hw⟩
theorem Rk.ok {k w : Nat} {d : D} (h : Rk k w d) (hk : k ≤ 60) (hw : w ≤ 16777216) : okR d := ⟨h.1, Nat.le_trans h.2.1 hk, Nat.le_trans h.2.2 hw⟩
theorem Rk.none : Rk 0 31 .none := ⟨by simp [PyData.showable], by simp [PyData.depth], by simp only [PyData.shown]; decide⟩
theorem Rk.bool {b : Bool} : Rk 0 31 (.bool b) := ⟨by simp [PyData.showable], by simp [PyData.depth], by simp only [PyData.shown]; cases b <;> decide⟩
theorem log2_lt10 {i : Int} (h : i.natAbs < 10 ^ 30) : i.natAbs.log2 < 1920 := by
  by_cases h0 : i.natAbs = 0
  · rw [h0]; decide
  · have : i.natAbs.log2 < 100 := (Nat.log2_lt h0).mpr (Nat.lt_of_lt_of_le h (by decide))
    omega
theorem Rk.int {i : Int} (h : i.natAbs < 10 ^ 30) : Rk 0 31 (.int i) := by
  refine ⟨?_, by simp [PyData.depth], ?_⟩
  · simp only [PyData.showable]
    exact decide_eq_true (log2_lt10 h)
  · simp only [PyData.shown]
    have e := int_text_length_le10 (k := 30) (by decide) h
    rw [PySem.ofString_length]
    exact e
theorem Rk.str {x : Str} (h : (reprText x).length ≤ 31) : Rk 0 31 (.str x) := ⟨by simp [PyData.showable], by simp [PyData.depth], by simp only [PyData.shown]; exact h⟩
theorem depthAll_le {k : Nat} : ∀ {xs : List D}, (∀ x ∈ xs, x.depth ≤ k) → PyData.depthAll xs ≤ k
  | [], _ => Nat.zero_le _
  | x :: r, h => by
    simp only [PyData.depthAll]
    have h1 := h x List.mem_cons_self
    have h2 := depthAll_le fun y hy => h y (List.mem_cons_of_mem _ hy)
    omega
theorem showAll_ok : ∀ {xs : List D}, (∀ x ∈ xs, x.showable = true) → PyData.showableAll xs = true
  | [], _ => by simp [PyData.showableAll]
  | x :: r, h => by
    simp only [PyData.showableAll, Bool.and_eq_true]
    exact ⟨h x List.mem_cons_self, showAll_ok fun y hy => h y (List.mem_cons_of_mem _ hy)⟩
theorem piled_le {w : Nat} : ∀ {xs : List D}, (∀ x ∈ xs, x.shown.length ≤ w) → piled (PyData.shownAll xs) ≤ xs.length * (w + 2)
  | [], _ => by simp [PyData.shownAll, piled]
  | x :: r, h => by
    simp only [PyData.shownAll]
    rw [piled_cons, List.length_cons, Nat.add_mul]
    have h1 := h x List.mem_cons_self
    have h2 := piled_le fun y hy => h y (List.mem_cons_of_mem _ hy)
    omega
theorem textFrom_le : ∀ (ts : List Str) (k : Nat) (acc : Str), (textFrom k acc ts).length ≤ acc.length + piled ts
  | [], _, _ => Nat.le_add_right _ _
  | t :: ts, k, acc => by
    unfold textFrom
    have h := textFrom_le ts (k + 1) (acc ++ (if k > 0 then ", " else "" : String) ++ t)
    rw [strLen_append, strLen_append] at h
    rw [piled_cons]
    have : (Str.ofString (if k > 0 then ", " else "" : String)).length ≤ 2 := by split <;> decide
    omega
theorem join_le (ts : List Str) : (Str.join ", " ts).length ≤ piled ts := by
  by_cases h : ts = []
  · subst h; exact Nat.le_refl _
  · have := join_length_add ts h
    omega
theorem Rk.list {k w : Nat} {xs : List D} (h : ∀ x ∈ xs, Rk k w x) : Rk (k + 1) (2 + xs.length * (w + 2)) (.list xs) := by
  refine ⟨by simp only [PyData.showable]; exact showAll_ok fun x hx => (h x hx).1, by simp only [PyData.depth]; exact Nat.succ_le_succ (depthAll_le fun x hx => (h x hx).2.1), ?_⟩
  simp only [PyData.shown]
  unfold listText
  rw [strLen_append]
  have h1 := textFrom_le (PyData.shownAll xs) 0 "["
  have h2 := piled_le fun x hx => (h x hx).2.2
  have e1 : (Str.ofString "[").length = 1 := by decide
  have e2 : (Str.ofString "]").length = 1 := by decide
  have e1' : ("[" : Str).length = 1 := e1
  have e2' : ("]" : Str).length = 1 := e2
  omega
theorem Rk.tuple {k w : Nat} {xs : List D} (h : ∀ x ∈ xs, Rk k w x) : Rk (k + 1) (3 + xs.length * (w + 2)) (.tuple xs) := by
  refine ⟨by simp only [PyData.showable]; exact showAll_ok fun x hx => (h x hx).1, by simp only [PyData.depth]; exact Nat.succ_le_succ (depthAll_le fun x hx => (h x hx).2.1), ?_⟩
  simp only [PyData.shown]
  unfold tupleText
  rw [strLen_append, strLen_append]
  have h1 := join_le (PyData.shownAll xs)
  have h2 := piled_le fun x hx => (h x hx).2.2
  have e1 : ("(" : Str).length = 1 := by decide
  have e2 : (Str.ofString (if (PyData.shownAll xs).length == 1 then ",)" else ")" : String)).length ≤ 2 := by split <;> decide
  omega
theorem depthKv_le {k : Nat} : ∀ {xs : List (D × D)}, (∀ x ∈ xs, x.1.depth ≤ k ∧ x.2.depth ≤ k) → PyData.depthKv xs ≤ k
  | [], _ => Nat.zero_le _
  | (a, b) :: r, h => by
    simp only [PyData.depthKv]
    have h1 := h (a, b) List.mem_cons_self
    have h2 := depthKv_le fun y hy => h y (List.mem_cons_of_mem _ hy)
    dsimp only at h1
    omega
theorem showKv_ok : ∀ {xs : List (D × D)}, (∀ x ∈ xs, x.1.showable = true ∧ x.2.showable = true) → PyData.showableKv xs = true
  | [], _ => by simp [PyData.showableKv]
  | (a, b) :: r, h => by
    simp only [PyData.showableKv, Bool.and_eq_true]
    have h1 := h (a, b) List.mem_cons_self
    exact ⟨h1, showKv_ok fun y hy => h y (List.mem_cons_of_mem _ hy)⟩
theorem piledKv_le {w : Nat} : ∀ {xs : List (D × D)}, (∀ x ∈ xs, x.1.shown.length ≤ w ∧ x.2.shown.length ≤ w) → piled (PyData.shownKv xs) ≤ xs.length * (2 * w + 4)
  | [], _ => by simp [PyData.shownKv, piled]
  | (a, b) :: r, h => by
    simp only [PyData.shownKv]
    rw [piled_cons, List.length_cons, Nat.add_mul, strLen_append, strLen_append]
    have h1 := h (a, b) List.mem_cons_self
    have h2 := piledKv_le fun y hy => h y (List.mem_cons_of_mem _ hy)
    have e : (Str.ofString ": ").length = 2 := by decide
    have e' : (": " : Str).length = 2 := e
    dsimp only at h1
    omega
theorem Rk.dict {k w : Nat} {xs : List (D × D)} (h : ∀ x ∈ xs, Rk k w x.1 ∧ Rk k w x.2) : Rk (k + 1) (2 + xs.length * (2 * w + 4)) (.dict xs) := by
  refine ⟨by simp only [PyData.showable]; exact showKv_ok fun x hx => ⟨(h x hx).1.1, (h x hx).2.1⟩, by simp only [PyData.depth]; exact Nat.succ_le_succ (depthKv_le fun x hx => ⟨(h x hx).1.2.1, (h x hx).2.2.1⟩), ?_⟩
  simp only [PyData.shown]
  unfold dictText
  rw [strLen_append, strLen_append]
  have h1 := join_le (PyData.shownKv xs)
  have h2 := piledKv_le fun x hx => ⟨(h x hx).1.2.2, (h x hx).2.2.2⟩
  have e1 : ("{" : Str).length = 1 := by decide
  have e2 : ("}" : Str).length = 1 := by decide
  omega
theorem Rk.list' {k w m w' : Nat} {xs : List D} (h : ∀ x ∈ xs, Rk k w x) (hl : xs.length ≤ m) (hw : 2 + m * (w + 2) ≤ w') : Rk (k + 1) w' (.list xs) :=
  (Rk.list h).mono (Nat.le_refl _) (Nat.le_trans (Nat.add_le_add_left (Nat.mul_le_mul_right _ hl) 2) hw)
theorem Rk.tuple' {k w m w' : Nat} {xs : List D} (h : ∀ x ∈ xs, Rk k w x) (hl : xs.length ≤ m) (hw : 3 + m * (w + 2) ≤ w') : Rk (k + 1) w' (.tuple xs) :=
  (Rk.tuple h).mono (Nat.le_refl _) (Nat.le_trans (Nat.add_le_add_left (Nat.mul_le_mul_right _ hl) 3) hw)
theorem Rk.dict' {k w m w' : Nat} {xs : List (D × D)} (h : ∀ x ∈ xs, Rk k w x.1 ∧ Rk k w x.2) (hl : xs.length ≤ m) (hw : 2 + m * (2 * w + 4) ≤ w') : Rk (k + 1) w' (.dict xs) :=
  (Rk.dict h).mono (Nat.le_refl _) (Nat.le_trans (Nat.add_le_add_left (Nat.mul_le_mul_right _ hl) 2) hw)
theorem Rk.up {k k' w w' : Nat} {d : D} (h : Rk k w d) (hk : k ≤ k' := by decide) (hw : w ≤ w' := by decide) : Rk k' w' d := h.mono hk hw
@[simp] theorem reprD_1 {d : D} {k : Val → Prop} : reprD [d] k = (okR d ∧ k (.dat (.str d.shown))) := rfl
end Ac
namespace Ac
open PySem PySem.Spec PyProof.Rows L2
/-! ### a law's end -/
structure DefAt (K : PySem.W.Frag) (mg : Str → Option Value) (x : Str) (st : Stmt) (ps : List Str) : Prop where
  ex : ∃ f fd, Fun K x x st f fd ∧ mg x = some (.ref f) ∧ Binds K fd ps [] ∧ ∀ (s : Shared) (us : List Value), us.length = ps.length → BindsTo s fd ⟨us, []⟩ (ps.zip us)
theorem defAt_mk {K : PySem.W.Frag} {h : Heap} {mg : Str → Option Value} {x : Str} {st : Stmt} {ps : List Str} {f : Addr} {oc : Value} {od an : Option Addr} {osl : Array (Option Value)} {kV doc pm cdv ct : Value} (X : K.In h) (G : h.Ns mainGlobals mg)
    (a : PySem.W.nsIn K mainGlobals x = some (some (.ref f))) (l : K.lookup f = some ⟨oc, od, .func (PySem.W.fnOf x x (defArgs st) (defBody st) (defScope st) .none kV doc pm an cdv ct), osl⟩) (c : PySem.W.codeIn K cdv x = true) (k : PySem.W.keepIn K (.ref f) = true)
    (b : ∀ (kV doc pm : Value) (an : Option Addr) (cdv ct : Value) (us : List Value), us.length = ps.length → bindArgs (PySem.W.fnOf x x (defArgs st) (defBody st) (defScope st) .none kV doc pm an cdv ct) ⟨us, []⟩ = pure (ps.zip us)) : DefAt K mg x st ps :=
  let F := fun_mk (st := st) l c k
  ⟨⟨_, _, F, PySem.W.mg_of X G a, F.binds b, fun s us hl => .of_eq (b _ _ _ _ _ _ us hl)⟩⟩
/-- no list stands in the module itself -/
def noLst (K : PySem.W.Frag) : Bool := K.all fun p => !(p.2.cls == .type "list")
theorem lookup_mem {K : PySem.W.Frag} {a : Addr} {o : Obj} : K.lookup a = some o → ∃ p ∈ K, p.2 = o := by
  induction K with
  | nil => intro h; cases h
  | cons q r ih =>
    intro h
    obtain ⟨b, u⟩ := q
    rw [List.lookup_cons] at h
    split at h
    · cases h
      exact ⟨_, List.mem_cons_self, rfl⟩
    · obtain ⟨p, h1, h2⟩ := ih h
      exact ⟨p, List.mem_cons_of_mem _ h1, h2⟩
def emptyA : KA := fun _ => none
theorem law_sp {cl : Nat → Addr} {H : Hp} {a : Addr} {ns : List Int} (hl : ns.length ≤ 63) (h : Rd H a (.lst (ns.map V.int))) : spE (rmD cl) cl Elaw [.ref a] H (fun v _ => v = .bl true) fun _ _ _ => False := by
  refine ⟨H, emptyA, (), [.dat (.list (ns.map .int))], Sub.refl H, fun a o _ n => n rfl, fun a k h => (nomatch (show (none : Option Kd) = some k from h)), Paired.cons (Rp.lst h (RpL.ints ns)) .nil, ?_⟩
  refine ⟨ns, rfl, hl, fun x H' F' A' _ _ _ _ _ _ rv => ?_⟩
  cases rv
  rfl
theorem noLst_at {K : PySem.W.Frag} {h : Heap} {a : Addr} {vs : List Value} (hn : noLst K = true) (X : K.In h) (e : h.get? a = some { cls := .type "list", data := .seq vs.toArray }) : K.lookup a = none := by
  cases q : K.lookup a with
  | none => rfl
  | some o =>
    have e2 := X a o q
    rw [e] at e2
    cases e2
    obtain ⟨p, hp, e3⟩ := lookup_mem q
    have := List.all_eq_true.mp hn p hp
    rw [e3] at this
    simp at this
theorem all_nil {α : Type} {p : α → Prop} : ∀ x ∈ ([] : List α), p x := fun _ h => nomatch h
theorem all_cons {α : Type} {p : α → Prop} {a : α} {l : List α} (h : p a) (r : ∀ x ∈ l, p x) : ∀ x ∈ a :: l, p x := fun x hx => by
  cases hx with
  | head => exact h
  | tail _ hx => exact r x hx
theorem cn_nil {mg : Str → Option Value} : ∀ (x : Str) (i : Int), ([] : List (Str × Int)).lookup x = some i → ∃ u, mg x = some (.int i u) := fun _ _ h => nomatch h
theorem cn_cons {mg : Str → Option Value} {a : Str} {v : Int} {u : Tok} {l : List (Str × Int)} (h : mg a = some (.int v u)) (r : ∀ (x : Str) (i : Int), l.lookup x = some i → ∃ u, mg x = some (.int i u)) : ∀ (x : Str) (i : Int), ((a, v) :: l).lookup x = some i → ∃ u, mg x = some (.int i u) := fun x i e => by
  rw [List.lookup_cons] at e
  split at e
  · rename_i hx
    cases e
    have : x = a := by simpa using hx
    subst this
    exact ⟨u, h⟩
  · exact r x i e
theorem ex_nil {K : PySem.W.Frag} {mg : Str → Option Value} {cl : Nat → Addr} : ∀ (x : Str) (n : Nat), (x, n) ∈ ([] : List (Str × Nat)) → ExF0 K mg x (cl n) := fun _ _ h => nomatch h
theorem ex_cons {K : PySem.W.Frag} {mg : Str → Option Value} {cl : Nat → Addr} {a : Str} {v : Nat} {l : List (Str × Nat)} (h : ExF0 K mg a (cl v)) (r : ∀ (x : Str) (n : Nat), (x, n) ∈ l → ExF0 K mg x (cl n)) : ∀ (x : Str) (n : Nat), (x, n) ∈ (a, v) :: l → ExF0 K mg x (cl n) := fun x n hx => by
  cases hx with
  | head => exact h
  | tail _ hx => exact r x n hx
theorem exF_mk {K : PySem.W.Frag} {h : Heap} {mg : Str → Option Value} {x : Str} {C : Addr} (X : K.In h) (G : h.Ns mainGlobals mg) (a : PySem.W.nsIn K mainGlobals x = some (some (.ref C)))
    (e : PySem.W.excIn K C [.type "ValueError", .type "Exception", .type "BaseException", .type "object"] "ValueError.__new__" = true) (k : PySem.W.keepIn K (.ref C) = true) (b : PySem.W.subIn K (.ref C) (.type "BaseException") = some true) (t : PySem.W.typeIn K (.ref C) = some (.type "type")) : ExF0 K mg x C :=
  ⟨PySem.W.mg_of X G a, e, k, b, t⟩
theorem walk_ofC {l : PySem.W.OpenLaw} {n k : Nat} {q : Program} {loose : List Str} {XP : (Str → Option Value) → Heap → Prop} {YP : World → Heap → Prop} {d : DefRec} {K : Params → PySem.W.Frag} {x : Str}
    (hn : l.most = some n) (hn2 : n ≤ 63) (hdf : d.params.defaults = []) (hr : Room k callerA)
    (hi : importsNone q = true) (hY : ∀ (w : World) (h : Heap), YP w h → (K w.params).In h)
    (F : ∀ (w : World) (mg : Str → Option Value) (fa : Addr) (h : Heap), (K w.params).In h → h.Ns mainGlobals mg → mg d.name = some (.ref fa) →
      ∃ (cl : Nat → Addr) (fd : FuncData), noLst (K w.params) = true ∧ (∀ (s : Shared) (u : Value), BindsTo s fd ⟨[u], []⟩ [(x, u)]) ∧
        ∀ base : Heap, (K w.params).In base → base.Ns mainGlobals mg → SmB base → FnG l.prog w (K w.params) mg base k fa fd [x] (spE (rmD cl) cl Elaw)) :
    PySem.W.WalkO q loose XP YP l.row.toRowW d [] (fun f vs => PySem.call f vs) := by
  refine Att.attach_call hn hdf fun w s₀ s₁ mg mb fa o pm cd doc a vs ns G Y ho hd hcd hmg hobj hints hlen hg => ?_
  have KX := hY w _ Y
  obtain ⟨cl, fd, hno, hb, hF⟩ := F w mg fa _ KX G.T.g hmg
  obtain ⟨mm, hmm, _⟩ := (G.T.seer hi).mods
  exact lawG (hsm := hmm) KX G.T.g G.T.b G.T.builtins G.T.nolimit hg hobj hints (Nat.le_trans (Nat.le_trans hlen hn2) (by decide)) hr (noLst_at hno KX hobj) hF hb fun H hS => law_sp (Nat.le_trans hlen hn2) hS
end Ac
namespace Ac
open PySem PySem.Spec PyProof.Rows L2
/-! ### errors told: what all families share -/
def errV : Option Nat → Val
  | none => .dat .none
  | some n => .hdl (100 + n)
def isCB (m : Nat) (ns : List Nat) : Bool := ns.any fun n => decide (n = 99) || decide (m = 100 + n)
theorem isCW_h {m : Nat} {ns : List Nat} {k : Bool → Prop} : isCW ns (some (.hdl m)) k = ((100 ≤ m ∧ m < 107) ∧ k (isCB m ns)) := rfl
theorem isCW_0 {ns : List Nat} {k : Bool → Prop} : isCW ns (some (.dat .none)) k = k false := by
  show (noneD .none = true ∧ k false) = k false
  rw [show (noneD .none = true) = True from eq_true rfl, true_and]
theorem eqvAll_bools : ∀ bs cs : List Bool, PyData.eqvAll (bs.map .bool) (cs.map .bool) = decide (bs = cs)
  | [], [] => by simp [PyData.eqvAll]
  | [], _ :: _ => by simp [PyData.eqvAll]
  | _ :: _, [] => by simp [PyData.eqvAll]
  | b :: bs, c :: cs => by
    simp only [List.map_cons, PyData.eqvAll, PyData.eqv, eqvAll_bools bs cs, List.cons.injEq]
    cases b <;> cases c <;> simp
theorem shaped_bools (bs : List Bool) : SeqAt.shaped (.list (bs.map .bool)) = true := okD_shaped (k := 8) (by
  show (bs.map PyData.bool).all (okD 7) = true
  rw [List.all_eq_true]
  intro x hx
  obtain ⟨b, _, rfl⟩ := List.mem_map.mp hx
  rfl) (by decide)
theorem eqD_bools {bs cs : List Bool} {k : Bool → Prop} (hb : bs ≠ []) (hc : cs ≠ []) (h : k (decide (bs = cs))) : eqD (.list (bs.map .bool)) (.list (cs.map .bool)) k := by
  have h1 := shaped_bools bs
  have h2 := shaped_bools cs
  have h3 : PyData.eqv (.list (bs.map .bool)) (.list (cs.map .bool)) = decide (bs = cs) := by
    simp only [PyData.eqv]
    exact eqvAll_bools bs cs
  match bs, cs, hb, hc with
  | [], _, hb, _ => exact absurd rfl hb
  | _, [], _, hc => exact absurd rfl hc
  | b :: bs, c :: cs, _, _ =>
    show SeqAt.shaped _ = true ∧ SeqAt.shaped _ = true ∧ k _
    have e : k (PyData.eqv (.list ((b :: bs).map .bool)) (.list ((c :: cs).map .bool))) := by rw [h3]; exact h
    exact ⟨h1, h2, e⟩
theorem ten30' : (10 : Nat) ^ 30 = 1000000000000000000000000000000 := by decide
theorem rkI {i : Int} (h : -1000000000000000000000000000 < i ∧ i < 1000000000000000000000000000) : Rk 0 31 (.int i) := Rk.int (by rw [ten30']; omega)
theorem rk_ring {n : Int} {as : List (Int × Int)} (ok : RingOk n as) : Rk 3 3100 (ringD n as) := by
  have n1 := ok.n1
  have n40 := ok.n40
  have ha : ∀ x ∈ as.map arcD, Rk 1 69 x := fun x hx => by
    obtain ⟨a, ha, rfl⟩ := List.mem_map.mp hx
    obtain ⟨h1, h2, h3, h4⟩ := ok.arcs a ha
    refine Rk.tuple' (k := 0) (w := 31) (m := 2) (fun y hy => ?_) (by simp) (by decide)
    simp only [List.mem_cons, List.not_mem_nil, or_false] at hy
    rcases hy with rfl | rfl
    · exact rkI (by omega)
    · exact rkI (by omega)
  have hl : Rk 2 1500 (.list (as.map arcD)) := Rk.list' ha (m := 20) (by rw [List.length_map]; exact ok.len) (by decide)
  refine Rk.tuple' (k := 2) (w := 1500) (m := 2) (fun y hy => ?_) (by simp) (by decide)
  simp only [List.mem_cons, List.not_mem_nil, or_false] at hy
  rcases hy with rfl | rfl
  · exact (rkI (by omega)).up
  · exact hl
/-- no number below another -/
structure NoNum (b : Int) (d : D) : Prop where
  no : isNumD d b = false
  rk : Rk 2 300 d
theorem no_int {b i : Int} (h : i < 0 ∨ b ≤ i) : isNumD (.int i) b = false := by
  rw [Bool.eq_false_iff]
  intro z
  obtain ⟨j, j0, j1, e⟩ := isNum_int.mp z
  cases e
  omega
theorem p25 : (10 : Int) ^ (25 : Int).toNat = 10000000000000000000000000 := by decide +kernel
theorem b200 {m : Nat} (h : m ≤ 200) : m ≤ big := by unfold big; omega
end Ac
namespace Ac
open PySem PySem.Spec PyProof.Rows L2
/-! ### a store: a list of drawn numbers, and how many are drawn -/
def E_law_take : ESumm Unit := Etake 1
@[simp] theorem run_takeB {s : Unit} {t : Nat} {m : Int} {Q : Val → Unit → Prop} {Y : Nat → Unit → Prop} : E_law_take.run [.hdl t, .dat (.int m)] s Q Y = (t = 1 ∧ (0 < m ∧ m < 1073741824) ∧ ∀ r, 0 ≤ r → r < m → Q (.dat (.int r)) ()) := rfl
def E_store : ESumm Unit where
  run vs s Q Y := match vs with
    | [.new xs] => ∃ ns : List Int, xs = ns.map PyData.int ∧ ns ≠ [] ∧ Q (.hdl 1) ()
    | _ => False
  mono := fun {vs s Q Q' Y Y'} h1 h2 q => by
    split at q
    · obtain ⟨ns, e, h, q⟩ := q; exact ⟨ns, e, h, h1 _ _ q⟩
    · exact q.elim
@[simp] theorem run_store {s : Unit} {xs : List D} {Q : Val → Unit → Prop} {Y : Nat → Unit → Prop} : E_store.run [.new xs] s Q Y = (∃ ns : List Int, xs = ns.map PyData.int ∧ ns ≠ [] ∧ Q (.hdl 1) ()) := rfl
def newB (A : KA) (d p : Addr) : KA := fun b => if b = d then some (.stB p) else if b = p then some .nums else A b
theorem hok_store {cl : Nat → Addr} : HOk (rmD cl) E_store := fun fx σ H Γ s F A x v d Q R rv hd q => by
  unfold E_store at q
  dsimp only at q
  split at q
  · rename_i v' xs z
    cases z
    obtain ⟨ns, rfl, hne, q⟩ := q
    obtain ⟨p, vs, rfl, e2, e3, e4, e5, e6, e7⟩ := rv
    have ev := e6.of_ints
    subst ev
    have ok : ∀ a k, A a = some k → okK cl A H a k := R.ok
    have hAp : A p = none := Classical.not_not.mp e4
    have hAd : A d = none := by
      cases z : A d with
      | none => rfl
      | some k => exact absurd hd (okK_some (ok d k z))
    have hpd : p ≠ d := fun z => by rw [z, hd] at e2; cases e2
    have le : ∀ a k, A a = some k → newB A d p a = some k := fun a k e => by
      have h1 : a ≠ d := fun z => by rw [z, hAd] at e; cases e
      have h2 : a ≠ p := fun z => by rw [z, hAp] at e; cases e
      unfold newB
      rw [if_neg h1, if_neg h2]
      exact e
    have nft : ∀ a, a ≠ d → a ≠ p → ¬ (rmD cl).ft A a → ¬ (rmD cl).ft (newB A d p) a := fun a h1 h2 h => by
      show ¬ (newB A d p a ≠ none)
      unfold newB
      rw [if_neg h1, if_neg h2]
      exact h
    have R1 := R.alloc (o := .lst [.ref p, .int 0]) hd
    refine q (.ref d) _ F (newB A d p) ?_ ?_ (Sub.refl F) ⟨d, .stB p, rfl, by unfold newB; rw [if_pos rfl], rfl⟩
    · exact {
        fh := R1.fh
        fz := fun a o e => nft a (fun z => by rw [z, R.nF hd] at e; cases e) (fun z => by rw [z, e3] at e; cases e) (R.fz a o e)
        f0 := R.f0
        lk := fun a o e => ⟨(R1.lk a o e).1, (R1.lk a o e).2.1, nft a (fun z => by rw [z, R.nL hd] at e; cases e) (fun z => by rw [z, e5] at e; cases e) (R1.lk a o e).2.2⟩
        a0 := (rmD cl).le_trans R.a0 le
        ok := fun a k e => by
          unfold newB at e
          by_cases h1 : a = d
          · subst h1
            rw [if_pos rfl] at e
            cases e
            exact ⟨0, upd_same, by unfold newB; rw [if_neg hpd, if_pos rfl]⟩
          · rw [if_neg h1] at e
            by_cases h2 : a = p
            · subst h2
              rw [if_pos rfl] at e
              cases e
              exact ⟨ns, hne, by rw [upd_ne h1]; exact e2⟩
            · rw [if_neg h2] at e
              exact okK_le le (okK_same (ok a k e) (upd_ne h1))
        ln := R.ln
        sl := fun i v e => by
          obtain ⟨y, h1, h2⟩ := R1.sl i v e
          refine ⟨y, h1, ?_⟩
          cases v with
          | dat d => exact h2
          | new ys => exact h2
          | hdl k => exact (rmD cl).le_hd le h2
          | own ys =>
            obtain ⟨a, us, w1, w2, w3, w4, w5, w6⟩ := h2
            refine ⟨a, us, w1, w2, w3, nft a (fun z => ?_) (fun z => ?_) w4, w5, w6⟩
            · rw [w1, z] at h1
              exact R.noOwn hd i ys e h1
            · rw [w1, z] at h1
              exact e7 i ys e h1
        dj := R.dj }
    · exact le
  · exact q.elim
/-! ### what is drawn: some numbers -/
def S_law_draws : Summ where
  run ds Q Y := match ds with
    | [.list xs, .int m] => ∃ ns : List Int, xs = ns.map PyData.int ∧ ns.length ≤ 63 ∧ (1 ≤ m ∧ m ≤ 1000) ∧ ∀ out : List Int, out ≠ [] → Q (.new (out.map .int))
    | _ => False
  mono := fun {ds Q Q' Y Y'} h1 h2 q => by
    split at q
    · obtain ⟨ns, e, a, b, q⟩ := q; exact ⟨ns, e, a, b, fun out ho => h1 _ (q out ho)⟩
    · exact q.elim
@[simp] theorem run_draws {xs : List D} {m : Int} {Q : Val → Prop} {Y : Nat → Prop} : S_law_draws.run [.list xs, .int m] Q Y = (∃ ns : List Int, xs = ns.map PyData.int ∧ ns.length ≤ 63 ∧ (1 ≤ m ∧ m ≤ 1000) ∧ ∀ out : List Int, out ≠ [] → Q (.new (out.map .int))) := rfl
def tr_law_draws_b1 : Sms Unit :=
  (.cons (.one (.app 2 (.op .Mod (.var 6) (.int 10007))))
    (.cons (.one (.asg 6 (.op .FloorDiv (.var 6) (.int 10007))))
    .nil))
def tr_law_draws_b2 : Sms Unit :=
  (.cons (.one (.asg 6 (.bi .abs (.cons (.var 5) .nil))))
    (.cons (.one (.asg 3 (.op .Mod (.op .Add (.op .Mult (.var 3) (.int 31)) (.var 6)) (.int 2147483629))))
    (.cons (.ite (.cmp .GtE (.var 6) (.op .Pow (.int 10) (.int 18)))
    (.cons (.whl (.an (.cmp .Gt (.var 6) (.int 0)) (.cmp .Lt (.bi .len (.cons (.var 2) .nil)) (.var 1)))
    tr_law_draws_b1)
    .nil)
    (.cons (.one (.asg 7 (.op .Mod (.op .Mult (.op .Add (.op .Add (.op .Mod (.var 6) (.int 2147483647)) (.var 4)) (.int 1)) (.int 48271)) (.int 2147483647))))
    (.cons (.one (.asg 7 (.op .Mod (.op .Mult (.var 7) (.var 7)) (.int 2147483629))))
    (.cons (.one (.app 2 (.op .Mod (.op .FloorDiv (.var 7) (.int 8)) (.int 10007))))
    (.cons (.one (.asg 7 (.op .Mod (.op .Add (.op .Add (.op .Mult (.var 7) (.int 40692)) (.op .Mult (.int 2) (.var 4))) (.int 1)) (.int 2147483563))))
    (.cons (.one (.asg 7 (.op .Mod (.op .Mult (.var 7) (.var 7)) (.int 2147483647))))
    (.cons (.one (.app 2 (.op .Mod (.op .FloorDiv (.var 7) (.int 8)) (.int 10007))))
    .nil)))))))
    .nil)))
def tr_law_draws_b3 : Sms Unit :=
  (.cons (.one (.asg 7 (.op .Mod (.op .Add (.op .Add (.var 3) (.op .Mult (.int 7919) (.var 4))) (.int 13)) (.int 2147483629))))
    (.cons (.one (.asg 7 (.op .Mod (.op .Mult (.var 7) (.var 7)) (.int 2147483647))))
    (.cons (.one (.asg 7 (.op .Mod (.op .Add (.op .Mult (.var 7) (.int 69621)) (.var 4)) (.int 2147483563))))
    (.cons (.one (.app 2 (.op .Mod (.op .FloorDiv (.op .Mod (.op .Mult (.var 7) (.var 7)) (.int 2147483629)) (.int 8)) (.int 10007))))
    .nil))))
def tr_law_draws : Sms Unit :=
  (.cons (.one (.asg 2 (.ls .nil)))
    (.cons (.one (.asg 3 (.int 7)))
    (.cons (.for (.tp [4, 5]) (.enu (.sl (.var 0) .nil (.cons (.int 63) .nil)))
    tr_law_draws_b2)
    (.cons (.for (.nm 4) (.rng (.cons (.op .Sub (.var 1) (.bi .len (.cons (.var 2) .nil))) .nil))
    tr_law_draws_b3)
    (.cons (.one (.ret (.var 2)))
    .nil)))))

theorem cmulL {i j : Int} (h0 : -18446744073709551616 < i) (h1 : i < 18446744073709551616) : CMul i j := .inl ⟨by simpa using h0, by simpa using h1⟩
theorem cmulR {i j : Int} (h0 : -18446744073709551616 < j) (h1 : j < 18446744073709551616) : CMul i j := .inr ⟨by simpa using h0, by simpa using h1⟩
theorem mod_rng {a m : Int} (h : 0 < m) : 0 ≤ a % m ∧ a % m < m := ⟨Int.emod_nonneg _ (by omega), Int.emod_lt_of_pos _ h⟩
theorem draws_b3 {m : Int} {xs : D} {out : List Int} {base : Int} {k : Int} {x5 x6 x7 : Option Val} {K : Kn Unit} {s : Unit} (hb : 0 ≤ base ∧ base < 2147483629) (hk : 0 ≤ k ∧ k < 2000) (hl : out.length ≤ 3000)
    (hK : ∀ (v : Int) (x7 : Option Val), K.nx [some (.dat xs), some (.dat (.int m)), some (.own ((out ++ [v]).map .int)), some (.dat (.int base)), some (.dat (.int k)), x5, x6, x7] ()) :
    wSs tr_law_draws_b3 [some (.dat xs), some (.dat (.int m)), some (.own (out.map .int)), some (.dat (.int base)), some (.dat (.int k)), x5, x6, x7] s K := by
  unfold tr_law_draws_b3
  simp only [wSs, wS, w1, wT, wE, wA, wX, wV, wP, wC, opn, rdO_d, rdO_o, asD_d, asD_n, KQY, entry, look, put, slotV, argsOk, frzA, frzV, sv_i, sv_b, sv_s, sv_0, sv_l, sv_t, sv_d, sv_n, List.map, List.length, List.replicate, List.cons_append, List.nil_append, Nat.sub_self, biD, isD_1, boolD_b, cmpD, relD_i, opD, addD_i, addD_l, subD_i, intD_i, lenD_l, lenD_t, listD_l, listD_t, tupleD_l, int2D_i, absD_i, toIntD_i, toIntD_b, eqD_i, eqD_b, eqD_s, rngD_1, rngD_2, seqD_l, seqD_t, lstD_l, ixX_l, ixX_t, negX_i, slX_l, rvX_l, repX_i, intX_i, ixD_0, ixD_1, ixD_2, true_and, and_true, ite_self]
  have b1 := mod_rng (a := base + 7919 * k + 13) (m := 2147483629) (by decide)
  generalize (base + 7919 * k + 13) % 2147483629 = v1 at b1
  have b2 := mod_rng (a := v1 * v1) (m := 2147483647) (by decide)
  generalize hv2 : v1 * v1 % 2147483647 = v2 at b2
  have b3 := mod_rng (a := v2 * 69621 + k) (m := 2147483563) (by decide)
  generalize hv3 : (v2 * 69621 + k) % 2147483563 = v3 at b3
  refine ⟨cmulL (by omega) (by omega), by omega, cmulL (by omega) (by omega), by omega, cmulL (by omega) (by omega), by omega, cmulL (by omega) (by omega), by omega, ⟨by omega, by omega⟩, by omega, ?_, ?_⟩
  · rw [List.length_map]; unfold big; omega
  · have := hK (v3 * v3 % 2147483629 / 8 % 10007) (some (.dat (.int v3)))
    rw [List.map_append] at this
    exact this
theorem draws_while {m : Int} {xs : D} {out : List Int} {base number : Int} {x4 x5 x7 : Option Val} {K : Kn Unit} {s : Unit} (h0 : 0 ≤ number) (hl : (out.length : Int) ≤ 2000) (hm : m ≤ 1000)
    (hK : ∀ (out' : List Int) (x6 : Option Val), (out'.length : Int) ≤ 2000 → ((out'.length : Int) ≤ m ∨ out' = out) → K.nx [some (.dat xs), some (.dat (.int m)), some (.own (out'.map .int)), some (.dat (.int base)), x4, x5, x6, x7] ()) :
    wS (.whl (.an (.cmp .Gt (.var 6) (.int 0)) (.cmp .Lt (.bi .len (.cons (.var 2) .nil)) (.var 1))) tr_law_draws_b1) [some (.dat xs), some (.dat (.int m)), some (.own (out.map .int)), some (.dat (.int base)), x4, x5, some (.dat (.int number)), x7] s K := by
  unfold wS
  refine ⟨fun k Γ _ => ∃ (out' : List Int) (nb : Int), Γ = [some (.dat xs), some (.dat (.int m)), some (.own (out'.map .int)), some (.dat (.int base)), x4, x5, some (.dat (.int nb)), x7] ∧ 0 ≤ nb ∧ (out'.length : Int) ≤ 2000 ∧ ((out'.length : Int) ≤ m ∨ out' = out) ∧ k = (2000 - out'.length : Int).toNat, ⟨_, out, number, rfl, h0, hl, .inr rfl, rfl⟩, ?_⟩
  rintro k Γ s ⟨out', nb, rfl, n0, hl', hb, rfl⟩
  simp only [wSs, wS, w1, wT, wE, wA, wX, wV, wP, wC, opn, rdO_d, rdO_o, asD_d, asD_n, KQY, entry, look, put, slotV, argsOk, frzA, frzV, sv_i, sv_b, sv_s, sv_0, sv_l, sv_t, sv_d, sv_n, List.map, List.length, List.replicate, List.cons_append, List.nil_append, Nat.sub_self, biD, isD_1, boolD_b, cmpD, relD_i, opD, addD_i, addD_l, subD_i, intD_i, lenD_l, lenD_t, listD_l, listD_t, tupleD_l, int2D_i, absD_i, toIntD_i, toIntD_b, eqD_i, eqD_b, eqD_s, rngD_1, rngD_2, seqD_l, seqD_t, lstD_l, ixX_l, ixX_t, negX_i, slX_l, rvX_l, repX_i, intX_i, ixD_0, ixD_1, ixD_2, true_and, and_true, ite_self]
  by_cases hc : (0 : Int) < nb
  · by_cases hc2 : ((out'.length : Nat) : Int) < m
    · simp only [hc, decide_true, if_true, List.length_map, hc2]
      unfold tr_law_draws_b1
      simp only [wSs, wS, w1, wT, wE, wA, wX, wV, wP, wC, opn, rdO_d, rdO_o, asD_d, asD_n, KQY, entry, look, put, slotV, argsOk, frzA, frzV, sv_i, sv_b, sv_s, sv_0, sv_l, sv_t, sv_d, sv_n, List.map, List.length, List.replicate, List.cons_append, List.nil_append, Nat.sub_self, biD, isD_1, boolD_b, cmpD, relD_i, opD, addD_i, addD_l, subD_i, intD_i, lenD_l, lenD_t, listD_l, listD_t, tupleD_l, int2D_i, absD_i, toIntD_i, toIntD_b, eqD_i, eqD_b, eqD_s, rngD_1, rngD_2, seqD_l, seqD_t, lstD_l, ixX_l, ixX_t, negX_i, slX_l, rvX_l, repX_i, intX_i, ixD_0, ixD_1, ixD_2, true_and, and_true, ite_self]
      refine ⟨by decide, ?_, ⟨by decide, by decide⟩, ?_⟩
      · rw [List.length_map]; unfold big; omega
      · refine ⟨(2000 - (out' ++ [nb % 10007]).length : Int).toNat, ?_, out' ++ [nb % 10007], nb / 10007, ?_, ?_, ?_, ?_, rfl⟩
        · rw [List.length_append, List.length_singleton]; omega
        · rw [List.map_append]; rfl
        · exact Int.ediv_nonneg n0 (by decide)
        · rw [List.length_append, List.length_singleton]; omega
        · left; rw [List.length_append, List.length_singleton]; omega
    · simp only [hc, decide_true, if_true, List.length_map, hc2, decide_false]
      exact hK out' _ hl' hb
  · simp only [hc, decide_false]
    exact hK out' _ hl' hb
theorem draws_b2 {m : Int} {xs : D} {out : List Int} {base k cell : Int} {x6 x7 : Option Val} {K : Kn Unit} {s : Unit} (hk : 0 ≤ k ∧ k < 63) (hl : (out.length : Int) ≤ 1500) (hm : m ≤ 1000)
    (hK : ∀ (out' : List Int) (base' : Int) (x6 x7 : Option Val), 0 ≤ base' ∧ base' < 2147483629 → ((out'.length : Int) ≤ 1000 ∨ (out'.length : Int) ≤ out.length + 2) → K.nx [some (.dat xs), some (.dat (.int m)), some (.own (out'.map .int)), some (.dat (.int base')), some (.dat (.int k)), some (.dat (.int cell)), x6, x7] ()) :
    wSs tr_law_draws_b2 [some (.dat xs), some (.dat (.int m)), some (.own (out.map .int)), some (.dat (.int base)), some (.dat (.int k)), some (.dat (.int cell)), x6, x7] s K := by
  unfold tr_law_draws_b2
  have ha : 0 ≤ (if cell < 0 then -cell else cell) := by split <;> omega
  generalize hq : tr_law_draws_b1 = tb
  simp only [wSs, wS, w1, wT, wE, wA, wX, wV, wP, wC, opn, rdO_d, rdO_o, asD_d, asD_n, KQY, entry, look, put, slotV, argsOk, frzA, frzV, sv_i, sv_b, sv_s, sv_0, sv_l, sv_t, sv_d, sv_n, List.map, List.length, List.replicate, List.cons_append, List.nil_append, Nat.sub_self, biD, isD_1, boolD_b, cmpD, relD_i, opD, addD_i, addD_l, subD_i, intD_i, lenD_l, lenD_t, listD_l, listD_t, tupleD_l, int2D_i, absD_i, toIntD_i, toIntD_b, eqD_i, eqD_b, eqD_s, rngD_1, rngD_2, seqD_l, seqD_t, lstD_l, ixX_l, ixX_t, negX_i, slX_l, rvX_l, repX_i, intX_i, ixD_0, ixD_1, ixD_2, true_and, and_true, ite_self]
  generalize (if cell < 0 then -cell else cell) = a at ha
  have hb := mod_rng (a := base * 31 + a) (m := 2147483629) (by decide)
  generalize (base * 31 + a) % 2147483629 = base' at hb
  refine ⟨cmulR (by decide) (by decide), by decide, ⟨by decide, by decide, by decide⟩, ?_⟩
  by_cases hc : (10 : Int) ^ (18 : Int).toNat ≤ a
  · simp only [hc, decide_true, if_true]
    subst hq
    have := draws_while (m := m) (xs := xs) (out := out) (base := base') (number := a) (x4 := some (.dat (.int k))) (x5 := some (.dat (.int cell))) (x7 := x7) (K := K) (s := s) ha (by omega) hm fun out' x6 h1 h2 => hK out' base' x6 x7 hb (h2.elim (fun h => .inl (by omega)) (fun h => .inr (by rw [h]; omega)))
    simpa only [wSs, wS, w1, wT, wE, wA, wX, wV, wP, wC, opn, rdO_d, rdO_o, asD_d, asD_n, KQY, entry, look, put, slotV, argsOk, frzA, frzV, sv_i, sv_b, sv_s, sv_0, sv_l, sv_t, sv_d, sv_n, List.map, List.length, List.replicate, List.cons_append, List.nil_append, Nat.sub_self, biD, isD_1, boolD_b, cmpD, relD_i, opD, addD_i, addD_l, subD_i, intD_i, lenD_l, lenD_t, listD_l, listD_t, tupleD_l, int2D_i, absD_i, toIntD_i, toIntD_b, eqD_i, eqD_b, eqD_s, rngD_1, rngD_2, seqD_l, seqD_t, lstD_l, ixX_l, ixX_t, negX_i, slX_l, rvX_l, repX_i, intX_i, ixD_0, ixD_1, ixD_2, true_and, and_true, ite_self] using this
  · simp only [hc, decide_false]
    have b1 := mod_rng (a := (a % 2147483647 + k + 1) * 48271) (m := 2147483647) (by decide)
    generalize (a % 2147483647 + k + 1) * 48271 % 2147483647 = v1 at b1
    have b2 := mod_rng (a := v1 * v1) (m := 2147483629) (by decide)
    generalize v1 * v1 % 2147483629 = v2 at b2
    have b3 := mod_rng (a := v2 * 40692 + 2 * k + 1) (m := 2147483563) (by decide)
    generalize (v2 * 40692 + 2 * k + 1) % 2147483563 = v3 at b3
    have b4 := mod_rng (a := v3 * v3) (m := 2147483647) (by decide)
    generalize v3 * v3 % 2147483647 = v4 at b4
    simp only [Bool.false_eq_true, if_false]
    refine ⟨by decide, cmulR (by decide) (by decide), by decide, cmulL (by omega) (by omega), by decide, ⟨by decide, by decide⟩, by decide, ?_, cmulL (by omega) (by omega), cmulL (by decide) (by decide), by decide, cmulL (by omega) (by omega), by decide, ⟨by decide, by decide⟩, by decide, ?_, ?_⟩
    · rw [List.length_map]; unfold big; omega
    · rw [List.length_append, List.length_map, List.length_singleton]; unfold big; omega
    · have := hK (out ++ [v2 / 8 % 10007] ++ [v4 / 8 % 10007]) base' (some (.dat (.int a))) (some (.dat (.int v4))) hb (.inr (by rw [List.length_append, List.length_append, List.length_singleton, List.length_singleton]; omega))
      rw [List.map_append, List.map_append] at this
      exact this
theorem enum_cut {ns : List Int} {x : D} (h : x ∈ enumD (cutD (ns.map PyData.int) none (some 63))) : ∃ k c : Int, x = .tuple [.int k, .int c] ∧ 0 ≤ k ∧ k < 63 := by
  unfold enumD at h
  obtain ⟨p, hp, rfl⟩ := List.mem_map.mp h
  obtain ⟨y, i⟩ := p
  have h1 := List.mem_zipIdx hp
  have hl : (cutD (ns.map PyData.int) none (some 63)).length ≤ 63 := cut63
  have hm : y ∈ ns.map PyData.int := by
    have h2 : y ∈ cutD (ns.map PyData.int) none (some 63) := by
      rw [h1.2.2]
      exact List.getElem_mem _
    unfold cutD at h2
    exact List.mem_of_mem_drop (List.mem_of_mem_take h2)
  obtain ⟨c, _, rfl⟩ := List.mem_map.mp hm
  refine ⟨i, c, rfl, by omega, ?_⟩
  have := h1.2.1
  omega
where
  cut63 {xs : List D} : (cutD xs none (some 63)).length ≤ 63 := by
    unfold cutD
    rw [List.length_take]
    refine Nat.le_trans (Nat.min_le_left _ _) (Nat.le_trans (Nat.sub_le _ _) ?_)
    unfold HT.sIx
    simp
    omega
theorem enum_len {xs : List D} : (enumD xs).length = xs.length := by
  unfold enumD
  rw [List.length_map, List.length_zipIdx]
theorem w_law_draws : WOk S_law_draws 2 8 tr_law_draws := fun ds Q Y h => by
  unfold S_law_draws at h
  dsimp only at h
  split at h
  · rename_i xs m
    obtain ⟨ns, rfl, hns, ⟨m1, m2⟩, h⟩ := h
    refine ⟨rfl, ?_⟩
    unfold tr_law_draws
    simp only [wSs, wS, w1, wT, wE, wA, wX, wV, wP, wC, opn, rdO_d, rdO_o, asD_d, asD_n, KQY, entry, look, put, slotV, argsOk, frzA, frzV, sv_i, sv_b, sv_s, sv_0, sv_l, sv_t, sv_d, sv_n, List.map, List.length, List.replicate, List.cons_append, List.nil_append, Nat.sub_self, biD, isD_1, boolD_b, cmpD, relD_i, opD, addD_i, addD_l, subD_i, intD_i, lenD_l, lenD_t, listD_l, listD_t, tupleD_l, int2D_i, absD_i, toIntD_i, toIntD_b, eqD_i, eqD_b, eqD_s, rngD_1, rngD_2, seqD_l, seqD_t, lstD_l, ixX_l, ixX_t, negX_i, slX_l, rvX_l, repX_i, intX_i, ixD_0, ixD_1, ixD_2, true_and, and_true, ite_self, wJ]
    refine ⟨by unfold big; decide, by rw [enum_len]; exact Nat.le_trans enum_cut.cut63 (by unfold big; decide), ?_⟩
    refine fLoop_inv (fun done rest Γ s => ∃ (out : List Int) (base : Int) (x4 x5 x6 x7 : Option Val), Γ = [some (.dat (.list (ns.map PyData.int))), some (.dat (.int m)), some (.own (out.map .int)), some (.dat (.int base)), x4, x5, x6, x7] ∧ (0 ≤ base ∧ base < 2147483629) ∧ (out.length : Int) ≤ 1000 + 2 * done.length ∧ done.length + rest.length ≤ 63 ∧ ∀ x ∈ rest, x ∈ enumD (cutD (ns.map PyData.int) none (some 63))) ?_ ?_ _ [] _ _ ?_
    · rintro done Γ s ⟨out, base, x4, x5, x6, x7, rfl, hb, hl, hd, _⟩
      simp only [wSs, wS, w1, wT, wE, wA, wX, wV, wP, wC, opn, rdO_d, rdO_o, asD_d, asD_n, KQY, entry, look, put, slotV, argsOk, frzA, frzV, sv_i, sv_b, sv_s, sv_0, sv_l, sv_t, sv_d, sv_n, List.map, List.length, List.replicate, List.cons_append, List.nil_append, Nat.sub_self, biD, isD_1, boolD_b, cmpD, relD_i, opD, addD_i, addD_l, subD_i, intD_i, lenD_l, lenD_t, listD_l, listD_t, tupleD_l, int2D_i, absD_i, toIntD_i, toIntD_b, eqD_i, eqD_b, eqD_s, rngD_1, rngD_2, seqD_l, seqD_t, lstD_l, ixX_l, ixX_t, negX_i, slX_l, rvX_l, repX_i, intX_i, ixD_0, ixD_1, ixD_2, true_and, and_true, ite_self]
      have hlen : ((m - (out.map PyData.int).length : Int)).toNat ≤ 1000 := by rw [List.length_map]; omega
      refine ⟨⟨by rw [List.length_map]; simp at hd; omega, by rw [List.length_map]; omega⟩, by rw [List.length_map, List.length_range]; unfold big; omega, ?_⟩
      refine fLoop_inv (fun done rest Γ s => ∃ (out : List Int) (x4 x5 x6 x7 : Option Val), Γ = [some (.dat (.list (ns.map PyData.int))), some (.dat (.int m)), some (.own (out.map .int)), some (.dat (.int base)), x4, x5, x6, x7] ∧ (out.length : Int) ≤ 1130 + done.length ∧ done.length + rest.length ≤ 1000 ∧ (m ≤ out.length + rest.length) ∧ ∀ x ∈ rest, ∃ k : Int, x = .int k ∧ 0 ≤ k ∧ k < 2000) ?_ ?_ _ [] _ _ ?_
      · rintro done Γ s ⟨out, x4, x5, x6, x7, rfl, hl, hd, hm, _⟩
        simp only [look]
        refine h out fun e => ?_
        rw [e] at hm
        simp at hm
        omega
      · rintro done x r Γ s K' ⟨out, x4, x5, x6, x7, rfl, hl, hd, hm, hr⟩ hnx hct hbk hrt hex
        obtain ⟨k, rfl, k0, k1⟩ := hr x List.mem_cons_self
        simp only [bindT, put]
        rw [List.length_cons] at hd
        refine draws_b3 hb ⟨k0, k1⟩ (by omega) fun v x7 => hnx _ _ ⟨out ++ [v], _, _, _, _, rfl, ?_, ?_, ?_, fun y hy => hr y (List.mem_cons_of_mem _ hy)⟩
        · rw [List.length_append, List.length_append, List.length_singleton, List.length_singleton]; omega
        · rw [List.length_append, List.length_singleton]; omega
        · rw [List.length_append, List.length_singleton]
          rw [List.length_cons] at hm
          omega
      · refine ⟨out, x4, x5, x6, x7, rfl, ?_, ?_, ?_, ?_⟩
        · simp at hd; simp; omega
        · rw [List.length_map, List.length_range]; simpa using hlen
        · rw [List.length_map, List.length_range, List.length_map]; omega
        · intro x hx
          obtain ⟨i, hi, rfl⟩ := List.mem_map.mp hx
          rw [List.mem_range] at hi
          exact ⟨i, rfl, by omega, by omega⟩
    · rintro done x r Γ s K' ⟨out, base, x4, x5, x6, x7, rfl, hb, hl, hd, hr⟩ hnx hct hbk hrt hex
      obtain ⟨k, c, rfl, k0, k1⟩ := enum_cut (hr x List.mem_cons_self)
      simp only [bindT, putAll, put]
      rw [List.length_cons] at hd
      refine draws_b2 ⟨k0, k1⟩ (by omega) m2 fun out' base' x6 x7 hb' ho => hnx _ _ ⟨out', base', _, _, _, _, rfl, hb', ?_, ?_, fun y hy => hr y (List.mem_cons_of_mem _ hy)⟩
      · rw [List.length_append, List.length_singleton]
        rcases ho with ho | ho <;> omega
      · rw [List.length_append, List.length_singleton]; omega
    · refine ⟨[], 7, _, _, _, _, rfl, by decide, by simp, ?_, fun x hx => hx⟩
      rw [enum_len]
      simpa using enum_cut.cut63
  · exact h.elim
/-! ### arcs and rings -/
def E_law_arc : ESumm Unit where
  run vs s Q Y := match vs with
    | [.hdl t, .dat (.int n), .dat (.int way)] => t = 1 ∧ (1 ≤ n ∧ n ≤ 40) ∧ (0 ≤ way ∧ way < 6) ∧ ∀ a, arcOk n a → Q (.dat (arcD a)) ()
    | _ => False
  mono := fun {vs s Q Q' Y Y'} h1 h2 q => by
    split at q
    · exact ⟨q.1, q.2.1, q.2.2.1, fun a ha => h1 _ _ (q.2.2.2 a ha)⟩
    · exact q.elim
@[simp] theorem run_arcB {s : Unit} {t : Nat} {n way : Int} {Q : Val → Unit → Prop} {Y : Nat → Unit → Prop} : E_law_arc.run [.hdl t, .dat (.int n), .dat (.int way)] s Q Y = (t = 1 ∧ (1 ≤ n ∧ n ≤ 40) ∧ (0 ≤ way ∧ way < 6) ∧ ∀ a, arcOk n a → Q (.dat (arcD a)) ()) := rfl
def tr_law_arc : Sms Unit :=
  (.cons (.one (.asg 3 (.calE "_law_take" E_law_take (.cons (.var 0) (.cons (.int 10007) .nil)))))
    (.cons (.one (.asg 4 (.bi .max2 (.cons (.int 1) (.cons (.op .FloorDiv (.var 1) (.int 2)) .nil)))))
    (.cons (.one (.asg 5 (.ls (.cons (.op .Add (.int 1) (.op .Mod (.var 3) (.bi .min2 (.cons (.var 1) (.cons (.int 4) .nil))))) (.cons (.op .Add (.int 1) (.op .Mod (.var 3) (.var 4))) (.cons (.op .Add (.int 1) (.op .Mod (.var 3) (.var 1))) (.cons (.var 1) (.cons (.int 1) (.cons (.bi .max2 (.cons (.int 1) (.cons (.op .Sub (.var 1) (.int 1)) .nil))) .nil)))))))))
    (.cons (.one (.asg 5 (.ix (.var 5) (.ix (.ls (.cons (.int 0) (.cons (.int 0) (.cons (.int 0) (.cons (.int 0) (.cons (.int 1) (.cons (.int 1) (.cons (.int 2) (.cons (.var 2) .nil))))))))) (.calE "_law_take" E_law_take (.cons (.var 0) (.cons (.int 8) .nil)))))))
    (.cons (.one (.ret (.tp (.cons (.calE "_law_take" E_law_take (.cons (.var 0) (.cons (.var 1) .nil))) (.cons (.var 5) .nil)))))
    .nil)))))

theorem w_law_arc : WOkE E_law_arc 3 6 tr_law_arc := fun ws s Q Y h => by
  unfold E_law_arc at h
  dsimp only at h
  split at h
  · rename_i t n way
    obtain ⟨rfl, ⟨n1, n2⟩, ⟨u1, u2⟩, h⟩ := h
    refine ⟨rfl, ?_⟩
    unfold tr_law_arc
    simp only [wSs, wS, w1, wT, wE, wA, wX, wV, wP, wC, opn, rdO_d, rdO_o, asD_d, asD_n, KQY, entry, look, put, slotV, argsOk, frzA, frzV, sv_i, sv_b, sv_s, sv_0, sv_l, sv_t, sv_d, sv_n, List.map, List.length, List.replicate, List.cons_append, List.nil_append, Nat.sub_self, biD, isD_1, boolD_b, cmpD, relD_i, opD, addD_i, addD_l, subD_i, intD_i, lenD_l, lenD_t, listD_l, listD_t, tupleD_l, int2D_i, absD_i, toIntD_i, toIntD_b, eqD_i, eqD_b, eqD_s, rngD_1, rngD_2, seqD_l, seqD_t, lstD_l, ixX_l, ixX_t, negX_i, slX_l, rvX_l, repX_i, intX_i, ixD_0, ixD_1, ixD_2, true_and, and_true, ite_self, KE2, run_takeB, eq_self]
    refine ⟨⟨by decide, by decide⟩, fun x x0 x1 => ⟨⟨by decide, by decide⟩, ?_⟩⟩
    have hmn : 0 < (if (4 : Int) < n then 4 else n) ∧ (if (4 : Int) < n then 4 else n) ≤ n := by split <;> omega
    generalize (if (4 : Int) < n then 4 else n) = mn at hmn
    have hhf : 0 < (if n / 2 > 1 then n / 2 else 1) ∧ (if n / 2 > 1 then n / 2 else 1) ≤ n := by split <;> omega
    generalize (if n / 2 > 1 then n / 2 else 1) = hf at hhf
    have hm1 : 0 < (if n - 1 > 1 then n - 1 else 1) ∧ (if n - 1 > 1 then n - 1 else 1) ≤ n := by split <;> omega
    generalize (if n - 1 > 1 then n - 1 else 1) = m1 at hm1
    refine ⟨hmn.1, hhf.1, by omega, by unfold big; decide, by unfold big; decide, ⟨by decide, by decide⟩, fun r r0 r1 => ?_⟩
    have a1 := mod_rng (a := x) (m := mn) hmn.1
    have a2 := mod_rng (a := x) (m := hf) hhf.1
    have a3 := mod_rng (a := x) (m := n) (by omega)
    refine ixD_any r0 (by simpa using r1) fun y hy => ?_
    have key : ∃ j : Int, y = .int j ∧ 0 ≤ j ∧ j < 6 := by
      simp at hy
      rcases hy with rfl | rfl | rfl | rfl
      · exact ⟨0, rfl, by decide, by decide⟩
      · exact ⟨1, rfl, by decide, by decide⟩
      · exact ⟨2, rfl, by decide, by decide⟩
      · exact ⟨way, rfl, u1, u2⟩
    obtain ⟨j, rfl, j0, j1⟩ := key
    simp only [wSs, wS, w1, wT, wE, wA, wX, wV, wP, wC, opn, rdO_d, rdO_o, asD_d, asD_n, KQY, entry, look, put, slotV, argsOk, frzA, frzV, sv_i, sv_b, sv_s, sv_0, sv_l, sv_t, sv_d, sv_n, List.map, List.length, List.replicate, List.cons_append, List.nil_append, Nat.sub_self, biD, isD_1, boolD_b, cmpD, relD_i, opD, addD_i, addD_l, subD_i, intD_i, lenD_l, lenD_t, listD_l, listD_t, tupleD_l, int2D_i, absD_i, toIntD_i, toIntD_b, eqD_i, eqD_b, eqD_s, rngD_1, rngD_2, seqD_l, seqD_t, lstD_l, ixX_l, ixX_t, negX_i, slX_l, rvX_l, repX_i, intX_i, ixD_0, ixD_1, ixD_2, true_and, and_true, ite_self]
    refine ixD_any j0 (by simpa using j1) fun z hz => ?_
    have key2 : ∃ l : Int, z = .int l ∧ 1 ≤ l ∧ l ≤ n := by
      simp at hz
      rcases hz with rfl | rfl | rfl | rfl | rfl | rfl
      · exact ⟨_, rfl, by omega, by omega⟩
      · exact ⟨_, rfl, by omega, by omega⟩
      · exact ⟨_, rfl, by omega, by omega⟩
      · exact ⟨_, rfl, by omega, by omega⟩
      · exact ⟨_, rfl, by omega, by omega⟩
      · exact ⟨_, rfl, by omega, by omega⟩
    obtain ⟨l, rfl, l1, l2⟩ := key2
    refine ⟨⟨by omega, by omega⟩, fun st s0 s1 => ⟨by unfold big; decide, h (st, l) ⟨s0, s1, l1, l2⟩⟩⟩
  · exact h.elim
/-- any ring may come -/
def E_law_ring : ESumm Unit where
  run vs s Q Y := match vs with
    | [.hdl t, .dat (.int most), .dat (.int arcs)] => t = 1 ∧ (1 ≤ most ∧ most ≤ 40) ∧ (1 ≤ arcs ∧ arcs ≤ 20) ∧ ∀ n as, RingOk n as → n ≤ most → (as.length : Int) ≤ arcs → Q (.dat (ringD n as)) ()
    | _ => False
  mono := fun {vs s Q Q' Y Y'} h1 h2 q => by
    split at q
    · exact ⟨q.1, q.2.1, q.2.2.1, fun n as ok a b => h1 _ _ (q.2.2.2 n as ok a b)⟩
    · exact q.elim
@[simp] theorem run_ringB {s : Unit} {t : Nat} {most arcs : Int} {Q : Val → Unit → Prop} {Y : Nat → Unit → Prop} : E_law_ring.run [.hdl t, .dat (.int most), .dat (.int arcs)] s Q Y = (t = 1 ∧ (1 ≤ most ∧ most ≤ 40) ∧ (1 ≤ arcs ∧ arcs ≤ 20) ∧ ∀ n as, RingOk n as → n ≤ most → (as.length : Int) ≤ arcs → Q (.dat (ringD n as)) ()) := rfl
def tr_law_ring_r1 : Sms Unit :=
  (.cons (.one (.app 6 (.var 8)))
    .nil)
def tr_law_ring_b1 : Sms Unit :=
  (.cons (.one (.asg 8 (.calE "_law_arc" E_law_arc (.cons (.var 0) (.cons (.var 4) (.cons (.var 5) .nil))))))
    (.cons (.ite (.an (.cmp .NotEq (.var 6) (.ls .nil)) (.cmp .Eq (.calE "_law_take" E_law_take (.cons (.var 0) (.cons (.int 6) .nil))) (.int 0)))
    (.cons (.one (.asgT [9, 10] (.ix (.var 6) (.calE "_law_take" E_law_take (.cons (.var 0) (.cons (.bi .len (.cons (.var 6) .nil)) .nil))))))
    (.cons (.one (.asg 11 (.tp (.cons (.op .Mod (.op .Add (.var 9) (.var 10)) (.var 4)) (.cons (.ix (.var 8) (.int 1)) .nil)))))
    (.cons (.one (.asg 8 (.ix (.ls (.cons (.tp (.cons (.var 9) (.cons (.var 10) .nil))) (.cons (.var 11) (.cons (.tp (.cons (.op .Mod (.op .Add (.var 9) (.int 1)) (.var 4)) (.cons (.var 10) .nil))) .nil)))) (.calE "_law_take" E_law_take (.cons (.var 0) (.cons (.int 3) .nil))))))
    .nil)))
    .nil)
    tr_law_ring_r1))
def tr_law_ring : Sms Unit :=
  (.cons (.one (.asg 3 (.calE "_law_take" E_law_take (.cons (.var 0) (.cons (.int 10007) .nil)))))
    (.cons (.one (.asg 4 (.ix (.ls (.cons (.op .Add (.int 1) (.op .Mod (.var 3) (.var 1))) (.cons (.var 1) (.cons (.op .Add (.int 1) (.op .Mod (.var 3) (.bi .min2 (.cons (.var 1) (.cons (.int 6) .nil))))) .nil)))) (.calE "_law_take" E_law_take (.cons (.var 0) (.cons (.int 3) .nil))))))
    (.cons (.one (.asg 5 (.calE "_law_take" E_law_take (.cons (.var 0) (.cons (.int 6) .nil)))))
    (.cons (.one (.asg 3 (.calE "_law_take" E_law_take (.cons (.var 0) (.cons (.int 10007) .nil)))))
    (.cons (.one (.asg 6 (.ls .nil)))
    (.cons (.for (.nm 7) (.rng (.cons (.ix (.ls (.cons (.op .Mod (.var 3) (.op .Add (.var 2) (.int 1))) (.cons (.var 2) (.cons (.op .Mod (.var 3) (.bi .min2 (.cons (.var 2) (.cons (.int 5) .nil)))) .nil)))) (.calE "_law_take" E_law_take (.cons (.var 0) (.cons (.int 3) .nil)))) .nil))
    tr_law_ring_b1)
    (.cons (.one (.ret (.tp (.cons (.var 4) (.cons (.var 6) .nil)))))
    .nil)))))))

theorem ring_b1 {n most arcs way x : Int} {as : List (Int × Int)} {k x8 x9 x10 x11 : Option Val} {K : Kn Unit} {s : Unit} (n1 : 1 ≤ n) (n2 : n ≤ 40) (hw : 0 ≤ way ∧ way < 6) (hl : as.length ≤ 20) (has : ∀ a ∈ as, arcOk n a)
    (hK : ∀ (a : Int × Int) (x8 x9 x10 x11 : Option Val), arcOk n a → K.nx [some (.hdl 1), some (.dat (.int most)), some (.dat (.int arcs)), some (.dat (.int x)), some (.dat (.int n)), some (.dat (.int way)), some (.own ((as ++ [a]).map arcD)), k, x8, x9, x10, x11] ()) :
    wSs tr_law_ring_b1 [some (.hdl 1), some (.dat (.int most)), some (.dat (.int arcs)), some (.dat (.int x)), some (.dat (.int n)), some (.dat (.int way)), some (.own (as.map arcD)), k, x8, x9, x10, x11] s K := by
  have fin : ∀ (a : Int × Int) (x9 x10 x11 : Option Val), arcOk n a → wSs tr_law_ring_r1 [some (.hdl 1), some (.dat (.int most)), some (.dat (.int arcs)), some (.dat (.int x)), some (.dat (.int n)), some (.dat (.int way)), some (.own (as.map arcD)), k, some (.dat (arcD a)), x9, x10, x11] () K := fun a x9 x10 x11 ha => by
    unfold tr_law_ring_r1
    simp only [wSs, wS, w1, wT, wE, wA, wX, wV, wP, wC, opn, rdO_d, rdO_o, asD_d, asD_n, KQY, entry, look, put, slotV, argsOk, frzA, frzV, sv_i, sv_b, sv_s, sv_0, sv_l, sv_t, sv_d, sv_n, List.map, List.length, List.replicate, List.cons_append, List.nil_append, Nat.sub_self, biD, isD_1, boolD_b, cmpD, relD_i, opD, addD_i, addD_l, subD_i, intD_i, lenD_l, lenD_t, listD_l, listD_t, tupleD_l, int2D_i, absD_i, toIntD_i, toIntD_b, eqD_i, eqD_b, eqD_s, rngD_1, rngD_2, seqD_l, seqD_t, lstD_l, ixX_l, ixX_t, negX_i, slX_l, rvX_l, repX_i, intX_i, ixD_0, ixD_1, ixD_2, true_and, and_true, ite_self]
    refine ⟨by rw [List.length_map]; unfold big; omega, ?_⟩
    have := hK a (some (.dat (arcD a))) x9 x10 x11 ha
    rw [List.map_append] at this
    exact this
  unfold tr_law_ring_b1
  generalize tr_law_ring_r1 = tr at fin
  simp only [wSs, wS, w1, wT, wE, wA, wX, wV, wP, wC, opn, rdO_d, rdO_o, asD_d, asD_n, KQY, entry, look, put, slotV, argsOk, frzA, frzV, sv_i, sv_b, sv_s, sv_0, sv_l, sv_t, sv_d, sv_n, List.map, List.length, List.replicate, List.cons_append, List.nil_append, Nat.sub_self, biD, isD_1, boolD_b, cmpD, relD_i, opD, addD_i, addD_l, subD_i, intD_i, lenD_l, lenD_t, listD_l, listD_t, tupleD_l, int2D_i, absD_i, toIntD_i, toIntD_b, eqD_i, eqD_b, eqD_s, rngD_1, rngD_2, seqD_l, seqD_t, lstD_l, ixX_l, ixX_t, negX_i, slX_l, rvX_l, repX_i, intX_i, ixD_0, ixD_1, ixD_2, true_and, and_true, ite_self, run_takeB, run_arcB, eqD_nil, eq_self]
  refine ⟨⟨n1, n2⟩, hw, fun a ha => ⟨by unfold big; decide, ?_⟩⟩
  by_cases he : as = []
  · subst he
    simp
    exact fin a _ _ _ ha
  · have e1 : (!(as.map arcD).isEmpty) = true := by rw [notEmpty_iff]; simpa using he
    have hpos : 0 < as.length := List.length_pos_iff.mpr he
    simp only [e1, if_true]
    refine ⟨⟨by decide, by decide⟩, fun r r0 r1 => ?_⟩
    by_cases hr : r = 0
    · subst hr
      simp only [decide_true, if_true, List.length_map]
      refine ⟨⟨by omega, by omega⟩, fun j j0 j1 => ?_⟩
      have hj : j.toNat < as.length := by omega
      rw [ixD_nat (j := j.toNat) (by omega) (arc_item hj)]
      have hb := has _ (List.getElem_mem hj)
      generalize as[j.toNat] = b at hb
      simp only [arcD, putAll, wSs, wS, w1, wT, wE, wA, wX, wV, wP, wC, opn, rdO_d, rdO_o, asD_d, asD_n, KQY, entry, look, put, slotV, argsOk, frzA, frzV, sv_i, sv_b, sv_s, sv_0, sv_l, sv_t, sv_d, sv_n, List.map, List.length, List.replicate, List.cons_append, List.nil_append, Nat.sub_self, biD, isD_1, boolD_b, cmpD, relD_i, opD, addD_i, addD_l, subD_i, intD_i, lenD_l, lenD_t, listD_l, listD_t, tupleD_l, int2D_i, absD_i, toIntD_i, toIntD_b, eqD_i, eqD_b, eqD_s, rngD_1, rngD_2, seqD_l, seqD_t, lstD_l, ixX_l, ixX_t, negX_i, slX_l, rvX_l, repX_i, intX_i, ixD_0, ixD_1, ixD_2, true_and, and_true, ite_self]
      refine ⟨by omega, by unfold big; decide, by unfold big; decide, by omega, by unfold big; decide, by unfold big; decide, ⟨by decide, by decide⟩, fun i i0 i1 => ixD_any i0 (by simpa using i1) fun y hy => ?_⟩
      have key : ∃ c, y = arcD c ∧ arcOk n c := by
        simp at hy
        rcases hy with rfl | rfl | rfl
        · exact ⟨b, rfl, hb⟩
        · exact ⟨((b.1 + b.2) % n, a.2), rfl, arcOk_mod (by omega) ha.2.2.1 ha.2.2.2⟩
        · exact ⟨((b.1 + 1) % n, b.2), rfl, arcOk_mod (by omega) hb.2.2.1 hb.2.2.2⟩
      obtain ⟨c, rfl, hc⟩ := key
      exact fin c _ _ _ hc
    · simp [hr]
      exact fin a _ _ _ ha
theorem w_law_ring : WOkE E_law_ring 3 12 tr_law_ring := fun ws s Q Y h => by
  unfold E_law_ring at h
  dsimp only at h
  split at h
  · rename_i t most arcs
    obtain ⟨rfl, ⟨m1, m2⟩, ⟨c1, c2⟩, h⟩ := h
    refine ⟨rfl, ?_⟩
    unfold tr_law_ring
    simp only [wSs, wS, w1, wT, wE, wA, wX, wV, wP, wC, opn, rdO_d, rdO_o, asD_d, asD_n, KQY, entry, look, put, slotV, argsOk, frzA, frzV, sv_i, sv_b, sv_s, sv_0, sv_l, sv_t, sv_d, sv_n, List.map, List.length, List.replicate, List.cons_append, List.nil_append, Nat.sub_self, biD, isD_1, boolD_b, cmpD, relD_i, opD, addD_i, addD_l, subD_i, intD_i, lenD_l, lenD_t, listD_l, listD_t, tupleD_l, int2D_i, absD_i, toIntD_i, toIntD_b, eqD_i, eqD_b, eqD_s, rngD_1, rngD_2, seqD_l, seqD_t, lstD_l, ixX_l, ixX_t, negX_i, slX_l, rvX_l, repX_i, intX_i, ixD_0, ixD_1, ixD_2, true_and, and_true, ite_self, KE2, run_takeB, eq_self, wJ]
    refine ⟨⟨by decide, by decide⟩, fun x x0 x1 => ⟨by omega, ?_⟩⟩
    have hm6 : 0 < (if (6 : Int) < most then 6 else most) ∧ (if (6 : Int) < most then 6 else most) ≤ most := by split <;> omega
    generalize (if (6 : Int) < most then 6 else most) = m6 at hm6
    have a1 := mod_rng (a := x) (m := most) (by omega)
    have a2 := mod_rng (a := x) (m := m6) hm6.1
    refine ⟨hm6.1, by unfold big; decide, ⟨by decide, by decide⟩, fun r r0 r1 => ixD_any r0 (by simpa using r1) fun y hy => ?_⟩
    have key : ∃ n : Int, y = .int n ∧ 1 ≤ n ∧ n ≤ most := by
      simp at hy
      rcases hy with rfl | rfl | rfl
      · exact ⟨_, rfl, by omega, by omega⟩
      · exact ⟨_, rfl, by omega, by omega⟩
      · exact ⟨_, rfl, by omega, by omega⟩
    obtain ⟨n, rfl, n1, n2⟩ := key
    refine ⟨⟨by decide, by decide⟩, fun way u0 u1 => ⟨⟨by decide, by decide⟩, fun x x0 x1 => ⟨by unfold big; decide, by omega, ?_⟩⟩⟩
    have hm5 : 0 < (if (5 : Int) < arcs then 5 else arcs) ∧ (if (5 : Int) < arcs then 5 else arcs) ≤ arcs := by split <;> omega
    generalize (if (5 : Int) < arcs then 5 else arcs) = m5 at hm5
    have a1 := mod_rng (a := x) (m := arcs + 1) (by omega)
    have a2 := mod_rng (a := x) (m := m5) hm5.1
    refine ⟨hm5.1, by unfold big; decide, ⟨by decide, by decide⟩, fun r r0 r1 => ixD_any r0 (by simpa using r1) fun y hy => ?_⟩
    have key : ∃ l : Int, y = .int l ∧ 0 ≤ l ∧ l ≤ arcs := by
      simp at hy
      rcases hy with rfl | rfl | rfl
      · exact ⟨_, rfl, by omega, by omega⟩
      · exact ⟨_, rfl, by omega, by omega⟩
      · exact ⟨_, rfl, by omega, by omega⟩
    obtain ⟨l, rfl, l1, l2⟩ := key
    simp only [wSs, wS, w1, wT, wE, wA, wX, wV, wP, wC, opn, rdO_d, rdO_o, asD_d, asD_n, KQY, entry, look, put, slotV, argsOk, frzA, frzV, sv_i, sv_b, sv_s, sv_0, sv_l, sv_t, sv_d, sv_n, List.map, List.length, List.replicate, List.cons_append, List.nil_append, Nat.sub_self, biD, isD_1, boolD_b, cmpD, relD_i, opD, addD_i, addD_l, subD_i, intD_i, lenD_l, lenD_t, listD_l, listD_t, tupleD_l, int2D_i, absD_i, toIntD_i, toIntD_b, eqD_i, eqD_b, eqD_s, rngD_1, rngD_2, seqD_l, seqD_t, lstD_l, ixX_l, ixX_t, negX_i, slX_l, rvX_l, repX_i, intX_i, ixD_0, ixD_1, ixD_2, true_and, and_true, ite_self]
    refine ⟨⟨by omega, by omega⟩, by rw [List.length_map, List.length_range]; unfold big; omega, ?_⟩
    refine fLoop_inv (fun done rest Γ s => ∃ (as : List (Int × Int)) (x7 x8 x9 x10 x11 : Option Val), Γ = [some (.hdl 1), some (.dat (.int most)), some (.dat (.int arcs)), some (.dat (.int x)), some (.dat (.int n)), some (.dat (.int way)), some (.own (as.map arcD)), x7, x8, x9, x10, x11] ∧ as.length = done.length ∧ (done.length + rest.length : Int) ≤ arcs ∧ ∀ a ∈ as, arcOk n a) ?_ ?_ _ [] _ _ ?_
    · rintro done Γ s ⟨as, x7, x8, x9, x10, x11, rfl, hl, hb, has⟩
      simp only [wSs, wS, w1, wT, wE, wA, wX, wV, wP, wC, opn, rdO_d, rdO_o, asD_d, asD_n, KQY, entry, look, put, slotV, argsOk, frzA, frzV, sv_i, sv_b, sv_s, sv_0, sv_l, sv_t, sv_d, sv_n, List.map, List.length, List.replicate, List.cons_append, List.nil_append, Nat.sub_self, biD, isD_1, boolD_b, cmpD, relD_i, opD, addD_i, addD_l, subD_i, intD_i, lenD_l, lenD_t, listD_l, listD_t, tupleD_l, int2D_i, absD_i, toIntD_i, toIntD_b, eqD_i, eqD_b, eqD_s, rngD_1, rngD_2, seqD_l, seqD_t, lstD_l, ixX_l, ixX_t, negX_i, slX_l, rvX_l, repX_i, intX_i, ixD_0, ixD_1, ixD_2, true_and, and_true, ite_self]
      simp at hb
      exact ⟨by unfold big; decide, h n as ⟨n1, by omega, by omega, has⟩ n2 (by omega)⟩
    · rintro done y r Γ s K' ⟨as, x7, x8, x9, x10, x11, rfl, hl, hb, has⟩ hnx hct hbk hrt hex
      rw [List.length_cons] at hb
      simp only [bindT, put]
      refine ring_b1 n1 (by omega) ⟨u0, u1⟩ (by omega) has fun a y8 y9 y10 y11 ha => hnx _ _ ⟨as ++ [a], _, y8, y9, y10, y11, rfl, ?_, ?_, fun b hb => ?_⟩
      · rw [List.length_append, List.length_append, List.length_singleton, List.length_singleton, hl]
      · rw [List.length_append, List.length_singleton]; omega
      · rcases List.mem_append.mp hb with hb | hb
        · exact has b hb
        · have e : b = a := by simpa using hb
          rw [e]; exact ha
    · refine ⟨[], _, _, _, _, _, rfl, rfl, ?_, fun a h => nomatch h⟩
      rw [List.length_map, List.length_range]
      simp
      omega
  · exact h.elim
/-! ### what a law's own reckoning uses -/
def S_law_copy : Summ := Summ.ex (α := Int × List (Int × Int)) (fun a => [ringD a.1 a.2]) (fun _ => True) (fun a => .dat (ringD a.1 a.2))
def tr_law_copy : Sms Unit :=
  (.cons (.one (.ret (.tp (.cons (.ix (.var 0) (.int 0)) (.cons (.bi .list (.cons (.ix (.var 0) (.int 1)) .nil)) .nil)))))
    .nil)

theorem w_law_copy : WOk S_law_copy 1 1 tr_law_copy := WOk.ex fun a _ => ⟨rfl, fun Q Y h => by
  unfold tr_law_copy
  simp only [wSs, wS, w1, wT, wE, wA, wX, wV, wP, wC, opn, rdO_d, rdO_o, asD_d, asD_n, KQY, entry, look, put, slotV, argsOk, frzA, frzV, sv_i, sv_b, sv_s, sv_0, sv_l, sv_t, sv_d, sv_n, List.map, List.length, List.replicate, List.cons_append, List.nil_append, Nat.sub_self, biD, isD_1, boolD_b, cmpD, relD_i, opD, addD_i, addD_l, subD_i, intD_i, lenD_l, lenD_t, listD_l, listD_t, tupleD_l, int2D_i, absD_i, toIntD_i, toIntD_b, eqD_i, eqD_b, eqD_s, rngD_1, rngD_2, seqD_l, seqD_t, lstD_l, ixX_l, ixX_t, negX_i, slX_l, rvX_l, repX_i, intX_i, ixD_0, ixD_1, ixD_2, true_and, and_true, ite_self, ringD]
  exact ⟨by unfold big; decide, h⟩⟩
def S_law_held : Summ := Summ.ex (α := Int × (Int × Int)) (fun a => [.int a.1, arcD a.2]) (fun a => arcOk a.1 a.2 ∧ a.1 ≤ 40) (fun a => .new ((plc a.1 a.2).map .int))
def tr_law_held_e1 : E Unit :=
  (.op .Mod (.op .Add (.ix (.var 1) (.int 0)) (.var 2)) (.var 0))
def tr_law_held : Sms Unit :=
  (.cons (.one (.ret (.comp [2] (.nm 2) (.rng (.cons (.ix (.var 1) (.int 1)) .nil)) .nil tr_law_held_e1)))
    .nil)

theorem range_map_int {f : Nat → Int} {m : Nat} {g : D → Option D} (h : ∀ i, i < m → g (.int (i : Nat)) = some (.int (f i))) : ((List.range m).map fun i => PyData.int (i : Nat)).filterMap g = ((List.range m).map f).map .int := by
  rw [List.filterMap_map, List.map_map]
  have : ∀ xs : List Nat, (∀ i ∈ xs, i < m) → xs.filterMap (fun i : Nat => g (PyData.int (i : Nat))) = xs.map (fun i => PyData.int (f i)) := by
    intro xs
    induction xs with
    | nil => intro _; rfl
    | cons x r ih =>
      intro hx
      rw [List.filterMap_cons, List.map_cons, h x (hx x List.mem_cons_self), ih fun i hi => hx i (List.mem_cons_of_mem _ hi)]
  exact this _ fun i hi => List.mem_range.mp hi
def heldG (n s : Int) : D → Option D
  | .int k => some (.int ((s + k) % n))
  | _ => none
theorem w_law_held : WOk S_law_held 2 3 tr_law_held := WOk.ex fun a pre => ⟨rfl, fun Q Y h => by
  obtain ⟨n, st, l⟩ := a
  obtain ⟨⟨h0, h1, h2, h3⟩, h4⟩ := pre
  dsimp only at h0 h1 h2 h3 h4 h ⊢
  unfold tr_law_held tr_law_held_e1
  simp only [wSs, wS, w1, wT, wE, wA, wX, wV, wP, wC, opn, rdO_d, rdO_o, asD_d, asD_n, KQY, entry, look, put, slotV, argsOk, frzA, frzV, sv_i, sv_b, sv_s, sv_0, sv_l, sv_t, sv_d, sv_n, List.map, List.length, List.replicate, List.cons_append, List.nil_append, Nat.sub_self, biD, isD_1, boolD_b, cmpD, relD_i, opD, addD_i, addD_l, subD_i, intD_i, lenD_l, lenD_t, listD_l, listD_t, tupleD_l, int2D_i, absD_i, toIntD_i, toIntD_b, eqD_i, eqD_b, eqD_s, rngD_1, rngD_2, seqD_l, seqD_t, lstD_l, ixX_l, ixX_t, negX_i, slX_l, rvX_l, repX_i, intX_i, ixD_0, ixD_1, ixD_2, true_and, and_true, ite_self, arcD, wI, wipeG, backG]
  refine ⟨⟨by omega, by omega⟩, by rw [List.length_map, List.length_range]; unfold big; omega, ?_⟩
  refine cLoop_pure (g := heldG n st) _ [] ?_ ?_
  · intro x hx k' hk
    obtain ⟨i, hi, rfl⟩ := List.mem_map.mp hx
    simp only [bindT, wSs, wS, w1, wT, wE, wA, wX, wV, wP, wC, opn, rdO_d, rdO_o, asD_d, asD_n, KQY, entry, look, put, slotV, argsOk, frzA, frzV, sv_i, sv_b, sv_s, sv_0, sv_l, sv_t, sv_d, sv_n, List.map, List.length, List.replicate, List.cons_append, List.nil_append, Nat.sub_self, biD, isD_1, boolD_b, cmpD, relD_i, opD, addD_i, addD_l, subD_i, intD_i, lenD_l, lenD_t, listD_l, listD_t, tupleD_l, int2D_i, absD_i, toIntD_i, toIntD_b, eqD_i, eqD_b, eqD_s, rngD_1, rngD_2, seqD_l, seqD_t, lstD_l, ixX_l, ixX_t, negX_i, slX_l, rvX_l, repX_i, intX_i, ixD_0, ixD_1, ixD_2, true_and, and_true, ite_self]
    simp only [heldG] at hk
    exact ⟨by omega, hk⟩
  · rw [List.nil_append, range_map_int (f := fun i => (st + (i : Int)) % n) fun i _ => rfl]
    exact h⟩
theorem call_held {n : Int} {a : Int × Int} {Q : Val → Prop} {Y : Nat → Prop} (ok : arcOk n a) (hn : n ≤ 40) (h : Q (.new ((plc n a).map .int))) : S_law_held.run [.int n, .tuple [.int a.1, .int a.2]] Q Y := ⟨(n, a), rfl, ⟨ok, hn⟩, h⟩
end Ac
namespace Ac
open PySem PySem.Spec PyProof.Rows L2
/-! ### a ring cut open behind a place: arcs as stretches of a line -/
def arcAt (as : List (Int × Int)) (k : Nat) : Int × Int := as.getD k (0, 1)
theorem arcAt_eq {as : List (Int × Int)} {k : Nat} (h : k < as.length) : arcAt as k = as[k] := by
  unfold arcAt
  rw [List.getD_eq_getElem?_getD, List.getElem?_eq_getElem h]
  rfl
def bI (n : Int) (as : List (Int × Int)) (x : Int) (k : Nat) : Int := ((arcAt as k).1 - x) % n
def eI (n : Int) (as : List (Int × Int)) (x : Int) (k : Nat) : Int := ((arcAt as k).1 - x) % n + (arcAt as k).2 - 1
def left0 (n : Int) (as : List (Int × Int)) (x : Int) : List Nat := (List.range as.length).filter fun k => !hld n (arcAt as k) x
theorem line {n x : Int} {a : Int × Int} (ok : arcOk n a) (h : hld n a x = false) : 1 ≤ (a.1 - x) % n ∧ (a.1 - x) % n + a.2 - 1 ≤ n - 1 := by
  obtain ⟨h0, h1, h2, h3⟩ := ok
  have hn : 0 < n := by omega
  unfold hld at h
  rw [decide_eq_false_iff_not] at h
  have b0 := Int.emod_nonneg (a.1 - x) (show n ≠ 0 by omega)
  have b1 := Int.emod_lt_of_pos (a.1 - x) hn
  have c0 := Int.emod_nonneg (x - a.1) (show n ≠ 0 by omega)
  have c1 := Int.emod_lt_of_pos (x - a.1) hn
  have e : x - a.1 = -(a.1 - x) := by omega
  by_cases hz : (a.1 - x) % n = 0
  · have : (x - a.1) % n = 0 := by
      rw [e]
      exact Int.emod_eq_zero_of_dvd (Int.dvd_neg.mpr (Int.dvd_of_emod_eq_zero hz))
    omega
  · have : (x - a.1) % n = n - (a.1 - x) % n := by
      have e2 : (x - a.1) % n = (n - (a.1 - x) % n) % n := by
        have : n - (a.1 - x) = x - a.1 + n := by omega
        rw [Int.sub_emod_emod, this, Int.add_emod_right]
      rw [e2]
      exact Int.emod_eq_of_lt (by omega) (by omega)
    omega
theorem hld_line {n x d : Int} {a : Int × Int} (ok : arcOk n a) (h : hld n a x = false) (d0 : 0 ≤ d) (d1 : d < n) : hld n a ((x + d) % n) = decide ((a.1 - x) % n ≤ d ∧ d ≤ (a.1 - x) % n + a.2 - 1) := by
  obtain ⟨l1, l2⟩ := line ok h
  obtain ⟨h0, h1, h2, h3⟩ := ok
  have hn : 0 < n := by omega
  have b1 := Int.emod_lt_of_pos (a.1 - x) hn
  unfold hld
  have e : ((x + d) % n - a.1) % n = (d - (a.1 - x) % n) % n := by
    rw [Int.emod_sub_emod, Int.sub_emod_emod]
    congr 1
    omega
  rw [e]
  by_cases hc : (a.1 - x) % n ≤ d
  · rw [Int.emod_eq_of_lt (by omega) (by omega)]
    rw [decide_eq_decide]
    omega
  · have : (d - (a.1 - x) % n) % n = d - (a.1 - x) % n + n := by
      rw [← Int.add_emod_right]
      exact Int.emod_eq_of_lt (by omega) (by omega)
    rw [this, decide_eq_decide]
    omega
/-! ### the greedy walk on a line -/
def IsSteps (b e : Nat → Int) : List Nat → List Nat → Prop
  | L, [] => L = []
  | L, k :: r => k ∈ L ∧ (∀ j ∈ L, e k ≤ e j) ∧ IsSteps b e (L.filter fun j => decide (e k < b j)) r
theorem IsSteps.uniq {b e : Nat → Int} : ∀ {r r' L : List Nat}, IsSteps b e L r → IsSteps b e L r' → r.map e = r'.map e
  | [], [], _, _, _ => rfl
  | [], k :: r, L, h, h' => by
    have h0 : L = [] := h
    rw [h0] at h'
    exact nomatch h'.1
  | k :: r, [], L, h, h' => by
    have h0 : L = [] := h'
    rw [h0] at h
    exact nomatch h.1
  | k :: r, k' :: r', L, h, h' => by
    have e1 : e k = e k' := by
      have := h.2.1 k' h'.1
      have := h'.2.1 k h.1
      omega
    have h2 := h.2.2
    have h3 := h'.2.2
    rw [← e1] at h3
    rw [List.map_cons, List.map_cons, e1, IsSteps.uniq h2 h3]
theorem min_ex {e : Nat → Int} : ∀ {L : List Nat}, L ≠ [] → ∃ k ∈ L, ∀ j ∈ L, e k ≤ e j
  | [], h => absurd rfl h
  | [k], _ => ⟨k, List.mem_cons_self, fun j hj => by rw [List.mem_singleton.mp hj]; exact Int.le_refl _⟩
  | k :: k2 :: L, _ => by
    obtain ⟨m, hm, hle⟩ := min_ex (e := e) (L := k2 :: L) (by simp)
    by_cases h : e k ≤ e m
    · exact ⟨k, List.mem_cons_self, fun j hj => by
        rcases List.mem_cons.mp hj with rfl | hj
        · exact Int.le_refl _
        · exact Int.le_trans h (hle j hj)⟩
    · exact ⟨m, List.mem_cons_of_mem _ hm, fun j hj => by
        rcases List.mem_cons.mp hj with rfl | hj
        · omega
        · exact hle j hj⟩
theorem filter_lt {L : List Nat} {p : Nat → Bool} {k : Nat} (h : k ∈ L) (hp : p k = false) : (L.filter p).length < L.length := by
  have h1 := List.length_filter_le p L
  rcases Nat.lt_or_ge (L.filter p).length L.length with h2 | h2
  · exact h2
  · have e : L.filter p = L := List.filter_eq_self.mpr (by
      have := List.length_filter_eq_length_iff.mp (Nat.le_antisymm h1 h2)
      exact this)
    have h3 := List.filter_eq_self.mp e k h
    rw [hp] at h3
    cases h3
theorem IsSteps.ex {b e : Nat → Int} (hbe : ∀ k, b k ≤ e k ∨ True) : ∀ (m : Nat) {L : List Nat}, L.length ≤ m → (∀ k ∈ L, b k ≤ e k) → ∃ r, IsSteps b e L r
  | 0, L, hm, _ => ⟨[], List.length_eq_zero_iff.mp (Nat.le_zero.mp hm)⟩
  | m + 1, L, hm, hL => by
    by_cases h : L = []
    · exact ⟨[], h⟩
    · obtain ⟨k, hk, hle⟩ := min_ex (e := e) h
      have hlt := filter_lt (p := fun j => decide (e k < b j)) hk (by rw [decide_eq_false_iff_not]; have := hL k hk; omega)
      obtain ⟨r, hr⟩ := IsSteps.ex hbe m (L := L.filter fun j => decide (e k < b j)) (by omega) fun j hj => hL j (List.mem_filter.mp hj).1
      exact ⟨k :: r, hk, hle, hr⟩
theorem IsSteps.mem {b e : Nat → Int} : ∀ {r L : List Nat}, IsSteps b e L r → ∀ k ∈ r, k ∈ L
  | [], _, _, k, hk => nomatch hk
  | k :: r, L, h, j, hj => by
    rcases List.mem_cons.mp hj with rfl | hj
    · exact h.1
    · exact (List.mem_filter.mp (IsSteps.mem h.2.2 j hj)).1
theorem IsSteps.len {b e : Nat → Int} : ∀ {r L : List Nat}, (∀ k ∈ L, b k ≤ e k) → IsSteps b e L r → r.length ≤ L.length
  | [], _, _, _ => Nat.zero_le _
  | k :: r, L, hL, h => by
    have hlt := filter_lt (p := fun j => decide (e k < b j)) h.1 (by rw [decide_eq_false_iff_not]; have := hL k h.1; omega)
    have ih := IsSteps.len (fun j hj => hL j (List.mem_filter.mp hj).1) h.2.2
    rw [List.length_cons]
    omega
/-- .. the first of those that end first -/
def IsStepsF (b e : Nat → Int) : List Nat → List Nat → Prop
  | L, [] => L = []
  | L, k :: r => k ∈ L ∧ (∀ j ∈ L, e k ≤ e j) ∧ (∀ j ∈ L, e j = e k → k ≤ j) ∧ IsStepsF b e (L.filter fun j => decide (e k < b j)) r
theorem IsStepsF.weak {b e : Nat → Int} : ∀ {r L : List Nat}, IsStepsF b e L r → IsSteps b e L r
  | [], _, h => h
  | _ :: _, _, h => ⟨h.1, h.2.1, h.2.2.2.weak⟩
theorem IsStepsF.uniq {b e : Nat → Int} : ∀ {r r' L : List Nat}, IsStepsF b e L r → IsStepsF b e L r' → r = r'
  | [], [], _, _, _ => rfl
  | [], k :: r, L, h, h' => by
    have h0 : L = [] := h
    rw [h0] at h'
    exact nomatch h'.1
  | k :: r, [], L, h, h' => by
    have h0 : L = [] := h'
    rw [h0] at h
    exact nomatch h.1
  | k :: r, k' :: r', L, h, h' => by
    have e1 : e k = e k' := by
      have := h.2.1 k' h'.1
      have := h'.2.1 k h.1
      omega
    have e2 : k = k' := Nat.le_antisymm (h.2.2.1 k' h'.1 e1.symm) (h'.2.2.1 k h.1 e1)
    subst e2
    rw [IsStepsF.uniq h.2.2.2 h'.2.2.2]
theorem min_exF {e : Nat → Int} : ∀ {L : List Nat}, L ≠ [] → ∃ k ∈ L, (∀ j ∈ L, e k ≤ e j) ∧ ∀ j ∈ L, e j = e k → k ≤ j
  | [], h => absurd rfl h
  | [k], _ => ⟨k, List.mem_cons_self, fun j hj => by rw [List.mem_singleton.mp hj]; exact Int.le_refl _, fun j hj _ => by rw [List.mem_singleton.mp hj]; exact Nat.le_refl _⟩
  | k :: k2 :: L, _ => by
    obtain ⟨m, hm, hle, hf⟩ := min_exF (e := e) (L := k2 :: L) (by simp)
    by_cases h : e k < e m ∨ (e k = e m ∧ k ≤ m)
    · exact ⟨k, List.mem_cons_self, fun j hj => by
        rcases List.mem_cons.mp hj with rfl | hj
        · exact Int.le_refl _
        · have := hle j hj; omega, fun j hj he => by
        rcases List.mem_cons.mp hj with rfl | hj
        · exact Nat.le_refl _
        · have h1 := hle j hj
          have h2 : e j = e m := by omega
          have := hf j hj h2
          omega⟩
    · exact ⟨m, List.mem_cons_of_mem _ hm, fun j hj => by
        rcases List.mem_cons.mp hj with rfl | hj
        · omega
        · exact hle j hj, fun j hj he => by
        rcases List.mem_cons.mp hj with rfl | hj
        · omega
        · exact hf j hj he⟩
theorem IsStepsF.ex {b e : Nat → Int} : ∀ (m : Nat) {L : List Nat}, L.length ≤ m → (∀ k ∈ L, b k ≤ e k) → ∃ r, IsStepsF b e L r
  | 0, L, hm, _ => ⟨[], List.length_eq_zero_iff.mp (Nat.le_zero.mp hm)⟩
  | m + 1, L, hm, hL => by
    by_cases h : L = []
    · exact ⟨[], h⟩
    · obtain ⟨k, hk, hle, hf⟩ := min_exF (e := e) h
      have hlt := filter_lt (p := fun j => decide (e k < b j)) hk (by rw [decide_eq_false_iff_not]; have := hL k hk; omega)
      obtain ⟨r, hr⟩ := IsStepsF.ex m (L := L.filter fun j => decide (e k < b j)) (by omega) fun j hj => hL j (List.mem_filter.mp hj).1
      exact ⟨k :: r, hk, hle, hf, hr⟩
/-! ### the same, of a ring -/
section
variable {n x : Int} {as : List (Int × Int)}
theorem RingOk.at (ok : RingOk n as) {k : Nat} (h : k < as.length) : arcOk n (arcAt as k) := by
  rw [arcAt_eq h]
  exact ok.arcs _ (List.getElem_mem h)
theorem mem_left0 {k : Nat} : k ∈ left0 n as x ↔ k < as.length ∧ hld n (arcAt as k) x = false := by
  unfold left0
  rw [List.mem_filter, List.mem_range, Bool.not_eq_true']
theorem left0_rng (ok : RingOk n as) {k : Nat} (h : k ∈ left0 n as x) : 1 ≤ bI n as x k ∧ bI n as x k ≤ eI n as x k ∧ eI n as x k ≤ n - 1 := by
  obtain ⟨h1, h2⟩ := mem_left0.mp h
  obtain ⟨l1, l2⟩ := line (ok.at h1) h2
  have := (ok.at h1).2.2.1
  unfold bI eI
  omega
theorem left0_len : (left0 n as x).length ≤ as.length := by
  unfold left0
  exact Nat.le_trans (List.length_filter_le _ _) (by rw [List.length_range]; exact Nat.le_refl _)
theorem left0_hld (ok : RingOk n as) {k : Nat} (h : k ∈ left0 n as x) {d : Int} (d0 : 0 ≤ d) (d1 : d < n) : hld n (arcAt as k) ((x + d) % n) = decide (bI n as x k ≤ d ∧ d ≤ eI n as x k) := by
  obtain ⟨h1, h2⟩ := mem_left0.mp h
  exact hld_line (ok.at h1) h2 d0 d1
/-- the steps of the walk from x -/
def IsWalk (n : Int) (as : List (Int × Int)) (x : Int) (r : List Nat) : Prop := IsSteps (bI n as x) (eI n as x) (left0 n as x) r
def IsWalkF (n : Int) (as : List (Int × Int)) (x : Int) (r : List Nat) : Prop := IsStepsF (bI n as x) (eI n as x) (left0 n as x) r
theorem IsWalkF.ex (ok : RingOk n as) : ∃ r, IsWalkF n as x r := IsStepsF.ex _ (Nat.le_refl _) fun k hk => (left0_rng ok hk).2.1
theorem left0_lt : (left0 n as x).Pairwise (· < ·) := List.Pairwise.filter _ List.pairwise_lt_range
theorem IsWalk.ex (ok : RingOk n as) : ∃ r, IsWalk n as x r := IsSteps.ex (fun _ => .inr trivial) _ (Nat.le_refl _) fun k hk => (left0_rng ok hk).2.1
def plK (n : Int) (as : List (Int × Int)) (x : Int) (k : Nat) : Int := (x + eI n as x k) % n
def stepD (n : Int) (as : List (Int × Int)) (x : Int) (k : Nat) : D := .tuple [.int (plK n as x k), .int (k : Nat)]
theorem walk_eq {r r' : List Nat} (h : IsWalk n as x r) (h' : IsWalk n as x r') : r.map (plK n as x) = r'.map (plK n as x) := by
  have := IsSteps.uniq h h'
  have e : ∀ l : List Nat, l.map (plK n as x) = (l.map (eI n as x)).map fun d => (x + d) % n := fun l => by rw [List.map_map]; rfl
  rw [e, e, this]
end
/-! ### numbers, picked and reckoned -/
def natG (f : Nat → Option D) : D → Option D
  | .int k => f k.toNat
  | _ => none
theorem natG_map {f : Nat → Option D} : ∀ L : List Nat, (L.map natD).filterMap (natG f) = L.filterMap f
  | [] => rfl
  | k :: L => by
    rw [List.map_cons, List.filterMap_cons, List.filterMap_cons, natG_map L]
    rfl
theorem filterMap_pick {p : Nat → Bool} {f : Nat → D} : ∀ L : List Nat, (L.filterMap fun k => if p k = true then some (f k) else none) = (L.filter p).map f
  | [] => rfl
  | k :: L => by
    rw [List.filterMap_cons, filterMap_pick L]
    by_cases h : p k = true
    · rw [if_pos h, List.filter_cons_of_pos h]
      rfl
    · rw [if_neg h, List.filter_cons_of_neg h]
theorem filterMap_all {f : Nat → D} : ∀ L : List Nat, (L.filterMap fun k => some (f k)) = L.map f
  | [] => rfl
  | k :: L => by rw [List.filterMap_cons, filterMap_all L]; rfl
theorem minLD_map {e : Nat → Int} {L : List Nat} {k : Val → Prop} (hne : L ≠ []) (h : ∀ j ∈ L, (∀ i ∈ L, e j ≤ e i) → k (.dat (.int (e j)))) : minLD [.list (L.map fun k => .int (e k))] k := by
  have el : (L.map fun k => PyData.int (e k)) = (L.map e).map .int := by rw [List.map_map]; rfl
  show ∃ ns, intsD (L.map fun k => PyData.int (e k)) = some ns ∧ 0 < ns.length ∧ ∀ m, m ∈ ns → (∀ y, y ∈ ns → m ≤ y) → k (.dat (.int m))
  refine ⟨L.map e, by rw [el]; exact intsD_map _, by rw [List.length_map]; exact List.length_pos_iff.mpr hne, fun m hm hy => ?_⟩
  obtain ⟨j, hj, rfl⟩ := List.mem_map.mp hm
  exact h j hj fun i hi => hy _ (List.mem_map.mpr ⟨i, hi, rfl⟩)
theorem index_map {e : Nat → Int} {L : List Nat} {j : Nat} {k : Val → Prop} (hj : j ∈ L) (h : ∀ (i : Nat) (hi : i < L.length), e L[i] = e j → k (.dat (.int (i : Nat)))) : mtD .index (.list (L.map fun k => .int (e k))) [.int (e j)] k := by
  have el : (L.map fun k => PyData.int (e k)) = (L.map e).map .int := by rw [List.map_map]; rfl
  show ∃ ns, intsD (L.map fun k => PyData.int (e k)) = some ns ∧ (match idxD ns (e j) with | some j => k (.dat (.int (j : Nat))) | none => False)
  refine ⟨L.map e, by rw [el]; exact intsD_map _, ?_⟩
  cases q : idxD (L.map e) (e j) with
  | none =>
    unfold idxD at q
    have := List.findIdx?_eq_none_iff.mp q (e j) (List.mem_map.mpr ⟨j, hj, rfl⟩)
    simp at this
  | some i =>
    have h1 := (idx_spec q).1
    rw [List.getElem?_map] at h1
    cases q2 : L[i]? with
    | none => rw [q2] at h1; cases h1
    | some j2 =>
      rw [q2] at h1
      obtain ⟨hi, h2⟩ := List.getElem?_eq_some_iff.mp q2
      exact h i hi (by rw [h2]; exact Option.some.inj h1)
/-! ### steps_from -/
def Ssteps_from : Summ where
  run ds Q _ := ∃ n as x, ds = [ringD n as, .int x] ∧ RingOk n as ∧ (0 ≤ x ∧ x < n) ∧ ∀ r, IsWalkF n as x r → Q (.new (r.map (stepD n as x)))
  mono := fun h1 _ ⟨n, as, x, e, ok, hx, q⟩ => ⟨n, as, x, e, ok, hx, fun r hr => h1 _ (q r hr)⟩
def trsteps_from_c1 : Es Unit :=
  (.cons (.nt (.call "holds" Sholds (.cons (.var 2) (.cons (.var 6) (.cons (.var 1) .nil))))) .nil)
def trsteps_from_e1 : E Unit :=
  (.op .Sub (.op .Add (.op .Mod (.op .Sub (.ix (.ix (.var 3) (.var 5)) (.int 0)) (.var 1)) (.var 2)) (.ix (.ix (.var 3) (.var 5)) (.int 1))) (.int 1))
def trsteps_from_c2 : Es Unit :=
  (.cons (.nt (.call "holds" Sholds (.cons (.var 2) (.cons (.ix (.var 3) (.var 5)) (.cons (.var 10) .nil))))) .nil)
def trsteps_from_b1 : Sms Unit :=
  (.cons (.one (.asgL 8 (.comp [5] (.nm 5) (.seq (.var 4)) .nil trsteps_from_e1)))
    (.cons (.one (.asg 9 (.ix (.var 4) (.mt .index (.var 8) (.cons (.bi .minL (.cons (.var 8) .nil)) .nil)))))
    (.cons (.one (.asg 10 (.op .Mod (.op .Add (.var 1) (.bi .minL (.cons (.var 8) .nil))) (.var 2))))
    (.cons (.one (.app 7 (.tp (.cons (.var 10) (.cons (.var 9) .nil)))))
    (.cons (.one (.asgL 4 (.comp [5] (.nm 5) (.seq (.var 4)) trsteps_from_c2 (.var 5))))
    .nil)))))
def trsteps_from : Sms Unit :=
  (.cons (.one (.asgT [2, 3] (.var 0)))
    (.cons (.one (.asgL 4 (.comp [5, 6] (.tp [5, 6]) (.enu (.var 3)) trsteps_from_c1 (.var 5))))
    (.cons (.one (.asg 7 (.ls .nil)))
    (.cons (.whl (.cmp .NotEq (.var 4) (.ls .nil))
    trsteps_from_b1)
    (.cons (.one (.ret (.var 7)))
    .nil)))))

theorem steps_b1 {n x : Int} {as : List (Int × Int)} {L acc : List Nat} {x5 x6 x8 x9 x10 : Option Val} {K : Kn Unit} {u : Unit} (ok : RingOk n as) (hx : 0 ≤ x ∧ x < n) (hne : L ≠ []) (hL : ∀ k ∈ L, k ∈ left0 n as x) (hlt : L.Pairwise (· < ·)) (hl : acc.length ≤ 20)
    (hK : ∀ (k : Nat) (x5 x6 x8 x9 x10 : Option Val), k ∈ L → (∀ j ∈ L, eI n as x k ≤ eI n as x j) → (∀ j ∈ L, eI n as x j = eI n as x k → k ≤ j) → K.nx [some (.dat (ringD n as)), some (.dat (.int x)), some (.dat (.int n)), some (.dat (.list (as.map arcD))), some (.own ((L.filter fun j => decide (eI n as x k < bI n as x j)).map natD)), x5, x6, some (.own ((acc ++ [k]).map (stepD n as x))), x8, x9, x10] u) (hlL : L.length ≤ 20) :
    wSs trsteps_from_b1 [some (.dat (ringD n as)), some (.dat (.int x)), some (.dat (.int n)), some (.dat (.list (as.map arcD))), some (.own (L.map natD)), x5, x6, some (.own (acc.map (stepD n as x))), x8, x9, x10] u K := by
  unfold trsteps_from_b1
  have n1 := ok.n1
  have n40 := ok.n40
  simp only [wSs, wS, w1, wT, wE, wA, wX, wV, wP, wC, opn, rdO_d, rdO_o, asD_d, asD_n, KQY, entry, look, put, slotV, argsOk, frzA, frzV, sv_i, sv_b, sv_s, sv_0, sv_l, sv_t, sv_d, sv_n, List.map, List.length, List.replicate, List.cons_append, List.nil_append, Nat.sub_self, biD, isD_1, boolD_b, cmpD, relD_i, opD, addD_i, addD_l, subD_i, intD_i, lenD_l, lenD_t, listD_l, listD_t, tupleD_l, int2D_i, absD_i, toIntD_i, toIntD_b, eqD_i, eqD_b, eqD_s, rngD_1, rngD_2, seqD_l, seqD_t, lstD_l, ixX_l, ixX_t, negX_i, slX_l, rvX_l, repX_i, intX_i, ixD_0, ixD_1, ixD_2, true_and, and_true, ite_self, wI, wipeG, backG]
  refine ⟨by rw [List.length_map]; unfold big; omega, ?_⟩
  refine cLoop_pure (g := natG fun k => some (.int (eI n as x k))) _ [] ?_ ?_
  · intro y hy k' hk
    obtain ⟨k, hkL, rfl⟩ := List.mem_map.mp hy
    have hk1 := (mem_left0.mp (hL k hkL)).1
    unfold trsteps_from_e1
    simp only [bindT, natD, wSs, wS, w1, wT, wE, wA, wX, wV, wP, wC, opn, rdO_d, rdO_o, asD_d, asD_n, KQY, entry, look, put, slotV, argsOk, frzA, frzV, sv_i, sv_b, sv_s, sv_0, sv_l, sv_t, sv_d, sv_n, List.map, List.length, List.replicate, List.cons_append, List.nil_append, Nat.sub_self, biD, isD_1, boolD_b, cmpD, relD_i, opD, addD_i, addD_l, subD_i, intD_i, lenD_l, lenD_t, listD_l, listD_t, tupleD_l, int2D_i, absD_i, toIntD_i, toIntD_b, eqD_i, eqD_b, eqD_s, rngD_1, rngD_2, seqD_l, seqD_t, lstD_l, ixX_l, ixX_t, negX_i, slX_l, rvX_l, repX_i, intX_i, ixD_0, ixD_1, ixD_2, true_and, and_true, ite_self]
    rw [ixD_nat (j := k) rfl (arc_item hk1)]
    simp only [arcD, wSs, wS, w1, wT, wE, wA, wX, wV, wP, wC, opn, rdO_d, rdO_o, asD_d, asD_n, KQY, entry, look, put, slotV, argsOk, frzA, frzV, sv_i, sv_b, sv_s, sv_0, sv_l, sv_t, sv_d, sv_n, List.map, List.length, List.replicate, List.cons_append, List.nil_append, Nat.sub_self, biD, isD_1, boolD_b, cmpD, relD_i, opD, addD_i, addD_l, subD_i, intD_i, lenD_l, lenD_t, listD_l, listD_t, tupleD_l, int2D_i, absD_i, toIntD_i, toIntD_b, eqD_i, eqD_b, eqD_s, rngD_1, rngD_2, seqD_l, seqD_t, lstD_l, ixX_l, ixX_t, negX_i, slX_l, rvX_l, repX_i, intX_i, ixD_0, ixD_1, ixD_2, true_and, and_true, ite_self]
    refine ⟨by omega, ?_⟩
    rw [ixD_nat (j := k) rfl (arc_item hk1)]
    simp only [arcD, wSs, wS, w1, wT, wE, wA, wX, wV, wP, wC, opn, rdO_d, rdO_o, asD_d, asD_n, KQY, entry, look, put, slotV, argsOk, frzA, frzV, sv_i, sv_b, sv_s, sv_0, sv_l, sv_t, sv_d, sv_n, List.map, List.length, List.replicate, List.cons_append, List.nil_append, Nat.sub_self, biD, isD_1, boolD_b, cmpD, relD_i, opD, addD_i, addD_l, subD_i, intD_i, lenD_l, lenD_t, listD_l, listD_t, tupleD_l, int2D_i, absD_i, toIntD_i, toIntD_b, eqD_i, eqD_b, eqD_s, rngD_1, rngD_2, seqD_l, seqD_t, lstD_l, ixX_l, ixX_t, negX_i, slX_l, rvX_l, repX_i, intX_i, ixD_0, ixD_1, ixD_2, true_and, and_true, ite_self]
    have hk2 : k' (some (.int (eI n as x k))) _ _ := hk
    unfold eI at hk2
    rw [arcAt_eq hk1] at hk2
    exact hk2
  · rw [List.nil_append, natG_map, filterMap_all]
    simp only [wSs, wS, w1, wT, wE, wA, wX, wV, wP, wC, opn, rdO_d, rdO_o, asD_d, asD_n, KQY, entry, look, put, slotV, argsOk, frzA, frzV, sv_i, sv_b, sv_s, sv_0, sv_l, sv_t, sv_d, sv_n, List.map, List.length, List.replicate, List.cons_append, List.nil_append, Nat.sub_self, biD, isD_1, boolD_b, cmpD, relD_i, opD, addD_i, addD_l, subD_i, intD_i, lenD_l, lenD_t, listD_l, listD_t, tupleD_l, int2D_i, absD_i, toIntD_i, toIntD_b, eqD_i, eqD_b, eqD_s, rngD_1, rngD_2, seqD_l, seqD_t, lstD_l, ixX_l, ixX_t, negX_i, slX_l, rvX_l, repX_i, intX_i, ixD_0, ixD_1, ixD_2, true_and, and_true, ite_self]
    refine minLD_map hne fun j hj hmin => ?_
    simp only [wSs, wS, w1, wT, wE, wA, wX, wV, wP, wC, opn, rdO_d, rdO_o, asD_d, asD_n, KQY, entry, look, put, slotV, argsOk, frzA, frzV, sv_i, sv_b, sv_s, sv_0, sv_l, sv_t, sv_d, sv_n, List.map, List.length, List.replicate, List.cons_append, List.nil_append, Nat.sub_self, biD, isD_1, boolD_b, cmpD, relD_i, opD, addD_i, addD_l, subD_i, intD_i, lenD_l, lenD_t, listD_l, listD_t, tupleD_l, int2D_i, absD_i, toIntD_i, toIntD_b, eqD_i, eqD_b, eqD_s, rngD_1, rngD_2, seqD_l, seqD_t, lstD_l, ixX_l, ixX_t, negX_i, slX_l, rvX_l, repX_i, intX_i, ixD_0, ixD_1, ixD_2, true_and, and_true, ite_self]
    refine idx_mp ⟨j, hj, rfl⟩ fun i hi hei hfirst => ?_
    simp only [wSs, wS, w1, wT, wE, wA, wX, wV, wP, wC, opn, rdO_d, rdO_o, asD_d, asD_n, KQY, entry, look, put, slotV, argsOk, frzA, frzV, sv_i, sv_b, sv_s, sv_0, sv_l, sv_t, sv_d, sv_n, List.map, List.length, List.replicate, List.cons_append, List.nil_append, Nat.sub_self, biD, isD_1, boolD_b, cmpD, relD_i, opD, addD_i, addD_l, subD_i, intD_i, lenD_l, lenD_t, listD_l, listD_t, tupleD_l, int2D_i, absD_i, toIntD_i, toIntD_b, eqD_i, eqD_b, eqD_s, rngD_1, rngD_2, seqD_l, seqD_t, lstD_l, ixX_l, ixX_t, negX_i, slX_l, rvX_l, repX_i, intX_i, ixD_0, ixD_1, ixD_2, true_and, and_true, ite_self]
    rw [ixD_nat (j := i) rfl (by rw [List.getElem?_map, List.getElem?_eq_getElem hi]; rfl)]
    have hiL := List.getElem_mem hi
    have hfi : ∀ j2 ∈ L, eI n as x j2 = eI n as x L[i] → L[i] ≤ j2 := fun j2 hj2 e => by
      obtain ⟨i2, hi2, rfl⟩ := List.mem_iff_getElem.mp hj2
      rcases Nat.lt_or_ge i2 i with h | h
      · exact absurd (e.trans hei) (hfirst i2 h)
      · rcases Nat.lt_or_eq_of_le h with h | h
        · exact Nat.le_of_lt (List.pairwise_iff_getElem.mp hlt i i2 hi hi2 h)
        · subst h; exact Nat.le_refl _
    generalize L[i] = k at hei hiL hfi
    refine minLD_map hne fun j2 hj2 hmin2 => ?_
    have e2 : eI n as x j2 = eI n as x k := by
      have := hmin j2 hj2
      have := hmin2 j hj
      omega
    rw [e2]
    have hr := left0_rng ok (hL k hiL)
    simp only [natD, wSs, wS, w1, wT, wE, wA, wX, wV, wP, wC, opn, rdO_d, rdO_o, asD_d, asD_n, KQY, entry, look, put, slotV, argsOk, frzA, frzV, sv_i, sv_b, sv_s, sv_0, sv_l, sv_t, sv_d, sv_n, List.map, List.length, List.replicate, List.cons_append, List.nil_append, Nat.sub_self, biD, isD_1, boolD_b, cmpD, relD_i, opD, addD_i, addD_l, subD_i, intD_i, lenD_l, lenD_t, listD_l, listD_t, tupleD_l, int2D_i, absD_i, toIntD_i, toIntD_b, eqD_i, eqD_b, eqD_s, rngD_1, rngD_2, seqD_l, seqD_t, lstD_l, ixX_l, ixX_t, negX_i, slX_l, rvX_l, repX_i, intX_i, ixD_0, ixD_1, ixD_2, true_and, and_true, ite_self, wI, wipeG, backG]
    refine ⟨by omega, by unfold big; decide, by rw [List.length_map]; unfold big; omega, by rw [List.length_map]; unfold big; omega, ?_⟩
    refine cLoop_pure (g := natG fun j => if decide (eI n as x k < bI n as x j) = true then some (natD j) else none) _ [] ?_ ?_
    · intro y hy k' hk
      obtain ⟨j3, hj3, rfl⟩ := List.mem_map.mp hy
      have hk1 := (mem_left0.mp (hL j3 hj3)).1
      unfold trsteps_from_c2
      simp only [bindT, natD, wSs, wS, w1, wT, wE, wA, wX, wV, wP, wC, opn, rdO_d, rdO_o, asD_d, asD_n, KQY, entry, look, put, slotV, argsOk, frzA, frzV, sv_i, sv_b, sv_s, sv_0, sv_l, sv_t, sv_d, sv_n, List.map, List.length, List.replicate, List.cons_append, List.nil_append, Nat.sub_self, biD, isD_1, boolD_b, cmpD, relD_i, opD, addD_i, addD_l, subD_i, intD_i, lenD_l, lenD_t, listD_l, listD_t, tupleD_l, int2D_i, absD_i, toIntD_i, toIntD_b, eqD_i, eqD_b, eqD_s, rngD_1, rngD_2, seqD_l, seqD_t, lstD_l, ixX_l, ixX_t, negX_i, slX_l, rvX_l, repX_i, intX_i, ixD_0, ixD_1, ixD_2, true_and, and_true, ite_self]
      rw [ixD_nat (j := j3) rfl (arc_item hk1)]
      simp only [arcD, wSs, wS, w1, wT, wE, wA, wX, wV, wP, wC, opn, rdO_d, rdO_o, asD_d, asD_n, KQY, entry, look, put, slotV, argsOk, frzA, frzV, sv_i, sv_b, sv_s, sv_0, sv_l, sv_t, sv_d, sv_n, List.map, List.length, List.replicate, List.cons_append, List.nil_append, Nat.sub_self, biD, isD_1, boolD_b, cmpD, relD_i, opD, addD_i, addD_l, subD_i, intD_i, lenD_l, lenD_t, listD_l, listD_t, tupleD_l, int2D_i, absD_i, toIntD_i, toIntD_b, eqD_i, eqD_b, eqD_s, rngD_1, rngD_2, seqD_l, seqD_t, lstD_l, ixX_l, ixX_t, negX_i, slX_l, rvX_l, repX_i, intX_i, ixD_0, ixD_1, ixD_2, true_and, and_true, ite_self, run_holds]
      have hh := left0_hld ok (hL j3 hj3) (d := eI n as x k) (by omega) (by omega)
      rw [arcAt_eq hk1] at hh
      have hle := hmin j3 hj3
      rw [hh]
      refine ⟨by omega, ?_⟩
      have hk2 : k' (if decide (eI n as x k < bI n as x j3) = true then some (natD j3) else none) _ _ := hk
      by_cases hc : eI n as x k < bI n as x j3
      · have hb : (!decide (bI n as x j3 ≤ eI n as x k ∧ eI n as x k ≤ eI n as x j3)) = true := by simp; omega
        rw [if_pos (decide_eq_true hc)] at hk2
        simp only [hb, if_true, if_pos]
        exact hk2
      · have hb : (!decide (bI n as x j3 ≤ eI n as x k ∧ eI n as x k ≤ eI n as x j3)) = false := by simp; omega
        rw [if_neg (by simp [hc])] at hk2
        simp only [hb, Bool.false_eq_true, if_false]
        exact hk2
    · rw [List.nil_append, natG_map, filterMap_pick]
      have := fun a b c d e => hK k a b c d e hiL (fun j' hj' => by
        have := hmin j' hj'
        omega) hfi
      simp only [List.map_append] at this
      exact this _ _ _ _ _
theorem zip_pick {p : Int × Int → Bool} : ∀ (as pre : List (Int × Int)), (as.zipIdx pre.length).filterMap (fun q => if p q.1 = true then some (natD q.2) else none) = ((List.range' pre.length as.length).filter fun k => p (arcAt (pre ++ as) k)).map natD
  | [], pre => rfl
  | a :: r, pre => by
    have ih := zip_pick (p := p) r (pre ++ [a])
    rw [List.length_append, List.length_singleton] at ih
    rw [List.zipIdx_cons, List.filterMap_cons, ih, List.length_cons, List.range'_succ, List.filter_cons]
    have e : arcAt (pre ++ a :: r) pre.length = a := by
      unfold arcAt
      rw [List.getD_eq_getElem?_getD, List.getElem?_append_right (Nat.le_refl _), Nat.sub_self]
      rfl
    rw [e, List.append_assoc, List.singleton_append]
    by_cases h : p a = true
    · simp [h]
    · simp [h]
def leftG (n x : Int) : D → Option D
  | .tuple [.int k, .tuple [.int s, .int m]] => if (!hld n (s, m) x) = true then some (.int k) else none
  | _ => none
theorem left_zip {n x : Int} {as : List (Int × Int)} : (as.zipIdx).filterMap (leftG n x ∘ fun q => PyData.tuple [.int (q.2 : Nat), arcD q.1]) = (left0 n as x).map natD := by
  have h := zip_pick (p := fun a => !hld n a x) as []
  rw [List.nil_append, List.length_nil, ← List.range_eq_range'] at h
  exact h
theorem w_steps_from : WOk Ssteps_from 2 11 trsteps_from := fun ds Q Y h => by
  obtain ⟨n, as, x, rfl, ok, hx, h⟩ := h
  refine ⟨rfl, ?_⟩
  have n1 := ok.n1
  unfold trsteps_from
  simp only [wSs, wS, w1, wT, wE, wA, wX, wV, wP, wC, opn, rdO_d, rdO_o, asD_d, asD_n, KQY, entry, look, put, slotV, argsOk, frzA, frzV, sv_i, sv_b, sv_s, sv_0, sv_l, sv_t, sv_d, sv_n, List.map, List.length, List.replicate, List.cons_append, List.nil_append, Nat.sub_self, biD, isD_1, boolD_b, cmpD, relD_i, opD, addD_i, addD_l, subD_i, intD_i, lenD_l, lenD_t, listD_l, listD_t, tupleD_l, int2D_i, absD_i, toIntD_i, toIntD_b, eqD_i, eqD_b, eqD_s, rngD_1, rngD_2, seqD_l, seqD_t, lstD_l, ixX_l, ixX_t, negX_i, slX_l, rvX_l, repX_i, intX_i, ixD_0, ixD_1, ixD_2, true_and, and_true, ite_self, ringD, putAll, wI, wipeG, backG]
  refine ⟨by rw [enumD_len, List.length_map]; exact big20 ok.len, ?_⟩
  rw [enumD_map]
  refine cLoop_pure (g := leftG n x) _ [] ?_ ?_
  · intro y hy k' hk
    obtain ⟨q, hq, rfl⟩ := List.mem_map.mp hy
    unfold trsteps_from_c1
    simp only [bindT, putAll, arcD, wSs, wS, w1, wT, wE, wA, wX, wV, wP, wC, opn, rdO_d, rdO_o, asD_d, asD_n, KQY, entry, look, put, slotV, argsOk, frzA, frzV, sv_i, sv_b, sv_s, sv_0, sv_l, sv_t, sv_d, sv_n, List.map, List.length, List.replicate, List.cons_append, List.nil_append, Nat.sub_self, biD, isD_1, boolD_b, cmpD, relD_i, opD, addD_i, addD_l, subD_i, intD_i, lenD_l, lenD_t, listD_l, listD_t, tupleD_l, int2D_i, absD_i, toIntD_i, toIntD_b, eqD_i, eqD_b, eqD_s, rngD_1, rngD_2, seqD_l, seqD_t, lstD_l, ixX_l, ixX_t, negX_i, slX_l, rvX_l, repX_i, intX_i, ixD_0, ixD_1, ixD_2, true_and, and_true, ite_self, run_holds]
    refine ⟨by omega, ?_⟩
    simp only [leftG, arcD] at hk
    cases hc : hld n (q.1.1, q.1.2) x with
    | true =>
      rw [hc] at hk
      simp only [Bool.not_true, Bool.false_eq_true, if_false, if_true] at hk ⊢
      exact hk
    | false =>
      rw [hc] at hk
      simp only [Bool.not_false, if_true] at hk ⊢
      exact hk
  · rw [List.nil_append, List.filterMap_map, left_zip]
    simp only [wSs, wS, w1, wT, wE, wA, wX, wV, wP, wC, opn, rdO_d, rdO_o, asD_d, asD_n, KQY, entry, look, put, slotV, argsOk, frzA, frzV, sv_i, sv_b, sv_s, sv_0, sv_l, sv_t, sv_d, sv_n, List.map, List.length, List.replicate, List.cons_append, List.nil_append, Nat.sub_self, biD, isD_1, boolD_b, cmpD, relD_i, opD, addD_i, addD_l, subD_i, intD_i, lenD_l, lenD_t, listD_l, listD_t, tupleD_l, int2D_i, absD_i, toIntD_i, toIntD_b, eqD_i, eqD_b, eqD_s, rngD_1, rngD_2, seqD_l, seqD_t, lstD_l, ixX_l, ixX_t, negX_i, slX_l, rvX_l, repX_i, intX_i, ixD_0, ixD_1, ixD_2, true_and, and_true, ite_self]
    refine ⟨by unfold big; decide, ?_⟩
    refine ⟨fun m Γ _ => ∃ (L acc : List Nat) (x5 x6 x8 x9 x10 : Option Val), Γ = [some (.dat (ringD n as)), some (.dat (.int x)), some (.dat (.int n)), some (.dat (.list (as.map arcD))), some (.own (L.map natD)), x5, x6, some (.own (acc.map (stepD n as x))), x8, x9, x10] ∧ m = L.length ∧ (∀ k ∈ L, k ∈ left0 n as x) ∧ L.Pairwise (· < ·) ∧ acc.length + L.length ≤ 20 ∧ ∀ r, IsStepsF (bI n as x) (eI n as x) L r → IsWalkF n as x (acc ++ r), ⟨_, left0 n as x, [], _, _, _, _, _, rfl, rfl, fun k hk => hk, left0_lt, ?_, fun r hr => hr⟩, ?_⟩
    · have := left0_len (n := n) (as := as) (x := x)
      have := ok.len
      simp
      omega
    · rintro m Γ u ⟨L, acc, x5, x6, x8, x9, x10, rfl, rfl, hL, hpw, hl, hr⟩
      simp only [wSs, wS, w1, wT, wE, wA, wX, wV, wP, wC, opn, rdO_d, rdO_o, asD_d, asD_n, KQY, entry, look, put, slotV, argsOk, frzA, frzV, sv_i, sv_b, sv_s, sv_0, sv_l, sv_t, sv_d, sv_n, List.map, List.length, List.replicate, List.cons_append, List.nil_append, Nat.sub_self, biD, isD_1, boolD_b, cmpD, relD_i, opD, addD_i, addD_l, subD_i, intD_i, lenD_l, lenD_t, listD_l, listD_t, tupleD_l, int2D_i, absD_i, toIntD_i, toIntD_b, eqD_i, eqD_b, eqD_s, rngD_1, rngD_2, seqD_l, seqD_t, lstD_l, ixX_l, ixX_t, negX_i, slX_l, rvX_l, repX_i, intX_i, ixD_0, ixD_1, ixD_2, true_and, and_true, ite_self, eqD_nil]
      refine ⟨by unfold big; decide, ?_⟩
      by_cases he : L = []
      · subst he
        simp only [List.map_nil, List.isEmpty_nil, Bool.not_true, Bool.false_eq_true, if_false, look]
        have := h acc (by have := hr [] rfl; rwa [List.append_nil] at this)
        exact this
      · have e1 : (!(L.map natD).isEmpty) = true := by rw [notEmpty_iff]; simpa using he
        have hpos : 0 < L.length := List.length_pos_iff.mpr he
        simp only [e1, if_true]
        refine steps_b1 ok hx he hL hpw (by omega) (fun k y5 y6 y8 y9 y10 hk hmin hfi => ?_) (by omega)
        have hlt := filter_lt (p := fun j => decide (eI n as x k < bI n as x j)) hk (by rw [decide_eq_false_iff_not]; have := left0_rng ok (hL k hk); omega)
        refine ⟨(L.filter fun j => decide (eI n as x k < bI n as x j)).length, hlt, _, acc ++ [k], y5, y6, y8, y9, y10, rfl, rfl, fun j hj => hL j (List.mem_filter.mp hj).1, hpw.filter _, ?_, fun r hr' => ?_⟩
        · rw [List.length_append, List.length_singleton]; omega
        · rw [List.append_assoc]
          exact hr (k :: r) ⟨hk, hmin, hfi, hr'⟩
theorem call_stepsF {n x : Int} {as : List (Int × Int)} {Q : Val → Prop} {Y : Nat → Prop} (ok : RingOk n as) (hx : 0 ≤ x ∧ x < n) (h : ∀ r, IsWalkF n as x r → Q (.new (r.map (stepD n as x)))) : Ssteps_from.run [ringD n as, .int x] Q Y := ⟨n, as, x, rfl, ok, hx, h⟩
theorem call_steps {n x : Int} {as : List (Int × Int)} {Q : Val → Prop} {Y : Nat → Prop} (ok : RingOk n as) (hx : 0 ≤ x ∧ x < n) (h : ∀ r, IsWalk n as x r → Q (.new (r.map (stepD n as x)))) : Ssteps_from.run [ringD n as, .int x] Q Y := ⟨n, as, x, rfl, ok, hx, fun r hr => h r (IsStepsF.weak hr)⟩
/-! ### next_place, walk_from -/
def nextD (n : Int) (as : List (Int × Int)) (x : Int) : List Nat → D
  | [] => .none
  | k :: _ => .int (plK n as x k)
def Fnext_place : RF where
  run n as ds Q Y := match ds with
    | [a] => (isNumD a n = false → Y 2) ∧ ∀ p : Int, 0 ≤ p → p < n → a = .int p → ∀ r, IsWalk n as p r → Q (.dat (nextD n as p r))
    | _ => False
  mono := fun h1 h2 q => by
    split at q
    · exact ⟨fun e => h2 _ (q.1 e), fun p a b e r hr => h1 _ (q.2 p a b e r hr)⟩
    · exact q
def Snext_place : Summ := Summ.ring 1 Fnext_place
theorem call_next_place {n : Int} {as : List (Int × Int)} {p : Int} {Q : Val → Prop} {Y : Nat → Prop} (ok : RingOk n as) (h0 : 0 ≤ p) (h1 : p < n) (h : ∀ r, IsWalk n as p r → Q (.dat (nextD n as p r))) : Snext_place.run [ringD n as, .int p] Q Y := by
  refine ring_ok rfl ok ⟨fun e => ?_, fun j _ _ e => ?_⟩
  · rw [isNum_int.mpr ⟨p, h0, h1, rfl⟩] at e; cases e
  · cases e
    exact h
theorem walk_big {n x : Int} {as : List (Int × Int)} {r : List Nat} (ok : RingOk n as) (h : IsWalk n as x r) : r.length ≤ 20 := by
  have h1 := IsSteps.len (fun k hk => (left0_rng ok hk).2.1) h
  have h2 := left0_len (n := n) (as := as) (x := x)
  have := ok.len
  omega
def trnext_place_b1 : Sms Unit :=
  (.cons (.one (.ret (.var 2)))
    .nil)
def trnext_place : Sms Unit :=
  (.cons (.one (.expr (.call "need_ring" Sneed_ring (.cons (.var 0) .nil))))
    (.cons (.one (.expr (.call "need_place" Sneed_place (.cons (.var 0) (.cons (.var 1) .nil)))))
    (.cons (.for (.tp [2, 3]) (.seq (.call "steps_from" Ssteps_from (.cons (.var 0) (.cons (.var 1) .nil))))
    trnext_place_b1)
    (.cons (.one (.ret .non))
    .nil))))

theorem w_next_place : WOk Snext_place 2 4 trnext_place := WOk.ring (fun d r Q Y hl hr h0 => by
    obtain ⟨a, rfl⟩ := len1 hl
    unfold trnext_place
    simp only [wSs, wS, w1, wT, wE, wA, wX, wV, wP, wC, opn, rdO_d, rdO_o, asD_d, asD_n, KQY, entry, look, put, slotV, argsOk, frzA, frzV, sv_i, sv_b, sv_s, sv_0, sv_l, sv_t, sv_d, sv_n, List.map, List.length, List.replicate, List.cons_append, List.nil_append, Nat.sub_self, biD, isD_1, boolD_b, cmpD, relD_i, opD, addD_i, addD_l, subD_i, intD_i, lenD_l, lenD_t, listD_l, listD_t, tupleD_l, int2D_i, absD_i, toIntD_i, toIntD_b, eqD_i, eqD_b, eqD_s, rngD_1, rngD_2, seqD_l, seqD_t, lstD_l, ixX_l, ixX_t, negX_i, slX_l, rvX_l, repX_i, intX_i, ixD_0, ixD_1, ixD_2, true_and, and_true, ite_self, run_need_ring]
    simpa [hr] using h0) (fun n as r Q Y hl ok h => by
    obtain ⟨a, rfl⟩ := len1 hl
    obtain ⟨h2, h3⟩ := h
    unfold trnext_place
    simp only [wSs, wS, w1, wT, wE, wA, wX, wV, wP, wC, opn, rdO_d, rdO_o, asD_d, asD_n, KQY, entry, look, put, slotV, argsOk, frzA, frzV, sv_i, sv_b, sv_s, sv_0, sv_l, sv_t, sv_d, sv_n, List.map, List.length, List.replicate, List.cons_append, List.nil_append, Nat.sub_self, biD, isD_1, boolD_b, cmpD, relD_i, opD, addD_i, addD_l, subD_i, intD_i, lenD_l, lenD_t, listD_l, listD_t, tupleD_l, int2D_i, absD_i, toIntD_i, toIntD_b, eqD_i, eqD_b, eqD_s, rngD_1, rngD_2, seqD_l, seqD_t, lstD_l, ixX_l, ixX_t, negX_i, slX_l, rvX_l, repX_i, intX_i, ixD_0, ixD_1, ixD_2, true_and, and_true, ite_self, run_need_ring, isRing_ringD ok]
    simp only [if_true, ringD, run_need_place]
    cases ha : isNumD a n with
    | false => simpa [ha] using h2 ha
    | true =>
      obtain ⟨p, p0, p1, rfl⟩ := isNum_int.mp ha
      simp only [if_true, wSs, wS, w1, wT, wE, wA, wX, wV, wP, wC, opn, rdO_d, rdO_o, asD_d, asD_n, KQY, entry, look, put, slotV, argsOk, frzA, frzV, sv_i, sv_b, sv_s, sv_0, sv_l, sv_t, sv_d, sv_n, List.map, List.length, List.replicate, List.cons_append, List.nil_append, Nat.sub_self, biD, isD_1, boolD_b, cmpD, relD_i, opD, addD_i, addD_l, subD_i, intD_i, lenD_l, lenD_t, listD_l, listD_t, tupleD_l, int2D_i, absD_i, toIntD_i, toIntD_b, eqD_i, eqD_b, eqD_s, rngD_1, rngD_2, seqD_l, seqD_t, lstD_l, ixX_l, ixX_t, negX_i, slX_l, rvX_l, repX_i, intX_i, ixD_0, ixD_1, ixD_2, true_and, and_true, ite_self, wJ]
      refine call_steps ok ⟨p0, p1⟩ fun r hr => ?_
      have hb := walk_big ok hr
      simp only [Bool.false_eq_true, if_false, wSs, wS, w1, wT, wE, wA, wX, wV, wP, wC, opn, rdO_d, rdO_o, asD_d, asD_n, KQY, entry, look, put, slotV, argsOk, frzA, frzV, sv_i, sv_b, sv_s, sv_0, sv_l, sv_t, sv_d, sv_n, List.map, List.length, List.replicate, List.cons_append, List.nil_append, Nat.sub_self, biD, isD_1, boolD_b, cmpD, relD_i, opD, addD_i, addD_l, subD_i, intD_i, lenD_l, lenD_t, listD_l, listD_t, tupleD_l, int2D_i, absD_i, toIntD_i, toIntD_b, eqD_i, eqD_b, eqD_s, rngD_1, rngD_2, seqD_l, seqD_t, lstD_l, ixX_l, ixX_t, negX_i, slX_l, rvX_l, repX_i, intX_i, ixD_0, ixD_1, ixD_2, true_and, and_true, ite_self, List.length_map]
      refine ⟨by unfold big; omega, ?_⟩
      have h4 := h3 p p0 p1 rfl r hr
      cases r with
      | nil => exact h4
      | cons k r =>
        unfold trnext_place_b1
        simp only [List.map_cons, fLoop, bindT, stepD, putAll, wSs, wS, w1, wT, wE, wA, wX, wV, wP, wC, opn, rdO_d, rdO_o, asD_d, asD_n, KQY, entry, look, put, slotV, argsOk, frzA, frzV, sv_i, sv_b, sv_s, sv_0, sv_l, sv_t, sv_d, sv_n, List.map, List.length, List.replicate, List.cons_append, List.nil_append, Nat.sub_self, biD, isD_1, boolD_b, cmpD, relD_i, opD, addD_i, addD_l, subD_i, intD_i, lenD_l, lenD_t, listD_l, listD_t, tupleD_l, int2D_i, absD_i, toIntD_i, toIntD_b, eqD_i, eqD_b, eqD_s, rngD_1, rngD_2, seqD_l, seqD_t, lstD_l, ixX_l, ixX_t, negX_i, slX_l, rvX_l, repX_i, intX_i, ixD_0, ixD_1, ixD_2, true_and, and_true, ite_self]
        exact h4)
def Fwalk_from : RF where
  run n as ds Q Y := match ds with
    | [a] => (isNumD a n = false → Y 2) ∧ ∀ p : Int, 0 ≤ p → p < n → a = .int p → ∀ r, IsWalk n as p r → Q (.new ((p :: r.map (plK n as p)).map .int))
    | _ => False
  mono := fun h1 h2 q => by
    split at q
    · exact ⟨fun e => h2 _ (q.1 e), fun p a b e r hr => h1 _ (q.2 p a b e r hr)⟩
    · exact q
def Swalk_from : Summ := Summ.ring 1 Fwalk_from
theorem call_walk_from {n : Int} {as : List (Int × Int)} {p : Int} {Q : Val → Prop} {Y : Nat → Prop} (ok : RingOk n as) (h0 : 0 ≤ p) (h1 : p < n) (h : ∀ r, IsWalk n as p r → Q (.new ((p :: r.map (plK n as p)).map .int))) : Swalk_from.run [ringD n as, .int p] Q Y := by
  refine ring_ok rfl ok ⟨fun e => ?_, fun j _ _ e => ?_⟩
  · rw [isNum_int.mpr ⟨p, h0, h1, rfl⟩] at e; cases e
  · cases e
    exact h
def fstG : D → Option D
  | .tuple [a, _] => some a
  | _ => none
theorem fst_steps {n x : Int} {as : List (Int × Int)} : ∀ r : List Nat, (r.map (stepD n as x)).filterMap fstG = (r.map (plK n as x)).map .int
  | [] => rfl
  | k :: r => by
    rw [List.map_cons, List.filterMap_cons, fst_steps r]
    rfl
def trwalk_from : Sms Unit :=
  (.cons (.one (.expr (.call "need_ring" Sneed_ring (.cons (.var 0) .nil))))
    (.cons (.one (.expr (.call "need_place" Sneed_place (.cons (.var 0) (.cons (.var 1) .nil)))))
    (.cons (.one (.ret (.op .Add (.ls (.cons (.var 1) .nil)) (.comp [2, 3] (.tp [2, 3]) (.seq (.call "steps_from" Ssteps_from (.cons (.var 0) (.cons (.var 1) .nil)))) .nil (.var 2)))))
    .nil)))

theorem w_walk_from : WOk Swalk_from 2 4 trwalk_from := WOk.ring (fun d r Q Y hl hr h0 => by
    obtain ⟨a, rfl⟩ := len1 hl
    unfold trwalk_from
    simp only [wSs, wS, w1, wT, wE, wA, wX, wV, wP, wC, opn, rdO_d, rdO_o, asD_d, asD_n, KQY, entry, look, put, slotV, argsOk, frzA, frzV, sv_i, sv_b, sv_s, sv_0, sv_l, sv_t, sv_d, sv_n, List.map, List.length, List.replicate, List.cons_append, List.nil_append, Nat.sub_self, biD, isD_1, boolD_b, cmpD, relD_i, opD, addD_i, addD_l, subD_i, intD_i, lenD_l, lenD_t, listD_l, listD_t, tupleD_l, int2D_i, absD_i, toIntD_i, toIntD_b, eqD_i, eqD_b, eqD_s, rngD_1, rngD_2, seqD_l, seqD_t, lstD_l, ixX_l, ixX_t, negX_i, slX_l, rvX_l, repX_i, intX_i, ixD_0, ixD_1, ixD_2, true_and, and_true, ite_self, run_need_ring]
    simpa [hr] using h0) (fun n as r Q Y hl ok h => by
    obtain ⟨a, rfl⟩ := len1 hl
    obtain ⟨h2, h3⟩ := h
    unfold trwalk_from
    simp only [wSs, wS, w1, wT, wE, wA, wX, wV, wP, wC, opn, rdO_d, rdO_o, asD_d, asD_n, KQY, entry, look, put, slotV, argsOk, frzA, frzV, sv_i, sv_b, sv_s, sv_0, sv_l, sv_t, sv_d, sv_n, List.map, List.length, List.replicate, List.cons_append, List.nil_append, Nat.sub_self, biD, isD_1, boolD_b, cmpD, relD_i, opD, addD_i, addD_l, subD_i, intD_i, lenD_l, lenD_t, listD_l, listD_t, tupleD_l, int2D_i, absD_i, toIntD_i, toIntD_b, eqD_i, eqD_b, eqD_s, rngD_1, rngD_2, seqD_l, seqD_t, lstD_l, ixX_l, ixX_t, negX_i, slX_l, rvX_l, repX_i, intX_i, ixD_0, ixD_1, ixD_2, true_and, and_true, ite_self, run_need_ring, isRing_ringD ok]
    simp only [if_true, ringD, run_need_place]
    cases ha : isNumD a n with
    | false => simpa [ha] using h2 ha
    | true =>
      obtain ⟨p, p0, p1, rfl⟩ := isNum_int.mp ha
      simp only [if_true, wSs, wS, w1, wT, wE, wA, wX, wV, wP, wC, opn, rdO_d, rdO_o, asD_d, asD_n, KQY, entry, look, put, slotV, argsOk, frzA, frzV, sv_i, sv_b, sv_s, sv_0, sv_l, sv_t, sv_d, sv_n, List.map, List.length, List.replicate, List.cons_append, List.nil_append, Nat.sub_self, biD, isD_1, boolD_b, cmpD, relD_i, opD, addD_i, addD_l, subD_i, intD_i, lenD_l, lenD_t, listD_l, listD_t, tupleD_l, int2D_i, absD_i, toIntD_i, toIntD_b, eqD_i, eqD_b, eqD_s, rngD_1, rngD_2, seqD_l, seqD_t, lstD_l, ixX_l, ixX_t, negX_i, slX_l, rvX_l, repX_i, intX_i, ixD_0, ixD_1, ixD_2, true_and, and_true, ite_self, wI, wipeG, backG]
      refine ⟨by unfold big; decide, call_steps ok ⟨p0, p1⟩ fun r hr => ?_⟩
      have hb := walk_big ok hr
      simp only [Bool.false_eq_true, if_false, wSs, wS, w1, wT, wE, wA, wX, wV, wP, wC, opn, rdO_d, rdO_o, asD_d, asD_n, KQY, entry, look, put, slotV, argsOk, frzA, frzV, sv_i, sv_b, sv_s, sv_0, sv_l, sv_t, sv_d, sv_n, List.map, List.length, List.replicate, List.cons_append, List.nil_append, Nat.sub_self, biD, isD_1, boolD_b, cmpD, relD_i, opD, addD_i, addD_l, subD_i, intD_i, lenD_l, lenD_t, listD_l, listD_t, tupleD_l, int2D_i, absD_i, toIntD_i, toIntD_b, eqD_i, eqD_b, eqD_s, rngD_1, rngD_2, seqD_l, seqD_t, lstD_l, ixX_l, ixX_t, negX_i, slX_l, rvX_l, repX_i, intX_i, ixD_0, ixD_1, ixD_2, true_and, and_true, ite_self, List.length_map]
      refine ⟨by unfold big; omega, ?_⟩
      refine cLoop_pure (g := fstG) _ [] ?_ ?_
      · intro y hy k' hk
        obtain ⟨q, hq, rfl⟩ := List.mem_map.mp hy
        simp only [bindT, stepD, putAll, wSs, wS, w1, wT, wE, wA, wX, wV, wP, wC, opn, rdO_d, rdO_o, asD_d, asD_n, KQY, entry, look, put, slotV, argsOk, frzA, frzV, sv_i, sv_b, sv_s, sv_0, sv_l, sv_t, sv_d, sv_n, List.map, List.length, List.replicate, List.cons_append, List.nil_append, Nat.sub_self, biD, isD_1, boolD_b, cmpD, relD_i, opD, addD_i, addD_l, subD_i, intD_i, lenD_l, lenD_t, listD_l, listD_t, tupleD_l, int2D_i, absD_i, toIntD_i, toIntD_b, eqD_i, eqD_b, eqD_s, rngD_1, rngD_2, seqD_l, seqD_t, lstD_l, ixX_l, ixX_t, negX_i, slX_l, rvX_l, repX_i, intX_i, ixD_0, ixD_1, ixD_2, true_and, and_true, ite_self, if_true]
        exact hk
      · rw [List.nil_append, fst_steps]
        refine ⟨by rw [List.length_map, List.length_map]; unfold big; omega, ?_⟩
        exact h3 p p0 p1 rfl r hr)
/-! ### items of a range, as they come -/
theorem range_item {f : Nat → D} {m : Nat} {done r : List D} {y : D} (h : done ++ y :: r = (List.range m).map f) : done.length < m ∧ y = f done.length := by
  have hl := congrArg List.length h
  simp at hl
  have hi : done.length < m := by omega
  refine ⟨hi, ?_⟩
  have e : (done ++ y :: r)[done.length]? = some y := by rw [List.getElem?_append_right (Nat.le_refl _), Nat.sub_self]; rfl
  rw [h, List.getElem?_map, List.getElem?_range hi] at e
  exact (Option.some.inj e).symm
theorem plc_last {n : Int} {a : Int × Int} (h : 1 ≤ a.2) : ∃ pre, plc n a = pre ++ [(a.1 + a.2 - 1) % n] := by
  refine ⟨(List.range (a.2.toNat - 1)).map fun k => (a.1 + (k : Nat)) % n, ?_⟩
  unfold plc
  have e : a.2.toNat = (a.2.toNat - 1) + 1 := by omega
  conv => lhs; rw [e, List.range_succ, List.map_append]
  have e2 : a.1 + ((a.2.toNat - 1 : Nat) : Int) = a.1 + a.2 - 1 := by omega
  simp only [List.map_cons, List.map_nil]
  rw [e2]
/-- the ends of the arcs that do not hold a place -/
def endsL (n : Int) (as : List (Int × Int)) (x : Int) : List Int := (as.filter fun a => !hld n a x).map fun a => (a.1 + a.2 - 1) % n
theorem mem_endsL {n x v : Int} {as : List (Int × Int)} (ok : RingOk n as) : v ∈ endsL n as x ↔ ∃ k ∈ left0 n as x, v = plK n as x k := by
  unfold endsL
  rw [List.mem_map]
  have e : ∀ a : Int × Int, (x + ((a.1 - x) % n + a.2 - 1)) % n = (a.1 + a.2 - 1) % n := fun a => by
    have e1 : x + ((a.1 - x) % n + a.2 - 1) = (a.1 - x) % n + (x + a.2 - 1) := by omega
    rw [e1, Int.emod_add_emod]
    congr 1
    omega
  constructor
  · rintro ⟨a, ha, rfl⟩
    obtain ⟨h1, h2⟩ := List.mem_filter.mp ha
    obtain ⟨k, hk, rfl⟩ := List.mem_iff_getElem.mp h1
    refine ⟨k, mem_left0.mpr ⟨hk, ?_⟩, ?_⟩
    · rw [arcAt_eq hk]; simpa using h2
    · unfold plK eI
      rw [arcAt_eq hk, e]
  · rintro ⟨k, hk, rfl⟩
    obtain ⟨h1, h2⟩ := mem_left0.mp hk
    refine ⟨as[k], List.mem_filter.mpr ⟨List.getElem_mem h1, ?_⟩, ?_⟩
    · rw [arcAt_eq h1] at h2; rw [h2]; rfl
    · unfold plK eI
      rw [arcAt_eq h1, e]
theorem place_inj {n x d d' : Int} (h0 : 0 ≤ d) (h1 : d < n) (g0 : 0 ≤ d') (g1 : d' < n) (h : (x + d) % n = (x + d') % n) : d = d' := by
  have e : ((x + d) % n - x) % n = ((x + d') % n - x) % n := by rw [h]
  rw [Int.emod_sub_emod, Int.emod_sub_emod] at e
  have e1 : x + d - x = d := by omega
  have e2 : x + d' - x = d' := by omega
  rw [e1, e2, Int.emod_eq_of_lt h0 h1, Int.emod_eq_of_lt g0 g1] at e
  exact e
theorem mem_ends_d {n x d : Int} {as : List (Int × Int)} (ok : RingOk n as) (d0 : 0 ≤ d) (d1 : d < n) : (x + d) % n ∈ endsL n as x ↔ ∃ k ∈ left0 n as x, eI n as x k = d := by
  rw [mem_endsL ok]
  constructor
  · rintro ⟨k, hk, e⟩
    have hr := left0_rng ok hk
    exact ⟨k, hk, (place_inj d0 d1 (by omega) (by omega) e).symm⟩
  · rintro ⟨k, hk, e⟩
    exact ⟨k, hk, by unfold plK; rw [e]⟩
end Ac
namespace Ac
open PySem PySem.Spec PyProof.Rows L2
/-! ### stretches of a line: the walk by them alone -/
theorem as_range {as : List (Int × Int)} : as = (List.range as.length).map (arcAt as) := by
  refine List.ext_getElem (by rw [List.length_map, List.length_range]) fun i h1 h2 => ?_
  rw [List.getElem_map, List.getElem_range, arcAt_eq h1]
theorem arcs_map {α : Type} {as : List (Int × Int)} {f : Int × Int → α} : as.map f = (List.range as.length).map fun k => f (arcAt as k) := by
  conv => lhs; rw [as_range (as := as)]
  rw [List.map_map]
  rfl
def ivOf (n x : Int) (a : Int × Int) : Int × Int := ((a.1 - x) % n, (a.1 - x) % n + a.2 - 1)
def ivs (n : Int) (as : List (Int × Int)) (x : Int) : List (Int × Int) := (as.filter fun a => !hld n a x).map (ivOf n x)
def IsD : List (Int × Int) → List Int → Prop
  | I, [] => I = []
  | I, d :: r => (∃ i ∈ I, i.2 = d) ∧ (∀ i ∈ I, d ≤ i.2) ∧ IsD (I.filter fun i => decide (d < i.1)) r
/-- each one holds one of the others -/
def Cov (I J : List (Int × Int)) : Prop := ∀ i ∈ I, ∃ j ∈ J, i.1 ≤ j.1 ∧ j.2 ≤ i.2
theorem Cov.filter {I J : List (Int × Int)} {d : Int} (h : Cov I J) : Cov (I.filter fun i => decide (d < i.1)) (J.filter fun i => decide (d < i.1)) := fun i hi => by
  obtain ⟨h1, h2⟩ := List.mem_filter.mp hi
  obtain ⟨j, hj, h3, h4⟩ := h i h1
  have := of_decide_eq_true h2
  exact ⟨j, List.mem_filter.mpr ⟨hj, decide_eq_true (by omega)⟩, h3, h4⟩
theorem Cov.nil {J : List (Int × Int)} (h : Cov J []) : J = [] := by
  cases J with
  | nil => rfl
  | cons j J =>
    obtain ⟨_, h, _⟩ := h j List.mem_cons_self
    cases h
theorem Cov.sub {I J : List (Int × Int)} (h : ∀ i ∈ I, i ∈ J) : Cov I J := fun i hi => ⟨i, h i hi, Int.le_refl _, Int.le_refl _⟩
theorem IsD.same : ∀ {ds es : List Int} {I J : List (Int × Int)}, IsD I ds → IsD J es → Cov I J → Cov J I → ds = es
  | [], [], _, _, _, _, _, _ => rfl
  | [], e :: es, I, J, h, h', _, c2 => by
    have h0 : I = [] := h
    rw [h0] at c2
    have := c2.nil
    obtain ⟨i, hi, _⟩ := h'.1
    rw [this] at hi
    cases hi
  | d :: ds, [], I, J, h, h', c1, _ => by
    have h0 : J = [] := h'
    rw [h0] at c1
    have := c1.nil
    obtain ⟨i, hi, _⟩ := h.1
    rw [this] at hi
    cases hi
  | d :: ds, e :: es, I, J, h, h', c1, c2 => by
    have e1 : d = e := by
      obtain ⟨i, hi, hid⟩ := h.1
      obtain ⟨j, hj, hje⟩ := h'.1
      obtain ⟨j2, hj2, _, h3⟩ := c1 i hi
      obtain ⟨i2, hi2, _, h4⟩ := c2 j hj
      have := h.2.1 i2 hi2
      have := h'.2.1 j2 hj2
      omega
    subst e1
    rw [IsD.same h.2.2 h'.2.2 c1.filter c2.filter]
theorem isD_steps {b e : Nat → Int} : ∀ {r L : List Nat}, IsSteps b e L r → IsD (L.map fun k => (b k, e k)) (r.map e)
  | [], L, h => by
    have h0 : L = [] := h
    rw [h0]
    rfl
  | k :: r, L, h => by
    refine ⟨⟨(b k, e k), List.mem_map.mpr ⟨k, h.1, rfl⟩, rfl⟩, fun i hi => ?_, ?_⟩
    · obtain ⟨j, hj, rfl⟩ := List.mem_map.mp hi
      exact h.2.1 j hj
    · rw [List.filter_map]
      exact isD_steps h.2.2
theorem ivs_left {n x : Int} {as : List (Int × Int)} : ivs n as x = (left0 n as x).map fun k => (bI n as x k, eI n as x k) := by
  unfold ivs left0
  have e : as.filter (fun a => !hld n a x) = ((List.range as.length).filter fun k => !hld n (arcAt as k) x).map (arcAt as) := by
    conv => lhs; rw [as_range (as := as)]
    rw [List.filter_map]
    rfl
  rw [e, List.map_map]
  rfl
theorem isD_walk {n x : Int} {as : List (Int × Int)} {r : List Nat} (h : IsWalk n as x r) : IsD (ivs n as x) (r.map (eI n as x)) := by
  rw [ivs_left]
  exact isD_steps h
/-- the walk, by how far its places lie behind its first -/
theorem walk_plc {n x : Int} {as : List (Int × Int)} (r : List Nat) : r.map (plK n as x) = (r.map (eI n as x)).map fun d => (x + d) % n := by
  rw [List.map_map]
  rfl
theorem walk_same {n x : Int} {as bs : List (Int × Int)} {r r' : List Nat} (h : IsWalk n as x r) (h' : IsWalk n bs x r') (c1 : Cov (ivs n as x) (ivs n bs x)) (c2 : Cov (ivs n bs x) (ivs n as x)) : r.map (plK n as x) = r'.map (plK n bs x) := by
  rw [walk_plc, walk_plc, IsD.same (isD_walk h) (isD_walk h') c1 c2]
/-! ### what is put to a ring and changes no walk -/
theorem mem_ivs {n x : Int} {as : List (Int × Int)} {i : Int × Int} : i ∈ ivs n as x ↔ ∃ a ∈ as, hld n a x = false ∧ i = ivOf n x a := by
  unfold ivs
  rw [List.mem_map]
  constructor
  · rintro ⟨a, ha, rfl⟩
    obtain ⟨h1, h2⟩ := List.mem_filter.mp ha
    exact ⟨a, h1, by simpa using h2, rfl⟩
  · rintro ⟨a, ha, hh, rfl⟩
    exact ⟨a, List.mem_filter.mpr ⟨ha, by rw [hh]; rfl⟩, rfl⟩
def SameW (n x : Int) (as bs : List (Int × Int)) : Prop := Cov (ivs n as x) (ivs n bs x) ∧ Cov (ivs n bs x) (ivs n as x)
theorem SameW.perm {n x : Int} {as bs : List (Int × Int)} (h : ∀ a, a ∈ as ↔ a ∈ bs) : SameW n x as bs :=
  ⟨Cov.sub fun i hi => by
    obtain ⟨a, ha, h1, h2⟩ := mem_ivs.mp hi
    exact mem_ivs.mpr ⟨a, (h a).mp ha, h1, h2⟩, Cov.sub fun i hi => by
    obtain ⟨a, ha, h1, h2⟩ := mem_ivs.mp hi
    exact mem_ivs.mpr ⟨a, (h a).mpr ha, h1, h2⟩⟩
/-- one more arc that holds the place -/
theorem SameW.holds {n x : Int} {as bs : List (Int × Int)} {c : Int × Int} (h : ∀ a, a ∈ bs ↔ a = c ∨ a ∈ as) (hc : hld n c x = true) : SameW n x as bs :=
  ⟨Cov.sub fun i hi => by
    obtain ⟨a, ha, h1, h2⟩ := mem_ivs.mp hi
    exact mem_ivs.mpr ⟨a, (h a).mpr (.inr ha), h1, h2⟩, Cov.sub fun i hi => by
    obtain ⟨a, ha, h1, h2⟩ := mem_ivs.mp hi
    rcases (h a).mp ha with e | ha
    · rw [e, hc] at h1; cases h1
    · exact mem_ivs.mpr ⟨a, ha, h1, h2⟩⟩
/-- one more arc that holds all of one that is there -/
theorem SameW.wide {n x : Int} {as bs : List (Int × Int)} {c d : Int × Int} (h : ∀ a, a ∈ bs ↔ a = c ∨ a ∈ as) (hd : d ∈ as) (hc : hld n c x = false → hld n d x = false ∧ (ivOf n x c).1 ≤ (ivOf n x d).1 ∧ (ivOf n x d).2 ≤ (ivOf n x c).2) : SameW n x as bs :=
  ⟨Cov.sub fun i hi => by
    obtain ⟨a, ha, h1, h2⟩ := mem_ivs.mp hi
    exact mem_ivs.mpr ⟨a, (h a).mpr (.inr ha), h1, h2⟩, fun i hi => by
    obtain ⟨a, ha, h1, rfl⟩ := mem_ivs.mp hi
    rcases (h a).mp ha with e | ha
    · subst e
      obtain ⟨g1, g2, g3⟩ := hc h1
      exact ⟨_, mem_ivs.mpr ⟨d, hd, g1, rfl⟩, g2, g3⟩
    · exact ⟨_, mem_ivs.mpr ⟨a, ha, h1, rfl⟩, Int.le_refl _, Int.le_refl _⟩⟩
theorem not_hld {n x : Int} {a : Int × Int} (hn : 0 < n) (h1 : 1 ≤ (a.1 - x) % n) (h2 : (a.1 - x) % n + a.2 - 1 ≤ n - 1) : hld n a x = false := by
  unfold hld
  rw [decide_eq_false_iff_not]
  have b1 := Int.emod_lt_of_pos (a.1 - x) hn
  have : (x - a.1) % n = n - (a.1 - x) % n := by
    have e2 : (x - a.1) % n = (n - (a.1 - x) % n) % n := by
      have : n - (a.1 - x) = x - a.1 + n := by omega
      rw [Int.sub_emod_emod, this, Int.add_emod_right]
    rw [e2]
    exact Int.emod_eq_of_lt (by omega) (by omega)
  omega
/-- an arc that begins so far ahead and goes on as far behind or more -/
theorem wide_ok {n x s l m f : Int} (hn : 0 < n) (s0 : 0 ≤ s) (s1 : s < n) (l1 : 1 ≤ l) (f0 : 0 ≤ f) (hm : l + f ≤ m) (hm2 : m ≤ n) : hld n ((s - f) % n, m) x = false → hld n (s, l) x = false ∧ (ivOf n x ((s - f) % n, m)).1 ≤ (ivOf n x (s, l)).1 ∧ (ivOf n x (s, l)).2 ≤ (ivOf n x ((s - f) % n, m)).2 := by
  intro h
  have okc : arcOk n ((s - f) % n, m) := ⟨Int.emod_nonneg _ (by omega), Int.emod_lt_of_pos _ hn, by show 1 ≤ m; omega, hm2⟩
  obtain ⟨l1', l2'⟩ := line okc h
  dsimp only at l1' l2'
  have hb : ((s - f) % n - x) % n + f < n := by omega
  have e : (s - x) % n = ((s - f) % n - x) % n + f := by
    have e1 : (s - x) % n = (((s - f) % n - x) % n + f) % n := by
      have e2 : (s - f) % n - x + f = (s - f) % n + (f - x) := by omega
      rw [Int.emod_add_emod, e2, Int.emod_add_emod]
      congr 1
      omega
    rw [e1]
    exact Int.emod_eq_of_lt (by omega) hb
  unfold ivOf
  dsimp only
  rw [e]
  exact ⟨not_hld hn (by dsimp only; omega) (by dsimp only; omega), by omega, by omega⟩
/-! ### a ring turned -/
theorem turn_hld {n x t : Int} {a : Int × Int} : hld n ((a.1 + t) % n, a.2) ((x + t) % n) = hld n a x := by
  unfold hld
  dsimp only
  rw [Int.emod_sub_emod, Int.sub_emod_emod]
  congr 3
  omega
theorem turn_iv {n x t : Int} {a : Int × Int} : ivOf n ((x + t) % n) ((a.1 + t) % n, a.2) = ivOf n x a := by
  unfold ivOf
  dsimp only
  have e : ((a.1 + t) % n - (x + t) % n) % n = (a.1 - x) % n := by
    rw [Int.emod_sub_emod, Int.sub_emod_emod]
    congr 1
    omega
  rw [e]
theorem turn_ivs {n x t : Int} {as : List (Int × Int)} : ivs n (as.map fun a => ((a.1 + t) % n, a.2)) ((x + t) % n) = ivs n as x := by
  unfold ivs
  rw [List.filter_map, List.map_map]
  have e : (as.filter ((fun a => !hld n a ((x + t) % n)) ∘ fun a => ((a.1 + t) % n, a.2))) = as.filter fun a => !hld n a x := List.filter_congr fun a _ => by
    dsimp only [Function.comp]
    rw [turn_hld]
  rw [e]
  exact List.map_congr_left fun a _ => turn_iv
theorem IsD.uniq {ds es : List Int} {I : List (Int × Int)} (h : IsD I ds) (h' : IsD I es) : ds = es := IsD.same h h' (Cov.sub fun _ h => h) (Cov.sub fun _ h => h)
theorem turn_place {n x t d : Int} : ((x + t) % n + d) % n = ((x + d) % n + t) % n := by
  rw [Int.emod_add_emod, Int.emod_add_emod]
  congr 1
  omega
theorem turn_walk {n x t : Int} {as : List (Int × Int)} {r r' : List Nat} (h : IsWalk n as x r) (h' : IsWalk n (as.map fun a => ((a.1 + t) % n, a.2)) ((x + t) % n) r') :
    ((x + t) % n :: r'.map (plK n (as.map fun a => ((a.1 + t) % n, a.2)) ((x + t) % n))) = (x :: r.map (plK n as x)).map fun p => (p + t) % n := by
  have h1 := isD_walk h'
  rw [turn_ivs] at h1
  have e := IsD.uniq h1 (isD_walk h)
  rw [walk_plc, walk_plc, e]
  generalize r.map (eI n as x) = ds
  rw [List.map_cons, List.map_map]
  congr 1
  exact List.map_congr_left fun d _ => turn_place
/-! ### the walk from the second place on -/
theorem IsD.shift {m : Int} : ∀ {ds : List Int} {I : List (Int × Int)}, IsD I ds → IsD (I.map fun i => (i.1 - m, i.2 - m)) (ds.map fun d => d - m)
  | [], I, h => by
    have h0 : I = [] := h
    rw [h0]
    rfl
  | d :: ds, I, h => by
    refine ⟨?_, fun i hi => ?_, ?_⟩
    · obtain ⟨i, hi, e⟩ := h.1
      exact ⟨_, List.mem_map.mpr ⟨i, hi, rfl⟩, by rw [e]⟩
    · obtain ⟨j, hj, rfl⟩ := List.mem_map.mp hi
      have := h.2.1 j hj
      dsimp only
      omega
    · rw [List.filter_map]
      have e : (I.filter ((fun i => decide (d - m < i.1)) ∘ fun i => (i.1 - m, i.2 - m))) = I.filter fun i => decide (d < i.1) := List.filter_congr fun i _ => by
        dsimp only [Function.comp]
        rw [decide_eq_decide]
        omega
      rw [e]
      exact IsD.shift h.2.2
theorem second_ivs {n x : Int} {as : List (Int × Int)} {m : Int} (ok : RingOk n as) (m0 : 0 ≤ m) (m1 : m < n) (hm : ∀ i ∈ ivs n as x, m ≤ i.2) : ivs n (as.filter fun a => !hld n a x) ((x + m) % n) = ((ivs n as x).filter fun i => decide (m < i.1)).map fun i => (i.1 - m, i.2 - m) := by
  unfold ivs at hm ⊢
  have key : ∀ a ∈ as.filter (fun a => !hld n a x), (!hld n a ((x + m) % n)) = decide (m < (ivOf n x a).1) ∧ (m < (ivOf n x a).1 → ivOf n ((x + m) % n) a = ((ivOf n x a).1 - m, (ivOf n x a).2 - m)) := fun a ha => by
    obtain ⟨h1, h2⟩ := List.mem_filter.mp ha
    have h3 : hld n a x = false := by simpa using h2
    have oka := ok.arcs a h1
    have h4 := hm _ (List.mem_map.mpr ⟨a, ha, rfl⟩)
    have hl := line oka h3
    rw [hld_line oka h3 m0 m1]
    unfold ivOf at h4 ⊢
    dsimp only at h4 ⊢
    refine ⟨?_, fun hlt => ?_⟩
    · rw [Bool.eq_iff_iff, Bool.not_eq_true', decide_eq_false_iff_not, decide_eq_true_eq]
      omega
    · have e : (a.1 - (x + m) % n) % n = (a.1 - x) % n - m := by
        have e1 : (a.1 - (x + m) % n) % n = ((a.1 - x) % n - m) % n := by
          rw [Int.sub_emod_emod, Int.emod_sub_emod]
          congr 1
          omega
        rw [e1]
        have := Int.emod_lt_of_pos (a.1 - x) (show 0 < n by omega)
        exact Int.emod_eq_of_lt (by omega) (by omega)
      rw [e]
      congr 1
      omega
  rw [List.filter_map, List.map_map]
  generalize as.filter (fun a => !hld n a x) = bs at key
  clear hm
  induction bs with
  | nil => rfl
  | cons b bs ih =>
    have ih := ih fun a ha => key a (List.mem_cons_of_mem _ ha)
    obtain ⟨k1, k2⟩ := key b List.mem_cons_self
    rw [List.filter_cons, List.filter_cons]
    by_cases hc : m < (ivOf n x b).1
    · have c1 : (!hld n b ((x + m) % n)) = true := by rw [k1]; exact decide_eq_true hc
      have c2 : ((fun i => decide (m < i.1)) ∘ ivOf n x) b = true := decide_eq_true hc
      rw [if_pos c1, if_pos c2, List.map_cons, List.map_cons, ih, k2 hc]
      rfl
    · have c1 : ¬ (!hld n b ((x + m) % n)) = true := by rw [k1]; simp [hc]
      have c2 : ¬ ((fun i => decide (m < i.1)) ∘ ivOf n x) b = true := by simp [hc]
      rw [if_neg c1, if_neg c2, ih]
theorem second_walk {n x : Int} {as : List (Int × Int)} {k : Nat} {r r' : List Nat} (ok : RingOk n as) (h : IsWalk n as x (k :: r)) (h' : IsWalk n (as.filter fun a => !hld n a x) (plK n as x k) r') :
    (plK n as x k :: r'.map (plK n (as.filter fun a => !hld n a x) (plK n as x k))) = (k :: r).map (plK n as x) := by
  have hk := left0_rng ok h.1
  have h0 := isD_walk h
  rw [List.map_cons] at h0
  have h1 := isD_walk h'
  have e1 : plK n as x k = (x + eI n as x k) % n := rfl
  rw [e1, second_ivs ok (by omega) (by omega) h0.2.1] at h1
  have e2 := IsD.uniq h1 h0.2.2.shift
  rw [List.map_cons, walk_plc, walk_plc]
  congr 1
  rw [e1, e2, List.map_map]
  refine List.map_congr_left fun d _ => ?_
  dsimp only [Function.comp]
  rw [Int.emod_add_emod]
  congr 1
  omega
/-! ### a comprehension with a state -/
theorem cLoop_inv {S : Type} {f : D → Ctx → S → (Option D → Ctx → S → Prop) → Prop} {k : List D → Ctx → S → Prop} (I : List D → List D → Ctx → S → Prop) (hnx : ∀ acc Γ s, I acc [] Γ s → k acc Γ s)
    (hst : ∀ acc x r Γ s (k' : Option D → Ctx → S → Prop), I acc (x :: r) Γ s → (∀ o Γ' s', I (acc ++ o.toList) r Γ' s' → k' o Γ' s') → f x Γ s k') : ∀ (xs acc : List D) (Γ : Ctx) (s : S), I acc xs Γ s → cLoop f xs Γ s acc k
  | [], acc, Γ, s, h => hnx acc Γ s h
  | x :: r, acc, Γ, s, h => hst acc x r Γ s _ h fun o Γ' s' h' => cLoop_inv I hnx hst r (acc ++ o.toList) Γ' s' h'
theorem popW_own {S : Type} {i : Nat} {Γ : Ctx} {xs : List D} {s : S} {o : (D → Ctx → S → Prop) → Prop} {Q : Val → Ctx → S → Prop} (h : look Γ i = some (.own xs)) (hl : xs.length < 1000) (ho : ∀ k : D → Ctx → S → Prop, (∀ j : Nat, ∀ (hj : j < xs.length), k (.int (j : Nat)) Γ s) → o k)
    (q : ∀ (j : Nat) (hj : j < xs.length), Q (.dat xs[j]) (put Γ i (some (.own (xs.eraseIdx j)))) s) : popW i Γ o Q := by
  unfold popW
  rw [h]
  dsimp only
  refine ho _ fun j hj => ?_
  rw [h]
  dsimp only
  have e : ixN xs.length (j : Int) = some j := by
    unfold ixN
    rw [if_pos (by omega), if_pos (by omega)]
    rfl
  have e2 : ((ixN xs.length (j : Int)).bind fun m => xs[m]?.map fun d => (m, d)) = some (j, xs[j]) := by
    rw [e]
    show (xs[j]?.map fun d => (j, d)) = _
    rw [List.getElem?_eq_getElem hj]
    rfl
  rw [e2]
  exact ⟨⟨by omega, by omega⟩, q j hj⟩
theorem erase_map {α : Type} {f : α → D} : ∀ (xs : List α) (j : Nat), (xs.map f).eraseIdx j = (xs.eraseIdx j).map f
  | [], _ => rfl
  | _ :: _, 0 => rfl
  | x :: xs, j + 1 => by
    rw [List.map_cons, List.eraseIdx_cons_succ, List.eraseIdx_cons_succ, List.map_cons, erase_map xs j]
theorem erase_perm {α : Type} : ∀ (L : List α) (j : Nat) (hj : j < L.length), (L[j] :: L.eraseIdx j).Perm L
  | x :: L, 0, _ => List.Perm.refl _
  | x :: L, j + 1, hj => by
    rw [List.eraseIdx_cons_succ, List.getElem_cons_succ]
    exact (List.Perm.swap x _ _).trans ((erase_perm L j (Nat.lt_of_succ_lt_succ hj)).cons x)
theorem take_perm {α : Type} {done L as : List α} {j : Nat} (hj : j < L.length) (h : (done ++ L).Perm as) : ((done ++ [L[j]]) ++ L.eraseIdx j).Perm as := by
  refine List.Perm.trans ?_ h
  rw [List.append_assoc]
  exact List.Perm.append_left done (erase_perm L j hj)
/-! ### next places, by the walk -/
def nextOf : List Int → D
  | [] => .none
  | p :: _ => .int p
theorem nextD_of {n x : Int} {as : List (Int × Int)} (r : List Nat) : nextD n as x r = nextOf (r.map (plK n as x)) := by
  cases r <;> rfl
theorem nextOf_okc (l : List Int) : okc (nextOf l) = true := by cases l <;> rfl
theorem nextOf_noB (l : List Int) : isBoolD (nextOf l) = false := by cases l <;> rfl
theorem cut_1 {x : D} {l : List D} : cutD (x :: l) (some 1) none = l := by
  unfold cutD HT.sIx
  simp
theorem arcs_pick {p : Int × Int → Bool} {g : D → Option D} (hg : ∀ a, g (arcD a) = if p a = true then some (arcD a) else none) : ∀ as : List (Int × Int), (as.map arcD).filterMap g = (as.filter p).map arcD
  | [] => rfl
  | a :: as => by
    rw [List.map_cons, List.filterMap_cons, hg, arcs_pick hg as, List.filter_cons]
    by_cases h : p a = true
    · rw [if_pos h, if_pos h]; rfl
    · rw [if_neg h, if_neg h]
theorem arcs_to {α : Type} {f : Int × Int → α} {e : α → D} {g : D → Option D} (hg : ∀ a, g (arcD a) = some (e (f a))) : ∀ as : List (Int × Int), (as.map arcD).filterMap g = (as.map f).map e
  | [] => rfl
  | a :: as => by
    rw [List.map_cons, List.filterMap_cons, hg, arcs_to hg as]
    rfl
theorem ints_to {f : Int → Int} {g : D → Option D} (hg : ∀ v, g (.int v) = some (.int (f v))) : ∀ l : List Int, (l.map PyData.int).filterMap g = (l.map f).map .int
  | [] => rfl
  | v :: l => by
    rw [List.map_cons, List.filterMap_cons, hg, ints_to hg l]
    rfl
theorem RingOk.sub {n : Int} {as bs : List (Int × Int)} (ok : RingOk n as) (h : bs.length ≤ as.length) (hs : ∀ a ∈ bs, a ∈ as) : RingOk n bs := ⟨ok.n1, ok.n40, Nat.le_trans h ok.len, fun a ha => ok.arcs a (hs a ha)⟩
theorem RingOk.map {n : Int} {as : List (Int × Int)} {f : Int × Int → Int × Int} (ok : RingOk n as) (h : ∀ a, arcOk n a → arcOk n (f a)) : RingOk n (as.map f) := ⟨ok.n1, ok.n40, by rw [List.length_map]; exact ok.len, fun a ha => by
  obtain ⟨b, hb, rfl⟩ := List.mem_map.mp ha
  exact h b (ok.arcs b hb)⟩
end Ac
namespace Ac
open PySem PySem.Spec PyProof.Rows L2
/-! ### lists in order -/
theorem sorted_unique : ∀ {xs ys : List Int}, xs.Perm ys → xs.Pairwise (· ≤ ·) → ys.Pairwise (· ≤ ·) → xs = ys
  | [], ys, p, _, _ => by rw [List.nil_perm.mp p]
  | x :: r, [], p, _, _ => absurd p.length_eq (by simp)
  | x :: r, y :: s, p, hx, hy => by
    rw [List.pairwise_cons] at hx hy
    have e : x = y := by
      have h1 : x ∈ y :: s := p.mem_iff.mp List.mem_cons_self
      have h2 : y ∈ x :: r := p.mem_iff.mpr List.mem_cons_self
      have a1 : y ≤ x := by
        cases h1 with
        | head => exact Int.le_refl _
        | tail _ h => exact hy.1 x h
      have a2 : x ≤ y := by
        cases h2 with
        | head => exact Int.le_refl _
        | tail _ h => exact hx.1 y h
      omega
    subst e
    rw [sorted_unique (List.perm_cons x |>.mp p) hx.2 hy.2]
theorem perm_of_nodup : ∀ {xs ys : List Int}, xs.Nodup → ys.Nodup → (∀ x, x ∈ xs ↔ x ∈ ys) → xs.Perm ys
  | [], ys, _, _, h => by
    cases ys with
    | nil => exact List.Perm.refl _
    | cons y r => exact absurd ((h y).mpr List.mem_cons_self) (by simp)
  | x :: r, ys, hx, hy, h => by
    have hm : x ∈ ys := (h x).mp List.mem_cons_self
    rw [List.nodup_cons] at hx
    have p := List.perm_cons_erase hm
    refine ((perm_of_nodup hx.2 (hy.erase x) fun z => ?_).cons x).trans p.symm
    rw [hy.mem_erase_iff]
    constructor
    · intro hz
      exact ⟨fun e => hx.1 (by rw [← e]; exact hz), (h z).mp (List.mem_cons_of_mem _ hz)⟩
    · rintro ⟨h1, h2⟩
      have := (h z).mpr h2
      cases this with
      | head => exact absurd rfl h1
      | tail _ h3 => exact h3
/-- all places -/
def places (n : Int) : List Int := (List.range n.toNat).map fun k : Nat => (k : Int)
theorem mem_places {n x : Int} : x ∈ places n ↔ 0 ≤ x ∧ x < n := by
  unfold places
  rw [List.mem_map]
  constructor
  · rintro ⟨k, hk, rfl⟩
    rw [List.mem_range] at hk
    omega
  · rintro ⟨h0, h1⟩
    exact ⟨x.toNat, by rw [List.mem_range]; omega, by omega⟩
theorem places_lt {n : Int} : (places n).Pairwise (· < ·) := by
  unfold places
  rw [List.pairwise_map]
  exact List.pairwise_lt_range.imp fun h => by omega
theorem lt_nodup {xs : List Int} (h : xs.Pairwise (· < ·)) : xs.Nodup := h.imp fun h e => by omega
theorem lt_le {xs : List Int} (h : xs.Pairwise (· < ·)) : xs.Pairwise (· ≤ ·) := h.imp fun h => by omega
theorem places_D {n : Int} : (List.range n.toNat).map (fun i => PyData.int (i : Nat)) = (places n).map .int := by
  unfold places
  rw [List.map_map]
  rfl
theorem plc_nodup {n : Int} {a : Int × Int} (ok : arcOk n a) : (plc n a).Nodup := by
  obtain ⟨h0, h1, h2, h3⟩ := ok
  unfold plc
  rw [List.nodup_iff_pairwise_ne, List.pairwise_map]
  refine (List.pairwise_lt_range (n := a.2.toNat)).imp_of_mem fun {i j} hi hj hij e => ?_
  rw [List.mem_range] at hi hj
  have e2 : ((a.1 + (j : Int)) - (a.1 + (i : Int))) % n = 0 := by
    rw [Int.sub_emod, e, Int.sub_self, Int.zero_emod]
  have e3 : (a.1 + (j : Int)) - (a.1 + (i : Int)) = (j : Int) - i := by omega
  rw [e3, Int.emod_eq_of_lt (by omega) (by omega)] at e2
  omega
theorem plc_perm {n : Int} {a : Int × Int} (ok : arcOk n a) : (plc n a).Perm ((places n).filter (hld n a)) := by
  refine perm_of_nodup (plc_nodup ok) ((lt_nodup places_lt).filter _) fun x => ?_
  rw [mem_plc ok, List.mem_filter, mem_places, and_assoc]
theorem plc_sorted {n : Int} {a : Int × Int} (ok : arcOk n a) {xs : List Int} (p : xs.Perm (plc n a)) (h : xs.Pairwise (· ≤ ·)) : xs = (places n).filter (hld n a) :=
  sorted_unique (p.trans (plc_perm ok)) h (lt_le (places_lt.filter _))
/-! ### turned, mirrored -/
def trn (n t : Int) (a : Int × Int) : Int × Int := ((a.1 + t) % n, a.2)
def mir (n : Int) (a : Int × Int) : Int × Int := ((0 - a.1 - a.2) % n, a.2)
theorem trn_ok {n t : Int} {a : Int × Int} (ok : arcOk n a) : arcOk n (trn n t a) := ⟨Int.emod_nonneg _ (by have := ok.1; have := ok.2.1; omega), Int.emod_lt_of_pos _ (by have := ok.1; have := ok.2.1; omega), ok.2.2⟩
theorem mir_ok {n : Int} {a : Int × Int} (ok : arcOk n a) : arcOk n (mir n a) := ⟨Int.emod_nonneg _ (by have := ok.1; have := ok.2.1; omega), Int.emod_lt_of_pos _ (by have := ok.1; have := ok.2.1; omega), ok.2.2⟩
theorem ring_map {n : Int} {as : List (Int × Int)} {f : Int × Int → Int × Int} (ok : RingOk n as) (h : ∀ a, arcOk n a → arcOk n (f a)) : RingOk n (as.map f) := by
  refine ⟨ok.n1, ok.n40, by rw [List.length_map]; exact ok.len, fun b hb => ?_⟩
  obtain ⟨a, ha, rfl⟩ := List.mem_map.mp hb
  exact h a (ok.arcs a ha)
theorem trn_hld {n t : Int} {a : Int × Int} {x : Int} : hld n (trn n t a) ((x + t) % n) = hld n a x := by
  unfold hld trn
  rw [← Int.sub_emod]
  have : x + t - (a.1 + t) = x - a.1 := by omega
  rw [this]
theorem trn_plc {n t : Int} {a : Int × Int} : plc n (trn n t a) = (plc n a).map fun x => (x + t) % n := by
  unfold plc trn
  rw [List.map_map]
  refine List.map_congr_left fun k _ => ?_
  show ((a.1 + t) % n + (k : Int)) % n = ((a.1 + (k : Int)) % n + t) % n
  rw [Int.emod_add_emod, Int.emod_add_emod]
  congr 1
  omega
theorem neg_mod {n y : Int} (hn : 0 < n) : (-y - 1) % n = n - 1 - y % n := by
  have h0 := Int.emod_nonneg y (show n ≠ 0 by omega)
  have h1 := Int.emod_lt_of_pos y hn
  have e : (-y - 1) % n = (n - 1 - y % n) % n := by
    have : n - 1 - y % n = (-y - 1) + n * (y / n + 1) := by
      have := Int.emod_add_mul_ediv y n
      rw [Int.mul_add]
      omega
    rw [this, Int.add_mul_emod_self_left]
  rw [e]
  exact Int.emod_eq_of_lt (by omega) (by omega)
theorem mir_hld {n : Int} {a : Int × Int} (ok : arcOk n a) {x : Int} : hld n (mir n a) (n - 1 - x) = hld n a x := by
  obtain ⟨h0, h1, h2, h3⟩ := ok
  have hn : 0 < n := by omega
  unfold hld mir
  have u0 := Int.emod_nonneg (x - a.1) (show n ≠ 0 by omega)
  have u1 := Int.emod_lt_of_pos (x - a.1) hn
  rw [Bool.eq_iff_iff, decide_eq_true_eq, decide_eq_true_eq, Int.sub_emod_emod]
  have e : (n - 1 - x - (0 - a.1 - a.2)) % n = (a.2 - 1 - (x - a.1) % n) % n := by
    have : n - 1 - x - (0 - a.1 - a.2) = (a.2 - 1 - (x - a.1)) + n := by omega
    rw [this, Int.add_emod_right, Int.sub_emod_emod]
  rw [e]
  by_cases hc : (x - a.1) % n < a.2
  · rw [Int.emod_eq_of_lt (by omega) (by omega)]
    exact ⟨fun _ => hc, fun _ => by show _ < a.2; omega⟩
  · have : (a.2 - 1 - (x - a.1) % n) % n = a.2 - 1 - (x - a.1) % n + n := by
      rw [← Int.add_emod_right]
      exact Int.emod_eq_of_lt (by omega) (by omega)
    rw [this]
    constructor
    · intro h; have h : a.2 - 1 - (x - a.1) % n + n < a.2 := h; omega
    · intro h; exact absurd h hc
theorem plc_at {n : Int} {a : Int × Int} {i : Nat} (h : i < (plc n a).length) : (plc n a)[i] = (a.1 + (i : Int)) % n := by
  simp [plc]
theorem mir_plc {n : Int} {a : Int × Int} (ok : arcOk n a) : plc n (mir n a) = ((plc n a).map fun x => n - 1 - x).reverse := by
  obtain ⟨h0, h1, h2, h3⟩ := ok
  have hn : 0 < n := by omega
  apply List.ext_getElem
  · rw [List.length_reverse, List.length_map, plc_len, plc_len]; rfl
  · intro i hi1 hi2
    rw [plc_len] at hi1
    have hi1 : i < a.2.toNat := hi1
    rw [List.getElem_reverse, List.getElem_map, plc_at, plc_at]
    have e : ((mir n a).1 + (i : Int)) % n = (0 - a.1 - a.2 + (i : Int)) % n := by
      show ((0 - a.1 - a.2) % n + (i : Int)) % n = _
      rw [Int.emod_add_emod]
    rw [e, ← neg_mod hn, List.length_map, plc_len]
    congr 1
    omega
theorem atB_map {n : Int} {as : List (Int × Int)} {f : Int × Int → Int × Int} {p q : Int} (h : ∀ a ∈ as, hld n (f a) q = hld n a p) : atB n (as.map f) q = atB n as p := by
  unfold atB
  rw [List.length_map]
  refine List.filter_congr fun k hk => ?_
  rw [List.mem_range] at hk
  rw [List.getElem?_map, List.getElem?_eq_getElem hk]
  exact h _ (List.getElem_mem hk)
theorem atB_count {n : Int} {p : Int} {as : List (Int × Int)} : (atB n as p).length = as.countP fun a => hld n a p := by
  have h := congrArg List.length (atB_zip n p as)
  rw [List.length_map] at h
  rw [← h]
  have : ∀ (l : List (Int × Int)) (i : Nat), ((l.zipIdx i).filterMap fun q => if hld n q.1 p = true then some (natD q.2) else none).length = l.countP fun a => hld n a p := by
    intro l
    induction l with
    | nil => intro i; rfl
    | cons a r ih =>
      intro i
      rw [List.zipIdx_cons, List.filterMap_cons, List.countP_cons]
      by_cases hb : hld n a p = true
      · simp [hb, ih]
      · simp [hb, ih]
  exact this as 0
theorem sum_add {α : Type} {f g : α → Nat} : ∀ {l : List α}, (l.map fun x => f x + g x).sum = (l.map f).sum + (l.map g).sum
  | [] => rfl
  | x :: r => by
    rw [List.map_cons, List.map_cons, List.map_cons, List.sum_cons, List.sum_cons, List.sum_cons, sum_add (l := r)]
    omega
theorem sum_ind {α : Type} {q : α → Bool} : ∀ {l : List α}, (l.map fun x => if q x = true then 1 else 0).sum = (l.filter q).length
  | [] => rfl
  | x :: r => by
    rw [List.map_cons, List.sum_cons, sum_ind (l := r), List.filter_cons]
    by_cases h : q x = true <;> simp [h]
    omega
theorem double_count {n : Int} : ∀ {as : List (Int × Int)}, (∀ a ∈ as, arcOk n a) → ((places n).map fun p => as.countP fun a => hld n a p).sum = (as.map fun a => (plc n a).length).sum
  | [], _ => by
    have : ((places n).map fun p => ([] : List (Int × Int)).countP fun a => hld n a p) = (places n).map fun _ => 0 := rfl
    rw [this]
    generalize places n = l
    induction l with
    | nil => rfl
    | cons x r ih => rw [List.map_cons, List.sum_cons, ih, Nat.zero_add]
  | a :: r, h => by
    have ih := double_count (as := r) fun b hb => h b (List.mem_cons_of_mem _ hb)
    rw [List.map_cons, List.sum_cons, ← ih]
    have e : ((places n).map fun p => (a :: r).countP fun a => hld n a p) = (places n).map fun p => (if hld n a p = true then 1 else 0) + r.countP fun a => hld n a p := by
      refine List.map_congr_left fun p _ => ?_
      rw [List.countP_cons]
      omega
    rw [e, sum_add, sum_ind, (plc_perm (h a List.mem_cons_self)).length_eq]
end Ac
namespace Ac
open PySem PySem.Spec PyProof.Rows L2
/-! ### points that hit, the fewest -/
def Hit (n : Int) (as : List (Int × Int)) (P : List Int) : Prop := ∀ a ∈ as, ∃ p ∈ P, hld n a p = true
def Pl (n : Int) (P : List Int) : Prop := ∀ p ∈ P, 0 ≤ p ∧ p < n
structure Few (n : Int) (as : List (Int × Int)) (m : Nat) : Prop where
  ex : ∃ P, Pl n P ∧ Hit n as P ∧ P.length = m
  le : ∀ P, Pl n P → Hit n as P → m ≤ P.length
theorem Few.uniq {n : Int} {as : List (Int × Int)} {m m' : Nat} (h : Few n as m) (h' : Few n as m') : m = m' := by
  obtain ⟨P, p1, p2, rfl⟩ := h.ex
  obtain ⟨P', p1', p2', rfl⟩ := h'.ex
  exact Nat.le_antisymm (h.le _ p1' p2') (h'.le _ p1 p2)
theorem stab_le {b e : Nat → Int} : ∀ {r L : List Nat} (P : List Int), IsSteps b e L r → (∀ k ∈ L, ∃ p ∈ P, b k ≤ p ∧ p ≤ e k) → r.length ≤ P.length
  | [], _, _, _, _ => Nat.zero_le _
  | k :: r, L, P, h, hP => by
    obtain ⟨p, hp, p1, p2⟩ := hP k h.1
    have := stab_le (P.erase p) h.2.2 fun j hj => by
      obtain ⟨h1, h2⟩ := List.mem_filter.mp hj
      have h3 := of_decide_eq_true h2
      obtain ⟨q, hq, q1, q2⟩ := hP j h1
      exact ⟨q, (List.mem_erase_of_ne (by omega)).mpr hq, q1, q2⟩
    rw [List.length_erase_of_mem hp] at this
    have := List.length_pos_of_mem hp
    rw [List.length_cons]
    omega
theorem steps_hit {b e : Nat → Int} : ∀ {r L : List Nat}, IsSteps b e L r → ∀ j ∈ L, ∃ k ∈ r, b j ≤ e k ∧ e k ≤ e j
  | [], L, h, j, hj => by
    have h0 : L = [] := h
    rw [h0] at hj
    cases hj
  | k :: r, L, h, j, hj => by
    have := h.2.1 j hj
    by_cases hc : e k < b j
    · obtain ⟨k', hk', h1, h2⟩ := steps_hit h.2.2 j (List.mem_filter.mpr ⟨hj, decide_eq_true hc⟩)
      exact ⟨k', List.mem_cons_of_mem _ hk', h1, h2⟩
    · exact ⟨k, List.mem_cons_self, by omega, this⟩
theorem steps_rise {b e : Nat → Int} : ∀ {r L : List Nat}, (∀ k ∈ L, b k ≤ e k) → IsSteps b e L r → (r.map e).Pairwise (· < ·)
  | [], _, _, _ => List.Pairwise.nil
  | k :: r, L, hL, h => by
    rw [List.map_cons, List.pairwise_cons]
    refine ⟨fun d hd => ?_, steps_rise (fun j hj => hL j (List.mem_filter.mp hj).1) h.2.2⟩
    obtain ⟨j, hj, rfl⟩ := List.mem_map.mp hd
    obtain ⟨h1, h2⟩ := List.mem_filter.mp (IsSteps.mem h.2.2 j hj)
    have h3 := of_decide_eq_true h2
    have := hL j h1
    omega
theorem place_back {n x p : Int} (p0 : 0 ≤ p) (p1 : p < n) : (x + (p - x) % n) % n = p := by
  rw [Int.add_emod_emod]
  have : x + (p - x) = p := by omega
  rw [this]
  exact Int.emod_eq_of_lt p0 p1
section
variable {n x : Int} {as : List (Int × Int)} {r : List Nat}
/-- no fewer with x among them -/
theorem walk_le (ok : RingOk n as) (h : IsWalk n as x r) {P : List Int} (hP : Pl n P) (hh : Hit n as P) (hx : x ∈ P) : r.length + 1 ≤ P.length := by
  have n1 := ok.n1
  have := stab_le ((P.erase x).map fun p => (p - x) % n) h fun k hk => by
    obtain ⟨h1, h2⟩ := mem_left0.mp hk
    have hm : arcAt as k ∈ as := by rw [arcAt_eq h1]; exact List.getElem_mem h1
    obtain ⟨p, hp, hpa⟩ := hh _ hm
    have hne : p ≠ x := fun e => by rw [e, h2] at hpa; cases hpa
    refine ⟨(p - x) % n, List.mem_map.mpr ⟨p, (List.mem_erase_of_ne hne).mpr hp, rfl⟩, ?_⟩
    have hb := hP p hp
    have e := left0_hld ok hk (d := (p - x) % n) (Int.emod_nonneg _ (by omega)) (Int.emod_lt_of_pos _ (by omega))
    rw [place_back hb.1 hb.2, hpa] at e
    exact of_decide_eq_true e.symm
  rw [List.length_map, List.length_erase_of_mem hx] at this
  have := List.length_pos_of_mem hx
  omega
theorem walk_pl (ok : RingOk n as) (hx : 0 ≤ x ∧ x < n) : Pl n (x :: r.map (plK n as x)) := fun p hp => by
  have n1 := ok.n1
  rcases List.mem_cons.mp hp with rfl | hp
  · exact hx
  · obtain ⟨k, _, rfl⟩ := List.mem_map.mp hp
    exact ⟨Int.emod_nonneg _ (by omega), Int.emod_lt_of_pos _ (by omega)⟩
theorem walk_hit (ok : RingOk n as) (h : IsWalk n as x r) : Hit n as (x :: r.map (plK n as x)) := fun a ha => by
  obtain ⟨k, hk, rfl⟩ := List.mem_iff_getElem.mp ha
  by_cases hc : hld n as[k] x = true
  · exact ⟨x, List.mem_cons_self, hc⟩
  · have hl : k ∈ left0 n as x := mem_left0.mpr ⟨hk, by rw [arcAt_eq hk]; simpa using hc⟩
    obtain ⟨j, hj, h1, h2⟩ := steps_hit h k hl
    have hjl := left0_rng ok (IsSteps.mem h j hj)
    refine ⟨plK n as x j, List.mem_cons_of_mem _ (List.mem_map.mpr ⟨j, hj, rfl⟩), ?_⟩
    have e := left0_hld ok hl (d := eI n as x j) (by omega) (by omega)
    rw [arcAt_eq hk] at e
    unfold plK
    rw [e]
    exact decide_eq_true ⟨h1, h2⟩
theorem walk_nodup (ok : RingOk n as) (hx : 0 ≤ x ∧ x < n) (h : IsWalk n as x r) : (x :: r.map (plK n as x)).Nodup := by
  have n1 := ok.n1
  have hr := steps_rise (fun k hk => (left0_rng ok hk).2.1) h
  have hm : ∀ k ∈ r, 1 ≤ eI n as x k ∧ eI n as x k ≤ n - 1 := fun k hk => by
    have := left0_rng ok (IsSteps.mem h k hk)
    omega
  rw [List.nodup_cons]
  refine ⟨fun hx' => ?_, ?_⟩
  · obtain ⟨k, hk, e⟩ := List.mem_map.mp hx'
    have := hm k hk
    have e2 : (x + eI n as x k) % n = (x + 0) % n := by
      rw [Int.add_zero, Int.emod_eq_of_lt hx.1 hx.2]
      exact e
    have := place_inj (by omega) (by omega) (by omega) (by omega) e2
    omega
  · clear h
    induction r with
    | nil => exact List.nodup_nil
    | cons k r ih =>
      rw [List.map_cons, List.pairwise_cons] at hr
      rw [List.map_cons, List.nodup_cons]
      refine ⟨fun hk => ?_, ih hr.2 fun j hj => hm j (List.mem_cons_of_mem _ hj)⟩
      obtain ⟨j, hj, e⟩ := List.mem_map.mp hk
      have a := hm k List.mem_cons_self
      have b := hm j (List.mem_cons_of_mem _ hj)
      have := hr.1 _ (List.mem_map.mpr ⟨j, hj, rfl⟩)
      have := place_inj (n := n) (x := x) (d := eI n as x j) (d' := eI n as x k) (by omega) (by omega) (by omega) (by omega) e
      omega
/-- the least over the places of an arc -/
theorem few_of {a : Int × Int} {m : Nat} (ok : RingOk n as) (ha : a ∈ as) (hex : ∃ x ∈ plc n a, ∃ r, IsWalk n as x r ∧ m = r.length + 1) (hle : ∀ x ∈ plc n a, ∀ r, IsWalk n as x r → m ≤ r.length + 1) : Few n as m where
  ex := by
    obtain ⟨x, hx, r, hr, rfl⟩ := hex
    have hb := (mem_plc (ok.arcs a ha)).mp hx
    exact ⟨_, walk_pl ok ⟨hb.1, hb.2.1⟩, walk_hit ok hr, by rw [List.length_cons, List.length_map]⟩
  le := fun P hP hh => by
    obtain ⟨p, hp, hpa⟩ := hh a ha
    have hb := hP p hp
    obtain ⟨r, hr⟩ := IsWalk.ex (x := p) ok
    exact Nat.le_trans (hle p ((mem_plc (ok.arcs a ha)).mpr ⟨hb.1, hb.2, hpa⟩) r hr) (walk_le ok hr hP hh hp)
end
theorem few_nil {n : Int} : Few n [] 0 := ⟨⟨[], (fun _ h => nomatch h), (fun _ h => nomatch h), rfl⟩, fun _ _ _ => Nat.zero_le _⟩
/-! ### sorting -/
def srt (l : List Int) : List Int := l.mergeSort fun a b => decide (a ≤ b)
theorem srt_perm {l : List Int} : (srt l).Perm l := List.mergeSort_perm _ _
theorem srt_le {l : List Int} : (srt l).Pairwise (· ≤ ·) := by
  have := List.pairwise_mergeSort (le := fun a b : Int => decide (a ≤ b)) (fun a b c h1 h2 => by simp at h1 h2 ⊢; omega) (fun a b => by simp; omega) l
  exact this.imp fun h => of_decide_eq_true h
theorem srt_uniq {l s : List Int} (h1 : s.Perm l) (h2 : s.Pairwise (· ≤ ·)) : s = srt l := sorted_unique (h1.trans srt_perm.symm) h2 srt_le
theorem srt_len {l : List Int} : (srt l).length = l.length := srt_perm.length_eq
theorem srt_mem {l : List Int} {x : Int} : x ∈ srt l ↔ x ∈ l := srt_perm.mem_iff
theorem le_lt {l : List Int} (h1 : l.Pairwise (· ≤ ·)) (h2 : l.Nodup) : l.Pairwise (· < ·) := by
  have := List.pairwise_and_iff.mpr ⟨h1, h2⟩
  exact this.imp fun h => by have := h.1; have := h.2; omega
theorem srt_lt {l : List Int} (h : l.Nodup) : (srt l).Pairwise (· < ·) := le_lt srt_le (srt_perm.nodup_iff.mpr h)
theorem lt_srt {l : List Int} (h : l.Pairwise (· < ·)) : srt l = l := (srt_uniq (List.Perm.refl _) (lt_le h)).symm
/-! ### the walk, the first shortest walk -/
noncomputable def wlk (n : Int) (as : List (Int × Int)) (x : Int) : List Int := open Classical in if h : ∃ r, IsWalk n as x r then x :: (Classical.choose h).map (plK n as x) else [x]
theorem wlk_eq {n x : Int} {as : List (Int × Int)} {r : List Nat} (h : IsWalk n as x r) : (x :: r.map (plK n as x)) = wlk n as x := by
  have hx : ∃ r, IsWalk n as x r := ⟨r, h⟩
  unfold wlk
  rw [dif_pos hx, walk_eq h (Classical.choose_spec hx)]
theorem wlk_ex {n x : Int} {as : List (Int × Int)} (ok : RingOk n as) : ∃ r, IsWalk n as x r ∧ wlk n as x = x :: r.map (plK n as x) := by
  obtain ⟨r, hr⟩ := IsWalk.ex (x := x) ok
  exact ⟨r, hr, (wlk_eq hr).symm⟩
def bst : Option (List Int) → List (List Int) → Option (List Int)
  | b, [] => b
  | none, l :: r => bst (some l) r
  | some b, l :: r => if l.length < b.length then bst (some l) r else bst (some b) r
theorem bst_some : ∀ (ls : List (List Int)) (b : List Int), ∃ c, bst (some b) ls = some c ∧ (c = b ∨ c ∈ ls) ∧ c.length ≤ b.length ∧ ∀ l ∈ ls, c.length ≤ l.length
  | [], b => ⟨b, rfl, .inl rfl, Nat.le_refl _, fun _ h => nomatch h⟩
  | l :: ls, b => by
    unfold bst
    by_cases hc : l.length < b.length
    · rw [if_pos hc]
      obtain ⟨c, h1, h2, h3, h4⟩ := bst_some ls l
      refine ⟨c, h1, .inr (h2.elim (fun e => by rw [e]; exact List.mem_cons_self) fun h => List.mem_cons_of_mem _ h), by omega, fun k hk => ?_⟩
      rcases List.mem_cons.mp hk with rfl | hk
      · exact h3
      · exact h4 k hk
    · rw [if_neg hc]
      obtain ⟨c, h1, h2, h3, h4⟩ := bst_some ls b
      refine ⟨c, h1, h2.elim .inl fun h => .inr (List.mem_cons_of_mem _ h), h3, fun k hk => ?_⟩
      rcases List.mem_cons.mp hk with rfl | hk
      · omega
      · exact h4 k hk
theorem bst_none {ls : List (List Int)} (h : ls ≠ []) : ∃ c, bst none ls = some c ∧ c ∈ ls ∧ ∀ l ∈ ls, c.length ≤ l.length := by
  cases ls with
  | nil => exact absurd rfl h
  | cons l ls =>
    obtain ⟨c, h1, h2, h3, h4⟩ := bst_some ls l
    refine ⟨c, h1, h2.elim (fun e => by rw [e]; exact List.mem_cons_self) fun h => List.mem_cons_of_mem _ h, fun k hk => ?_⟩
    rcases List.mem_cons.mp hk with rfl | hk
    · exact h3
    · exact h4 k hk
noncomputable def fpL (n : Int) (as : List (Int × Int)) : List Int := match as with
  | [] => []
  | a :: _ => srt ((bst none ((plc n a).map (wlk n as))).getD [])
structure FP (n : Int) (as : List (Int × Int)) (P : List Int) : Prop where
  few : Few n as P.length
  ris : P.Pairwise (· < ·)
  pl : Pl n P
  hit : Hit n as P
theorem plc_ne {n : Int} {a : Int × Int} (ok : arcOk n a) : plc n a ≠ [] := fun e => by
  have h := congrArg List.length e
  rw [plc_len] at h
  have := ok.2.2.1
  simp at h
  omega
theorem fpL_ok {n : Int} {as : List (Int × Int)} (ok : RingOk n as) : FP n as (fpL n as) := by
  cases as with
  | nil => exact ⟨few_nil, List.Pairwise.nil, (fun _ h => nomatch h), (fun _ h => nomatch h)⟩
  | cons a r =>
    have oka := ok.arcs a List.mem_cons_self
    obtain ⟨c, h1, h2, h3⟩ := bst_none (ls := (plc n a).map (wlk n (a :: r))) (by simpa using plc_ne oka)
    have e : fpL n (a :: r) = srt c := by
      show srt ((bst none ((plc n a).map (wlk n (a :: r)))).getD []) = _
      rw [h1]
      rfl
    obtain ⟨x, hx, rfl⟩ := List.mem_map.mp h2
    have hb := (mem_plc oka).mp hx
    obtain ⟨w, hw, ew⟩ := wlk_ex (x := x) ok
    rw [e]
    refine ⟨few_of ok List.mem_cons_self ⟨x, hx, w, hw, ?_⟩ fun y hy w' hw' => ?_, ?_, ?_, ?_⟩
    · rw [srt_len, ew, List.length_cons, List.length_map]
    · have := h3 _ (List.mem_map.mpr ⟨y, hy, rfl⟩)
      rw [← wlk_eq hw', List.length_cons, List.length_map] at this
      rw [srt_len]
      exact this
    · rw [ew]
      exact srt_lt (walk_nodup ok ⟨hb.1, hb.2.1⟩ hw)
    · intro p hp
      rw [srt_mem, ew] at hp
      exact walk_pl ok ⟨hb.1, hb.2.1⟩ p hp
    · intro b hb'
      obtain ⟨p, hp, hh⟩ := walk_hit ok hw b hb'
      exact ⟨p, by rw [srt_mem, ew]; exact hp, hh⟩
/-! ### fewest_points -/
def Ffewest_points : RF where
  run n as ds Q Y := ds = [] ∧ Q (.new ((fpL n as).map .int))
  mono := fun h1 h2 q => ⟨q.1, h1 _ q.2⟩
def Sfewest_points : Summ := Summ.ring 0 Ffewest_points
theorem call_fewest_points {n : Int} {as : List (Int × Int)} {Q : Val → Prop} {Y : Nat → Prop} (ok : RingOk n as) (h : Q (.new ((fpL n as).map .int))) : Sfewest_points.run [ringD n as] Q Y := ring_ok rfl ok ⟨rfl, h⟩
def trfewest_points_b1 : Sms Unit :=
  (.cons (.one (.asg 3 (.op .Add (.ls (.cons (.var 2) .nil)) (.comp [4, 5] (.tp [4, 5]) (.seq (.call "steps_from" Ssteps_from (.cons (.var 0) (.cons (.var 2) .nil)))) .nil (.var 4)))))
    (.cons (.ite (.or (.isn true (.var 1)) (.cmp .Lt (.bi .len (.cons (.var 3) .nil)) (.bi .len (.cons (.var 1) .nil))))
    (.cons (.one (.asg 1 (.var 3)))
    .nil)
    .nil)
    .nil))
def trfewest_points : Sms Unit :=
  (.cons (.one (.expr (.call "need_ring" Sneed_ring (.cons (.var 0) .nil))))
    (.cons (.ite (.cmp .Eq (.ix (.var 0) (.int 1)) (.ls .nil))
    (.cons (.one (.ret (.ls .nil)))
    .nil)
    .nil)
    (.cons (.one (.asg 1 .non))
    (.cons (.for (.nm 2) (.seq (.call "places_in" Splaces_in (.cons (.ix (.var 0) (.int 0)) (.cons (.ix (.ix (.var 0) (.int 1)) (.int 0)) .nil))))
    trfewest_points_b1)
    (.cons (.one (.ret (.bi .sorted (.cons (.var 1) .nil))))
    .nil)))))

def optL : Option (List Int) → D
  | none => .none
  | some l => .list (l.map .int)
theorem few_b1 {n x : Int} {as : List (Int × Int)} {b : Option (List Int)} {x3 x4 x5 : Option Val} {K : Kn Unit} {u : Unit} (ok : RingOk n as) (hx : 0 ≤ x ∧ x < n)
    (hK : ∀ (c : Option (List Int)) (x3 x4 x5 : Option Val), (∀ r, bst c r = bst b (wlk n as x :: r)) → K.nx [some (.dat (ringD n as)), some (.dat (optL c)), some (.dat (.int x)), x3, x4, x5] u) :
    wSs trfewest_points_b1 [some (.dat (ringD n as)), some (.dat (optL b)), some (.dat (.int x)), x3, x4, x5] u K := by
  unfold trfewest_points_b1
  simp only [wSs, wS, w1, wT, wE, wA, wX, wV, wP, wC, opn, rdO_d, rdO_o, asD_d, asD_n, KQY, entry, look, put, slotV, argsOk, frzA, frzV, sv_i, sv_b, sv_s, sv_0, sv_l, sv_t, sv_d, sv_n, List.map, List.length, List.replicate, List.cons_append, List.nil_append, Nat.sub_self, biD, isD_1, boolD_b, cmpD, relD_i, opD, addD_i, addD_l, subD_i, intD_i, lenD_l, lenD_t, listD_l, listD_t, tupleD_l, int2D_i, absD_i, toIntD_i, toIntD_b, eqD_i, eqD_b, eqD_s, rngD_1, rngD_2, seqD_l, seqD_t, lstD_l, ixX_l, ixX_t, negX_i, slX_l, rvX_l, repX_i, intX_i, ixD_0, ixD_1, ixD_2, true_and, and_true, ite_self, wI, wipeG, backG]
  refine ⟨by unfold big; decide, call_steps ok hx fun r hr => ?_⟩
  have hb := walk_big ok hr
  simp only [Bool.false_eq_true, if_false, wSs, wS, w1, wT, wE, wA, wX, wV, wP, wC, opn, rdO_d, rdO_o, asD_d, asD_n, KQY, entry, look, put, slotV, argsOk, frzA, frzV, sv_i, sv_b, sv_s, sv_0, sv_l, sv_t, sv_d, sv_n, List.map, List.length, List.replicate, List.cons_append, List.nil_append, Nat.sub_self, biD, isD_1, boolD_b, cmpD, relD_i, opD, addD_i, addD_l, subD_i, intD_i, lenD_l, lenD_t, listD_l, listD_t, tupleD_l, int2D_i, absD_i, toIntD_i, toIntD_b, eqD_i, eqD_b, eqD_s, rngD_1, rngD_2, seqD_l, seqD_t, lstD_l, ixX_l, ixX_t, negX_i, slX_l, rvX_l, repX_i, intX_i, ixD_0, ixD_1, ixD_2, true_and, and_true, ite_self, List.length_map]
  refine ⟨by unfold big; omega, ?_⟩
  refine cLoop_mp (q := fun k => some (.int (plK n as x k))) _ [] ?_ ?_
  · intro k hk k' hk'
    simp only [bindT, stepD, putAll, wSs, wS, w1, wT, wE, wA, wX, wV, wP, wC, opn, rdO_d, rdO_o, asD_d, asD_n, KQY, entry, look, put, slotV, argsOk, frzA, frzV, sv_i, sv_b, sv_s, sv_0, sv_l, sv_t, sv_d, sv_n, List.map, List.length, List.replicate, List.cons_append, List.nil_append, Nat.sub_self, biD, isD_1, boolD_b, cmpD, relD_i, opD, addD_i, addD_l, subD_i, intD_i, lenD_l, lenD_t, listD_l, listD_t, tupleD_l, int2D_i, absD_i, toIntD_i, toIntD_b, eqD_i, eqD_b, eqD_s, rngD_1, rngD_2, seqD_l, seqD_t, lstD_l, ixX_l, ixX_t, negX_i, slX_l, rvX_l, repX_i, intX_i, ixD_0, ixD_1, ixD_2, true_and, and_true, ite_self, if_true]
    exact hk'
  · rw [List.nil_append, fm_all]
    have e : (PyData.int x :: r.map fun k => PyData.int (plK n as x k)) = (wlk n as x).map .int := by
      rw [← wlk_eq hr, List.map_cons, List.map_map]
      rfl
    have hl : (wlk n as x).length ≤ 21 := by
      rw [← wlk_eq hr, List.length_cons, List.length_map]
      omega
    simp only [wSs, wS, w1, wT, wE, wA, wX, wV, wP, wC, opn, rdO_d, rdO_o, asD_d, asD_n, KQY, entry, look, put, slotV, argsOk, frzA, frzV, sv_i, sv_b, sv_s, sv_0, sv_l, sv_t, sv_d, sv_n, List.map, List.length, List.replicate, List.cons_append, List.nil_append, Nat.sub_self, biD, isD_1, boolD_b, cmpD, relD_i, opD, addD_i, addD_l, subD_i, intD_i, lenD_l, lenD_t, listD_l, listD_t, tupleD_l, int2D_i, absD_i, toIntD_i, toIntD_b, eqD_i, eqD_b, eqD_s, rngD_1, rngD_2, seqD_l, seqD_t, lstD_l, ixX_l, ixX_t, negX_i, slX_l, rvX_l, repX_i, intX_i, ixD_0, ixD_1, ixD_2, true_and, and_true, ite_self, e]
    refine ⟨by rw [List.length_map]; unfold big; omega, ?_⟩
    cases b with
    | none =>
      simp only [optL, noneD, if_true, wSs, wS, w1, wT, wE, wA, wX, wV, wP, wC, opn, rdO_d, rdO_o, asD_d, asD_n, KQY, entry, look, put, slotV, argsOk, frzA, frzV, sv_i, sv_b, sv_s, sv_0, sv_l, sv_t, sv_d, sv_n, List.map, List.length, List.replicate, List.cons_append, List.nil_append, Nat.sub_self, biD, isD_1, boolD_b, cmpD, relD_i, opD, addD_i, addD_l, subD_i, intD_i, lenD_l, lenD_t, listD_l, listD_t, tupleD_l, int2D_i, absD_i, toIntD_i, toIntD_b, eqD_i, eqD_b, eqD_s, rngD_1, rngD_2, seqD_l, seqD_t, lstD_l, ixX_l, ixX_t, negX_i, slX_l, rvX_l, repX_i, intX_i, ixD_0, ixD_1, ixD_2, true_and, and_true, ite_self]
      exact hK (some (wlk n as x)) _ _ _ fun r => rfl
    | some l =>
      simp only [optL, noneD, Bool.false_eq_true, if_false, if_true, wSs, wS, w1, wT, wE, wA, wX, wV, wP, wC, opn, rdO_d, rdO_o, asD_d, asD_n, KQY, entry, look, put, slotV, argsOk, frzA, frzV, sv_i, sv_b, sv_s, sv_0, sv_l, sv_t, sv_d, sv_n, List.map, List.length, List.replicate, List.cons_append, List.nil_append, Nat.sub_self, biD, isD_1, boolD_b, cmpD, relD_i, opD, addD_i, addD_l, subD_i, intD_i, lenD_l, lenD_t, listD_l, listD_t, tupleD_l, int2D_i, absD_i, toIntD_i, toIntD_b, eqD_i, eqD_b, eqD_s, rngD_1, rngD_2, seqD_l, seqD_t, lstD_l, ixX_l, ixX_t, negX_i, slX_l, rvX_l, repX_i, intX_i, ixD_0, ixD_1, ixD_2, true_and, and_true, ite_self, List.length_map]
      by_cases hc : ((wlk n as x).length : Int) < l.length
      · simp only [hc, decide_true, if_true]
        refine hK (some (wlk n as x)) _ _ _ fun r => ?_
        show _ = if (wlk n as x).length < l.length then bst (some (wlk n as x)) r else bst (some l) r
        rw [if_pos (by omega)]
      · simp only [hc, decide_false, Bool.false_eq_true, if_false]
        refine hK (some l) _ _ _ fun r => ?_
        show _ = if (wlk n as x).length < l.length then bst (some (wlk n as x)) r else bst (some l) r
        rw [if_neg (by omega)]
theorem w_fewest_points : WOk Sfewest_points 1 6 trfewest_points := WOk.ring (fun d r Q Y hl hr h0 => by
    obtain rfl := List.length_eq_zero_iff.mp hl
    unfold trfewest_points
    simp only [wSs, wS, w1, wT, wE, wA, wX, wV, wP, wC, opn, rdO_d, rdO_o, asD_d, asD_n, KQY, entry, look, put, slotV, argsOk, frzA, frzV, sv_i, sv_b, sv_s, sv_0, sv_l, sv_t, sv_d, sv_n, List.map, List.length, List.replicate, List.cons_append, List.nil_append, Nat.sub_self, biD, isD_1, boolD_b, cmpD, relD_i, opD, addD_i, addD_l, subD_i, intD_i, lenD_l, lenD_t, listD_l, listD_t, tupleD_l, int2D_i, absD_i, toIntD_i, toIntD_b, eqD_i, eqD_b, eqD_s, rngD_1, rngD_2, seqD_l, seqD_t, lstD_l, ixX_l, ixX_t, negX_i, slX_l, rvX_l, repX_i, intX_i, ixD_0, ixD_1, ixD_2, true_and, and_true, ite_self, run_need_ring]
    simpa [hr] using h0) (fun n as r Q Y hl ok h => by
    obtain ⟨rfl, h⟩ := h
    unfold trfewest_points
    simp only [wSs, wS, w1, wT, wE, wA, wX, wV, wP, wC, opn, rdO_d, rdO_o, asD_d, asD_n, KQY, entry, look, put, slotV, argsOk, frzA, frzV, sv_i, sv_b, sv_s, sv_0, sv_l, sv_t, sv_d, sv_n, List.map, List.length, List.replicate, List.cons_append, List.nil_append, Nat.sub_self, biD, isD_1, boolD_b, cmpD, relD_i, opD, addD_i, addD_l, subD_i, intD_i, lenD_l, lenD_t, listD_l, listD_t, tupleD_l, int2D_i, absD_i, toIntD_i, toIntD_b, eqD_i, eqD_b, eqD_s, rngD_1, rngD_2, seqD_l, seqD_t, lstD_l, ixX_l, ixX_t, negX_i, slX_l, rvX_l, repX_i, intX_i, ixD_0, ixD_1, ixD_2, true_and, and_true, ite_self, run_need_ring, isRing_ringD ok, if_true]
    simp only [ringD, wSs, wS, w1, wT, wE, wA, wX, wV, wP, wC, opn, rdO_d, rdO_o, asD_d, asD_n, KQY, entry, look, put, slotV, argsOk, frzA, frzV, sv_i, sv_b, sv_s, sv_0, sv_l, sv_t, sv_d, sv_n, List.map, List.length, List.replicate, List.cons_append, List.nil_append, Nat.sub_self, biD, isD_1, boolD_b, cmpD, relD_i, opD, addD_i, addD_l, subD_i, intD_i, lenD_l, lenD_t, listD_l, listD_t, tupleD_l, int2D_i, absD_i, toIntD_i, toIntD_b, eqD_i, eqD_b, eqD_s, rngD_1, rngD_2, seqD_l, seqD_t, lstD_l, ixX_l, ixX_t, negX_i, slX_l, rvX_l, repX_i, intX_i, ixD_0, ixD_1, ixD_2, true_and, and_true, ite_self, eqD_nil, wJ]
    refine ⟨by unfold big; decide, ?_⟩
    cases as with
    | nil =>
      simp only [List.map_nil, List.isEmpty_nil, if_true]
      exact ⟨by unfold big; decide, h⟩
    | cons a as =>
      have oka := ok.arcs a List.mem_cons_self
      have n1 := ok.n1
      have n40 := ok.n40
      have a1 := oka.2.2.1
      have a2 := oka.2.2.2
      simp only [List.map_cons, List.isEmpty_cons, Bool.false_eq_true, if_false, wSs, wS, w1, wT, wE, wA, wX, wV, wP, wC, opn, rdO_d, rdO_o, asD_d, asD_n, KQY, entry, look, put, slotV, argsOk, frzA, frzV, sv_i, sv_b, sv_s, sv_0, sv_l, sv_t, sv_d, sv_n, List.map, List.length, List.replicate, List.cons_append, List.nil_append, Nat.sub_self, biD, isD_1, boolD_b, cmpD, relD_i, opD, addD_i, addD_l, subD_i, intD_i, lenD_l, lenD_t, listD_l, listD_t, tupleD_l, int2D_i, absD_i, toIntD_i, toIntD_b, eqD_i, eqD_b, eqD_s, rngD_1, rngD_2, seqD_l, seqD_t, lstD_l, ixX_l, ixX_t, negX_i, slX_l, rvX_l, repX_i, intX_i, ixD_0, ixD_1, ixD_2, true_and, and_true, ite_self, arcD, run_places_in]
      refine ⟨⟨by omega, by omega, by omega⟩, by rw [List.length_map, plc_len]; unfold big; show a.2.toNat ≤ _; omega, ?_⟩
      refine fLoop_mp (fun done rest Γ _ => ∃ (b : Option (List Int)) (x2 x3 x4 x5 : Option Val), Γ = [some (.dat (ringD n (a :: as))), some (.dat (optL b)), x2, x3, x4, x5] ∧ bst b (rest.map (wlk n (a :: as))) = bst none ((plc n a).map (wlk n (a :: as))) ∧ ∀ y ∈ rest, y ∈ plc n a) ?_ ?_ _ [] _ _ ⟨none, _, _, _, _, rfl, rfl, fun y hy => hy⟩
      · rintro done Γ u ⟨b, x2, x3, x4, x5, rfl, hb, _⟩
        obtain ⟨c, h1, _, _⟩ := bst_none (ls := (plc n a).map (wlk n (a :: as))) (by simpa using plc_ne oka)
        have hbc : b = some c := by rw [← h1, ← hb]; cases b <;> rfl
        subst hbc
        simp only [wSs, wS, w1, wT, wE, wA, wX, wV, wP, wC, opn, rdO_d, rdO_o, asD_d, asD_n, KQY, entry, look, put, slotV, argsOk, frzA, frzV, sv_i, sv_b, sv_s, sv_0, sv_l, sv_t, sv_d, sv_n, List.map, List.length, List.replicate, List.cons_append, List.nil_append, Nat.sub_self, biD, isD_1, boolD_b, cmpD, relD_i, opD, addD_i, addD_l, subD_i, intD_i, lenD_l, lenD_t, listD_l, listD_t, tupleD_l, int2D_i, absD_i, toIntD_i, toIntD_b, eqD_i, eqD_b, eqD_s, rngD_1, rngD_2, seqD_l, seqD_t, lstD_l, ixX_l, ixX_t, negX_i, slX_l, rvX_l, repX_i, intX_i, ixD_0, ixD_1, ixD_2, true_and, and_true, ite_self, optL, sortedD]
        refine ⟨c, intsD_map c, fun ns' p1 p2 => ?_⟩
        have e : fpL n (a :: as) = srt c := by
          show srt ((bst none ((plc n a).map (wlk n (a :: as)))).getD []) = _
          rw [h1]
          rfl
        rw [srt_uniq p1 p2, ← e]
        exact h
      · rintro done x r Γ u K' ⟨b, x2, x3, x4, x5, rfl, hb, hm⟩ hnx hct hbk hrt hex
        have hx := (mem_plc oka).mp (hm x List.mem_cons_self)
        simp only [bindT, put]
        refine few_b1 ok ⟨hx.1, hx.2.1⟩ fun c y3 y4 y5 hc => hnx _ _ ⟨c, _, _, _, _, rfl, ?_, fun y hy => hm y (List.mem_cons_of_mem _ hy)⟩
        rw [hc, ← List.map_cons]
        exact hb)
end Ac
namespace Ac
open PySem PySem.Spec PyProof.Rows L2
/-! ### hits -/
def hitB (n : Int) (as : List (Int × Int)) (ns : List Int) : Bool := as.all fun a => ns.any (hld n a)
theorem hitB_iff {n : Int} {as : List (Int × Int)} {ns : List Int} : hitB n as ns = true ↔ Hit n as ns := by
  unfold hitB Hit
  simp only [List.all_eq_true, List.any_eq_true]
def hitsD (n : Int) (as : List (Int × Int)) (d : D) : Bool := match d with
  | .list xs => risD (.list xs) n && (match intsD xs with | some ns => hitB n as ns | none => false)
  | _ => false
theorem hitsD_ints {n : Int} {as : List (Int × Int)} {ns : List Int} : hitsD n as (.list (ns.map .int)) = (risD (.list (ns.map .int)) n && hitB n as ns) := by
  unfold hitsD
  dsimp only
  rw [intsD_map]
theorem hitsD_ok {n : Int} {as : List (Int × Int)} {P : List Int} (h1 : Pl n P) (h2 : P.Pairwise (· < ·)) (h3 : Hit n as P) : hitsD n as (.list (P.map .int)) = true := by
  rw [hitsD_ints, Bool.and_eq_true, risD_ints, hitB_iff]
  exact ⟨⟨h1, h2⟩, h3⟩
theorem hitsD_iff {n : Int} {as : List (Int × Int)} {P : List Int} : hitsD n as (.list (P.map .int)) = true ↔ (Pl n P ∧ P.Pairwise (· < ·)) ∧ Hit n as P := by
  rw [hitsD_ints, Bool.and_eq_true, risD_ints, hitB_iff]
  exact Iff.rfl
theorem hitsD_ris {n : Int} {as : List (Int × Int)} {d : D} (h : risD d n = false) : hitsD n as d = false := by
  cases d with
  | list xs => unfold hitsD; dsimp only; rw [h]; rfl
  | _ => rfl
theorem ris_ints {d : D} {b : Int} (h : risD d b = true) : ∃ ns : List Int, d = .list (ns.map .int) ∧ (∀ m ∈ ns, 0 ≤ m ∧ m < b) ∧ ns.Pairwise (· < ·) := by
  cases d with
  | list xs =>
    have ha : xs.all (inR b) = true := by
      unfold risD at h
      dsimp only at h
      rw [Bool.and_eq_true] at h
      exact h.1
    obtain ⟨ns, rfl, hb⟩ := inR_ints ha
    exact ⟨ns, rfl, risD_ints.mp h⟩
  | _ => cases h
theorem ris_len {b : Int} {ns : List Int} (hb : b ≤ 1000) (h1 : ∀ m ∈ ns, 0 ≤ m ∧ m < b) (h2 : ns.Pairwise (· < ·)) : ns.length ≤ b.toNat := by
  have := nodup_len (l := ns) (P := places b) (lt_nodup h2) fun x hx => mem_places.mpr (h1 x hx)
  unfold places at this
  rw [List.length_map, List.length_range] at this
  exact this
/-! ### is_rising, hits_all -/
def shortL (d : D) : Prop := ∀ xs, d = .list xs → xs.length < 4000
theorem short_ints {ns : List Int} (h : ns.length < 4000) : shortL (.list (ns.map .int)) := fun xs e => by
  cases e
  rw [List.length_map]
  exact h
def Sis_rising : Summ where
  run ds Q _ := ∃ d b, ds = [d, .int b] ∧ shortL d ∧ b ≤ 63 ∧ Q (.dat (.bool (risD d b)))
  mono := fun h1 _ ⟨d, b, e, hl, hb, q⟩ => ⟨d, b, e, hl, hb, h1 _ q⟩
theorem call_is_rising {d : D} {b : Int} {Q : Val → Prop} {Y : Nat → Prop} (hl : shortL d) (hb : b ≤ 63) (h : Q (.dat (.bool (risD d b)))) : Sis_rising.run [d, .int b] Q Y := ⟨d, b, rfl, hl, hb, h⟩
theorem isNum_inR {d : D} {b : Int} : isNumD d b = inR b d := by cases d <;> rfl
def tris_rising_c1 : Es Unit :=
  (.cons (.nt (.call "is_number" Sis_number (.cons (.var 2) (.cons (.var 1) .nil)))) .nil)
def tris_rising_r1 : Sms Unit :=
  (.cons (.one (.ret (.cmp .Eq (.var 0) (.srtS (.var 0)))))
    .nil)
def tris_rising : Sms Unit :=
  (.cons (.ite (.or (.nt (.bi .islist (.cons (.var 0) .nil))) (.cmp .NotEq (.comp [2] (.nm 2) (.seq (.var 0)) tris_rising_c1 (.var 2)) (.ls .nil)))
    (.cons (.one (.ret (.bl false)))
    .nil)
    .nil)
    tris_rising_r1)

theorem w_is_rising : WOk Sis_rising 2 3 tris_rising := fun ds Q Y h => by
  obtain ⟨d, b, rfl, hl, hb, h⟩ := h
  refine ⟨rfl, ?_⟩
  unfold tris_rising
  cases d with
  | list xs =>
    have hl' := hl xs rfl
    simp only [wSs, wS, w1, wT, wE, wA, wX, wV, wP, wC, opn, rdO_d, rdO_o, asD_d, asD_n, KQY, entry, look, put, slotV, argsOk, frzA, frzV, sv_i, sv_b, sv_s, sv_0, sv_l, sv_t, sv_d, sv_n, List.map, List.length, List.replicate, List.cons_append, List.nil_append, Nat.sub_self, biD, isD_1, boolD_b, cmpD, relD_i, opD, addD_i, addD_l, subD_i, intD_i, lenD_l, lenD_t, listD_l, listD_t, tupleD_l, int2D_i, absD_i, toIntD_i, toIntD_b, eqD_i, eqD_b, eqD_s, rngD_1, rngD_2, seqD_l, seqD_t, lstD_l, ixX_l, ixX_t, negX_i, slX_l, rvX_l, repX_i, intX_i, ixD_0, ixD_1, ixD_2, true_and, and_true, ite_self, isListD, wI, wipeG, backG]
    simp only [Bool.not_true, Bool.false_eq_true, if_false]
    refine ⟨by unfold big; omega, ?_⟩
    refine cLoop_pure (g := outR b) _ [] ?_ ?_
    · intro y hy k' hk
      unfold tris_rising_c1
      unfold outR at hk
      simp only [bindT, wSs, wS, w1, wT, wE, wA, wX, wV, wP, wC, opn, rdO_d, rdO_o, asD_d, asD_n, KQY, entry, look, put, slotV, argsOk, frzA, frzV, sv_i, sv_b, sv_s, sv_0, sv_l, sv_t, sv_d, sv_n, List.map, List.length, List.replicate, List.cons_append, List.nil_append, Nat.sub_self, biD, isD_1, boolD_b, cmpD, relD_i, opD, addD_i, addD_l, subD_i, intD_i, lenD_l, lenD_t, listD_l, listD_t, tupleD_l, int2D_i, absD_i, toIntD_i, toIntD_b, eqD_i, eqD_b, eqD_s, rngD_1, rngD_2, seqD_l, seqD_t, lstD_l, ixX_l, ixX_t, negX_i, slX_l, rvX_l, repX_i, intX_i, ixD_0, ixD_1, ixD_2, true_and, and_true, ite_self, run_is_number, isNum_inR]
      cases hc : inR b y with
      | true =>
        rw [hc] at hk
        simp only [if_true, Bool.not_true, Bool.false_eq_true, if_false] at hk ⊢
        exact hk
      | false =>
        rw [hc] at hk
        simp only [if_true, Bool.not_false, Bool.false_eq_true, if_false] at hk ⊢
        exact hk
    · rw [List.nil_append]
      try simp only [wSs, wS, w1, wT, wE, wA, wX, wV, wP, wC, opn, rdO_d, rdO_o, asD_d, asD_n, KQY, entry, look, put, slotV, argsOk, frzA, frzV, sv_i, sv_b, sv_s, sv_0, sv_l, sv_t, sv_d, sv_n, List.map, List.length, List.replicate, List.cons_append, List.nil_append, Nat.sub_self, biD, isD_1, boolD_b, cmpD, relD_i, opD, addD_i, addD_l, subD_i, intD_i, lenD_l, lenD_t, listD_l, listD_t, tupleD_l, int2D_i, absD_i, toIntD_i, toIntD_b, eqD_i, eqD_b, eqD_s, rngD_1, rngD_2, seqD_l, seqD_t, lstD_l, ixX_l, ixX_t, negX_i, slX_l, rvX_l, repX_i, intX_i, ixD_0, ixD_1, ixD_2, true_and, and_true, ite_self, Bool.false_eq_true, if_false, if_true, Bool.not_true, Bool.not_false, ixR0, ixR1, sv_r]
      simp only [eqD_nil]
      refine ⟨by unfold big; decide, ?_⟩
      cases ha : xs.all (inR b) with
      | false =>
        have he : (xs.filterMap (outR b)).isEmpty = false := by
          rw [Bool.eq_false_iff, ne_eq, filterMap_empty]
          intro hh
          rw [List.all_eq_false] at ha
          obtain ⟨x, hx, hx2⟩ := ha
          have := hh x hx
          unfold outR at this
          rw [if_neg hx2] at this
          cases this
        simp only [he, Bool.not_false, if_true]
        have e : risD (.list xs) b = false := by unfold risD; dsimp only; rw [ha]; rfl
        rw [e] at h
        exact h
      | true =>
        have he : (xs.filterMap (outR b)).isEmpty = true := by
          rw [filterMap_empty]
          intro x hx
          unfold outR
          rw [if_pos (List.all_eq_true.mp ha x hx)]
        simp only [he, Bool.not_true, Bool.false_eq_true, if_false]
        obtain ⟨ns, rfl, hb2⟩ := inR_ints ha
        rw [List.length_map] at hl'
        unfold tris_rising_r1
        simp only [wSs, wS, w1, wT, wE, wA, wX, wV, wP, wC, opn, rdO_d, rdO_o, asD_d, asD_n, KQY, entry, look, put, slotV, argsOk, frzA, frzV, sv_i, sv_b, sv_s, sv_0, sv_l, sv_t, sv_d, sv_n, List.map, List.length, List.replicate, List.cons_append, List.nil_append, Nat.sub_self, biD, isD_1, boolD_b, cmpD, relD_i, opD, addD_i, addD_l, subD_i, intD_i, lenD_l, lenD_t, listD_l, listD_t, tupleD_l, int2D_i, absD_i, toIntD_i, toIntD_b, eqD_i, eqD_b, eqD_s, rngD_1, rngD_2, seqD_l, seqD_t, lstD_l, ixX_l, ixX_t, negX_i, slX_l, rvX_l, repX_i, intX_i, ixD_0, ixD_1, ixD_2, true_and, and_true, ite_self, srtSX]
        refine ⟨ns, intsD_map ns, hl', .inr fun m hm => ⟨(hb2 m hm).1, by have := (hb2 m hm).2; omega⟩, fun ms h1 h2 => ?_⟩
        try simp only [wSs, wS, w1, wT, wE, wA, wX, wV, wP, wC, opn, rdO_d, rdO_o, asD_d, asD_n, KQY, entry, look, put, slotV, argsOk, frzA, frzV, sv_i, sv_b, sv_s, sv_0, sv_l, sv_t, sv_d, sv_n, List.map, List.length, List.replicate, List.cons_append, List.nil_append, Nat.sub_self, biD, isD_1, boolD_b, cmpD, relD_i, opD, addD_i, addD_l, subD_i, intD_i, lenD_l, lenD_t, listD_l, listD_t, tupleD_l, int2D_i, absD_i, toIntD_i, toIntD_b, eqD_i, eqD_b, eqD_s, rngD_1, rngD_2, seqD_l, seqD_t, lstD_l, ixX_l, ixX_t, negX_i, slX_l, rvX_l, repX_i, intX_i, ixD_0, ixD_1, ixD_2, true_and, and_true, ite_self, Bool.false_eq_true, if_false, if_true, Bool.not_true, Bool.not_false, ixR0, ixR1, sv_r]
        refine eqD_okc (okc_ints _) (okc_ints _) (fun e => ?_) fun e => ?_
        · have e2 : ns = ms := ints_inj e
          subst e2
          rw [risD_ints.mpr ⟨hb2, h1⟩] at h
          exact h
        · have e2 : risD (.list (ns.map .int)) b = false := by
            rw [Bool.eq_false_iff]
            intro hr
            refine e ?_
            have hp := (risD_ints.mp hr).2
            rw [sorted_unique (perm_of_nodup (lt_nodup hp) (lt_nodup h1) fun x => (h2 x).symm) (lt_le hp) (lt_le h1)]
          rw [e2] at h
          exact h
  | _ =>
    simp only [wSs, wS, w1, wT, wE, wA, wX, wV, wP, wC, opn, rdO_d, rdO_o, asD_d, asD_n, KQY, entry, look, put, slotV, argsOk, frzA, frzV, sv_i, sv_b, sv_s, sv_0, sv_l, sv_t, sv_d, sv_n, List.map, List.length, List.replicate, List.cons_append, List.nil_append, Nat.sub_self, biD, isD_1, boolD_b, cmpD, relD_i, opD, addD_i, addD_l, subD_i, intD_i, lenD_l, lenD_t, listD_l, listD_t, tupleD_l, int2D_i, absD_i, toIntD_i, toIntD_b, eqD_i, eqD_b, eqD_s, rngD_1, rngD_2, seqD_l, seqD_t, lstD_l, ixX_l, ixX_t, negX_i, slX_l, rvX_l, repX_i, intX_i, ixD_0, ixD_1, ixD_2, true_and, and_true, ite_self, isListD, Bool.not_false, if_true]
    exact h
where
  ints_inj : ∀ {ns ms : List Int}, PyData.list (ns.map .int) = .list (ms.map .int) → ns = ms := fun {ns ms} e => by
    have e1 : ns.map PyData.int = ms.map PyData.int := PyData.list.inj e
    have e2 := intsD_map ns
    rw [e1, intsD_map] at e2
    exact (Option.some.inj e2).symm
def Fhits_all : RF where
  run n as ds Q Y := ∃ d, ds = [d] ∧ shortL d ∧ Q (.dat (.bool (hitsD n as d)))
  mono := fun h1 h2 ⟨d, e, hl, q⟩ => ⟨d, e, hl, h1 _ q⟩
def Shits_all : Summ := Summ.ring 1 Fhits_all
theorem call_hits_all {n : Int} {as : List (Int × Int)} {d : D} {Q : Val → Prop} {Y : Nat → Prop} (ok : RingOk n as) (hl : shortL d) (h : Q (.dat (.bool (hitsD n as d)))) : Shits_all.run [ringD n as, d] Q Y := ring_ok rfl ok ⟨d, rfl, hl, h⟩
def trhits_all_c1 : Es Unit :=
  (.cons (.call "holds" Sholds (.cons (.ix (.var 0) (.int 0)) (.cons (.var 2) (.cons (.var 3) .nil)))) .nil)
def trhits_all_b1 : Sms Unit :=
  (.cons (.ite (.cmp .Eq (.comp [3] (.nm 3) (.seq (.var 1)) trhits_all_c1 (.var 3)) (.ls .nil))
    (.cons (.one (.ret (.bl false)))
    .nil)
    .nil)
    .nil)
def trhits_all : Sms Unit :=
  (.cons (.one (.expr (.call "need_ring" Sneed_ring (.cons (.var 0) .nil))))
    (.cons (.ite (.nt (.call "is_rising" Sis_rising (.cons (.var 1) (.cons (.ix (.var 0) (.int 0)) .nil))))
    (.cons (.one (.ret (.bl false)))
    .nil)
    .nil)
    (.cons (.for (.nm 2) (.seq (.ix (.var 0) (.int 1)))
    trhits_all_b1)
    (.cons (.one (.ret (.bl true)))
    .nil))))

theorem w_hits_all : WOk Shits_all 2 4 trhits_all := WOk.ring (fun d r Q Y hl hr h0 => by
    obtain ⟨a, rfl⟩ := len1 hl
    unfold trhits_all
    simp only [wSs, wS, w1, wT, wE, wA, wX, wV, wP, wC, opn, rdO_d, rdO_o, asD_d, asD_n, KQY, entry, look, put, slotV, argsOk, frzA, frzV, sv_i, sv_b, sv_s, sv_0, sv_l, sv_t, sv_d, sv_n, List.map, List.length, List.replicate, List.cons_append, List.nil_append, Nat.sub_self, biD, isD_1, boolD_b, cmpD, relD_i, opD, addD_i, addD_l, subD_i, intD_i, lenD_l, lenD_t, listD_l, listD_t, tupleD_l, int2D_i, absD_i, toIntD_i, toIntD_b, eqD_i, eqD_b, eqD_s, rngD_1, rngD_2, seqD_l, seqD_t, lstD_l, ixX_l, ixX_t, negX_i, slX_l, rvX_l, repX_i, intX_i, ixD_0, ixD_1, ixD_2, true_and, and_true, ite_self, run_need_ring]
    simpa [hr] using h0) (fun n as r Q Y hl ok h => by
    obtain ⟨d, rfl, hs, h⟩ := h
    have n1 := ok.n1
    have n40 := ok.n40
    unfold trhits_all
    simp only [wSs, wS, w1, wT, wE, wA, wX, wV, wP, wC, opn, rdO_d, rdO_o, asD_d, asD_n, KQY, entry, look, put, slotV, argsOk, frzA, frzV, sv_i, sv_b, sv_s, sv_0, sv_l, sv_t, sv_d, sv_n, List.map, List.length, List.replicate, List.cons_append, List.nil_append, Nat.sub_self, biD, isD_1, boolD_b, cmpD, relD_i, opD, addD_i, addD_l, subD_i, intD_i, lenD_l, lenD_t, listD_l, listD_t, tupleD_l, int2D_i, absD_i, toIntD_i, toIntD_b, eqD_i, eqD_b, eqD_s, rngD_1, rngD_2, seqD_l, seqD_t, lstD_l, ixX_l, ixX_t, negX_i, slX_l, rvX_l, repX_i, intX_i, ixD_0, ixD_1, ixD_2, true_and, and_true, ite_self, run_need_ring, isRing_ringD ok, if_true, wJ]
    simp only [ringD, wSs, wS, w1, wT, wE, wA, wX, wV, wP, wC, opn, rdO_d, rdO_o, asD_d, asD_n, KQY, entry, look, put, slotV, argsOk, frzA, frzV, sv_i, sv_b, sv_s, sv_0, sv_l, sv_t, sv_d, sv_n, List.map, List.length, List.replicate, List.cons_append, List.nil_append, Nat.sub_self, biD, isD_1, boolD_b, cmpD, relD_i, opD, addD_i, addD_l, subD_i, intD_i, lenD_l, lenD_t, listD_l, listD_t, tupleD_l, int2D_i, absD_i, toIntD_i, toIntD_b, eqD_i, eqD_b, eqD_s, rngD_1, rngD_2, seqD_l, seqD_t, lstD_l, ixX_l, ixX_t, negX_i, slX_l, rvX_l, repX_i, intX_i, ixD_0, ixD_1, ixD_2, true_and, and_true, ite_self]
    refine call_is_rising hs (by omega) ?_
    cases hr : risD d n with
    | false =>
      try simp only [wSs, wS, w1, wT, wE, wA, wX, wV, wP, wC, opn, rdO_d, rdO_o, asD_d, asD_n, KQY, entry, look, put, slotV, argsOk, frzA, frzV, sv_i, sv_b, sv_s, sv_0, sv_l, sv_t, sv_d, sv_n, List.map, List.length, List.replicate, List.cons_append, List.nil_append, Nat.sub_self, biD, isD_1, boolD_b, cmpD, relD_i, opD, addD_i, addD_l, subD_i, intD_i, lenD_l, lenD_t, listD_l, listD_t, tupleD_l, int2D_i, absD_i, toIntD_i, toIntD_b, eqD_i, eqD_b, eqD_s, rngD_1, rngD_2, seqD_l, seqD_t, lstD_l, ixX_l, ixX_t, negX_i, slX_l, rvX_l, repX_i, intX_i, ixD_0, ixD_1, ixD_2, true_and, and_true, ite_self, Bool.false_eq_true, if_false, if_true, Bool.not_true, Bool.not_false, ixR0, ixR1, sv_r]
      rw [hitsD_ris hr] at h
      exact h
    | true =>
      obtain ⟨ns, rfl, hb, hp⟩ := ris_ints hr
      rw [hitsD_ints, hr, Bool.true_and] at h
      have hlen := ris_len (by omega) hb hp
      try simp only [wSs, wS, w1, wT, wE, wA, wX, wV, wP, wC, opn, rdO_d, rdO_o, asD_d, asD_n, KQY, entry, look, put, slotV, argsOk, frzA, frzV, sv_i, sv_b, sv_s, sv_0, sv_l, sv_t, sv_d, sv_n, List.map, List.length, List.replicate, List.cons_append, List.nil_append, Nat.sub_self, biD, isD_1, boolD_b, cmpD, relD_i, opD, addD_i, addD_l, subD_i, intD_i, lenD_l, lenD_t, listD_l, listD_t, tupleD_l, int2D_i, absD_i, toIntD_i, toIntD_b, eqD_i, eqD_b, eqD_s, rngD_1, rngD_2, seqD_l, seqD_t, lstD_l, ixX_l, ixX_t, negX_i, slX_l, rvX_l, repX_i, intX_i, ixD_0, ixD_1, ixD_2, true_and, and_true, ite_self, Bool.false_eq_true, if_false, if_true, Bool.not_true, Bool.not_false, ixR0, ixR1, sv_r]
      refine ⟨by rw [List.length_map]; exact big20 ok.len, ?_⟩
      refine fLoop_findA (g := arcD) (p := fun a => ns.any (hld n a)) (xs := as) (I := fun Γ _ => ∃ x2 x3 : Option Val, Γ = [some (.dat (ringD n as)), some (.dat (.list (ns.map .int))), x2, x3]) ?_ ?_ ⟨_, _, rfl⟩
      · rintro ha Γ s ⟨x2, x3, rfl⟩
        have e : hitB n as ns = true := ha
        rw [e] at h
        exact h
      · rintro a ha Γ s K' ⟨x2, x3, rfl⟩ hrt hex hnx
        unfold trhits_all_b1
        simp only [bindT, wSs, wS, w1, wT, wE, wA, wX, wV, wP, wC, opn, rdO_d, rdO_o, asD_d, asD_n, KQY, entry, look, put, slotV, argsOk, frzA, frzV, sv_i, sv_b, sv_s, sv_0, sv_l, sv_t, sv_d, sv_n, List.map, List.length, List.replicate, List.cons_append, List.nil_append, Nat.sub_self, biD, isD_1, boolD_b, cmpD, relD_i, opD, addD_i, addD_l, subD_i, intD_i, lenD_l, lenD_t, listD_l, listD_t, tupleD_l, int2D_i, absD_i, toIntD_i, toIntD_b, eqD_i, eqD_b, eqD_s, rngD_1, rngD_2, seqD_l, seqD_t, lstD_l, ixX_l, ixX_t, negX_i, slX_l, rvX_l, repX_i, intX_i, ixD_0, ixD_1, ixD_2, true_and, and_true, ite_self, wI, wipeG, backG, ringD]
        refine ⟨by rw [List.length_map]; unfold big; omega, ?_⟩
        refine cLoop_mp (q := fun x => if hld n a x = true then some (.int x) else none) _ [] ?_ ?_
        · intro x hx k' hk
          unfold trhits_all_c1
          simp only [bindT, wSs, wS, w1, wT, wE, wA, wX, wV, wP, wC, opn, rdO_d, rdO_o, asD_d, asD_n, KQY, entry, look, put, slotV, argsOk, frzA, frzV, sv_i, sv_b, sv_s, sv_0, sv_l, sv_t, sv_d, sv_n, List.map, List.length, List.replicate, List.cons_append, List.nil_append, Nat.sub_self, biD, isD_1, boolD_b, cmpD, relD_i, opD, addD_i, addD_l, subD_i, intD_i, lenD_l, lenD_t, listD_l, listD_t, tupleD_l, int2D_i, absD_i, toIntD_i, toIntD_b, eqD_i, eqD_b, eqD_s, rngD_1, rngD_2, seqD_l, seqD_t, lstD_l, ixX_l, ixX_t, negX_i, slX_l, rvX_l, repX_i, intX_i, ixD_0, ixD_1, ixD_2, true_and, and_true, ite_self, arcD, run_holds]
          refine ⟨by omega, ?_⟩
          have hk2 : k' (if hld n (a.1, a.2) x = true then some (.int x) else none) _ _ := hk
          cases hc : hld n (a.1, a.2) x with
          | true =>
            rw [hc, if_pos rfl] at hk2
            simp only [if_true]
            exact hk2
          | false =>
            rw [hc, if_neg (by decide)] at hk2
            simp only [Bool.false_eq_true, if_false]
            exact hk2
        · rw [List.nil_append, fm_pick]
          simp only [eqD_nil, wSs, wS, w1, wT, wE, wA, wX, wV, wP, wC, opn, rdO_d, rdO_o, asD_d, asD_n, KQY, entry, look, put, slotV, argsOk, frzA, frzV, sv_i, sv_b, sv_s, sv_0, sv_l, sv_t, sv_d, sv_n, List.map, List.length, List.replicate, List.cons_append, List.nil_append, Nat.sub_self, biD, isD_1, boolD_b, cmpD, relD_i, opD, addD_i, addD_l, subD_i, intD_i, lenD_l, lenD_t, listD_l, listD_t, tupleD_l, int2D_i, absD_i, toIntD_i, toIntD_b, eqD_i, eqD_b, eqD_s, rngD_1, rngD_2, seqD_l, seqD_t, lstD_l, ixX_l, ixX_t, negX_i, slX_l, rvX_l, repX_i, intX_i, ixD_0, ixD_1, ixD_2, true_and, and_true, ite_self]
          refine ⟨by unfold big; decide, ?_⟩
          cases hc : ns.any (hld n a) with
          | true =>
            have e : ((ns.filter fun x => hld n a x).map PyData.int).isEmpty = false := by
              obtain ⟨x, hx, hh⟩ := List.any_eq_true.mp hc
              rw [Bool.eq_false_iff, ne_eq, List.isEmpty_iff, List.map_eq_nil_iff]
              intro e
              have : x ∈ ns.filter fun x => hld n a x := List.mem_filter.mpr ⟨hx, hh⟩
              rw [e] at this
              cases this
            simp only [e, Bool.false_eq_true, if_false]
            exact hnx hc _ _ ⟨_, _, rfl⟩
          | false =>
            have e : ((ns.filter fun x => hld n a x).map PyData.int).isEmpty = true := by
              rw [List.isEmpty_iff, List.map_eq_nil_iff, List.filter_eq_nil_iff]
              intro x hx hm
              rw [List.any_eq_false] at hc
              exact hc x hx hm
            simp only [e, if_true]
            rw [hrt]
            have e2 : hitB n as ns = false := all_false ha hc
            rw [e2] at h
            exact h)
/-! ### calls of walks -/
theorem call_wlk {n : Int} {as : List (Int × Int)} {p : Int} {Q : Val → Prop} {Y : Nat → Prop} (ok : RingOk n as) (h0 : 0 ≤ p) (h1 : p < n) (h : Q (.new ((wlk n as p).map .int))) : Swalk_from.run [ringD n as, .int p] Q Y :=
  call_walk_from ok h0 h1 fun r hr => by rw [wlk_eq hr]; exact h
def nxtD : List Int → D
  | _ :: y :: _ => .int y
  | _ => .none
theorem call_nxt {n : Int} {as : List (Int × Int)} {p : Int} {Q : Val → Prop} {Y : Nat → Prop} (ok : RingOk n as) (h0 : 0 ≤ p) (h1 : p < n) (h : Q (.dat (nxtD (wlk n as p)))) : Snext_place.run [ringD n as, .int p] Q Y :=
  call_next_place ok h0 h1 fun r hr => by
    rw [← wlk_eq hr] at h
    cases r <;> exact h
section
variable {n x : Int} {as : List (Int × Int)}
theorem wlk_len (ok : RingOk n as) : 1 ≤ (wlk n as x).length ∧ (wlk n as x).length ≤ 21 := by
  obtain ⟨r, hr, e⟩ := wlk_ex (x := x) ok
  have := walk_big ok hr
  rw [e, List.length_cons, List.length_map]
  omega
theorem wlk_le (ok : RingOk n as) {P : List Int} (hP : Pl n P) (hh : Hit n as P) (hx : x ∈ P) : (wlk n as x).length ≤ P.length := by
  obtain ⟨r, hr, e⟩ := wlk_ex (x := x) ok
  rw [e, List.length_cons, List.length_map]
  exact walk_le ok hr hP hh hx
theorem wlk_ok (ok : RingOk n as) (hx : 0 ≤ x ∧ x < n) : Pl n (wlk n as x) ∧ Hit n as (wlk n as x) ∧ (wlk n as x).Nodup ∧ x ∈ wlk n as x := by
  obtain ⟨r, hr, e⟩ := wlk_ex (x := x) ok
  rw [e]
  exact ⟨walk_pl ok hx, walk_hit ok hr, walk_nodup ok hx hr, List.mem_cons_self⟩
theorem Few.wlk {m : Nat} (h : Few n as m) (ok : RingOk n as) (hx : 0 ≤ x ∧ x < n) : m ≤ (wlk n as x).length ∧ (wlk n as x).length ≤ m + 1 := by
  obtain ⟨w1, w2, w3, w4⟩ := wlk_ok ok hx
  refine ⟨h.le _ w1 w2, ?_⟩
  obtain ⟨P, p1, p2, rfl⟩ := h.ex
  have := wlk_le (x := x) ok (P := x :: P) (fun p hp => by rcases List.mem_cons.mp hp with rfl | hp; exact hx; exact p1 p hp) (fun a ha => by obtain ⟨p, hp, hh⟩ := p2 a ha; exact ⟨p, List.mem_cons_of_mem _ hp, hh⟩) List.mem_cons_self
  rw [List.length_cons] at this
  exact this
theorem wlk_same {bs : List (Int × Int)} (ok : RingOk n as) (ok' : RingOk n bs) (h : SameW n x as bs) : wlk n bs x = wlk n as x := by
  obtain ⟨r, hr, e⟩ := wlk_ex (x := x) ok
  obtain ⟨r', hr', e'⟩ := wlk_ex (x := x) ok'
  rw [e, e', walk_same hr hr' h.1 h.2]
theorem wlk_one (ok : RingOk n as) : (wlk n as x).length = 1 ↔ (atB n as x).length = as.length := by
  obtain ⟨r, hr, e⟩ := wlk_ex (x := x) ok
  have h1 : (wlk n as x).length = 1 ↔ left0 n as x = [] := by
    rw [e, List.length_cons, List.length_map]
    constructor
    · intro h
      have : r = [] := List.length_eq_zero_iff.mp (by omega)
      rw [this] at hr
      exact hr
    · intro h
      have : r = [] := by
        cases r with
        | nil => rfl
        | cons k r =>
          have := hr.1
          rw [h] at this
          cases this
      rw [this]
      rfl
  rw [h1]
  constructor
  · intro h
    rw [atB_count]
    rw [List.countP_eq_length]
    intro a ha
    obtain ⟨k, hk, rfl⟩ := List.mem_iff_getElem.mp ha
    cases hc : hld n as[k] x with
    | true => rfl
    | false =>
      have : k ∈ left0 n as x := mem_left0.mpr ⟨hk, by rw [arcAt_eq hk]; exact hc⟩
      rw [h] at this
      cases this
  · intro h
    rw [atB_count, List.countP_eq_length] at h
    cases hl : left0 n as x with
    | nil => rfl
    | cons k r =>
      have hk : k ∈ left0 n as x := by rw [hl]; exact List.mem_cons_self
      obtain ⟨k1, k2⟩ := mem_left0.mp hk
      rw [arcAt_eq k1] at k2
      have := h _ (List.getElem_mem k1)
      rw [k2] at this
      cases this
/-- the place alone put to -/
theorem ring_alone (ok : RingOk n as) (hl : as.length ≤ 19) (hx : 0 ≤ x ∧ x < n) : RingOk n (as ++ [(x, 1)]) := ⟨ok.n1, ok.n40, by rw [List.length_append, List.length_singleton]; omega, fun a ha => by
  rcases List.mem_append.mp ha with ha | ha
  · exact ok.arcs a ha
  · have e : a = (x, 1) := by simpa using ha
    have := ok.n1
    rw [e]
    exact ⟨hx.1, hx.2, Int.le_refl _, this⟩⟩
theorem hld_alone {p : Int} (hx : 0 ≤ x ∧ x < n) (hp : 0 ≤ p ∧ p < n) : hld n (x, 1) p = true ↔ p = x := by
  unfold hld
  rw [decide_eq_true_eq]
  dsimp only
  constructor
  · intro h
    have h0 := Int.emod_nonneg (p - x) (show n ≠ 0 by omega)
    have hz : (p - x) % n = 0 := by omega
    have := place_back (n := n) (x := x) hp.1 hp.2
    rw [hz, Int.add_zero, Int.emod_eq_of_lt hx.1 hx.2] at this
    exact this.symm
  · rintro rfl
    rw [Int.sub_self, Int.zero_emod]
    decide
theorem few_alone (ok : RingOk n as) (hx : 0 ≤ x ∧ x < n) : Few n (as ++ [(x, 1)]) (wlk n as x).length where
  ex := by
    obtain ⟨w1, w2, w3, w4⟩ := wlk_ok ok hx
    refine ⟨_, w1, fun a ha => ?_, rfl⟩
    rcases List.mem_append.mp ha with ha | ha
    · exact w2 a ha
    · have e : a = (x, 1) := by simpa using ha
      rw [e]
      exact ⟨x, w4, (hld_alone hx hx).mpr rfl⟩
  le := fun P hP hh => by
    obtain ⟨p, hp, hpx⟩ := hh (x, 1) (by simp)
    have e := (hld_alone hx (hP p hp)).mp hpx
    subst e
    exact wlk_le ok hP (fun a ha => hh a (List.mem_append_left _ ha)) hp
theorem wlk_alone (ok : RingOk n as) (hl : as.length ≤ 19) (hx : 0 ≤ x ∧ x < n) : wlk n (as ++ [(x, 1)]) x = wlk n as x :=
  wlk_same ok (ring_alone ok hl hx) (SameW.holds (c := (x, 1)) (fun a => by simp [or_comm]) ((hld_alone hx hx).mpr rfl))
end
end Ac
namespace Ac
open PySem PySem.Spec PyProof.Rows L2
/-! ### family B: how a law reckons hits and the fewest points -/
def tr_law_rising_b1 : Sms Unit :=
  (.cons (.ite (.or (.nt (.bi .isint (.cons (.var 2) .nil))) (.or (.bi .isbool (.cons (.var 2) .nil)) (.nt (.ch .LtE .Lt (.int 0) (.var 2) (.var 1)))))
    (.cons (.one (.ret (.bl false)))
    .nil)
    .nil)
    .nil)
def tr_law_rising_c1 : Es Unit :=
  (.cons (.cmp .GtE (.ix (.var 0) (.op .Sub (.var 3) (.int 1))) (.ix (.var 0) (.var 3))) .nil)
def tr_law_rising : Sms Unit :=
  (.cons (.ite (.nt (.bi .islist (.cons (.var 0) .nil)))
    (.cons (.one (.ret (.bl false)))
    .nil)
    .nil)
    (.cons (.for (.nm 2) (.seq (.var 0))
    tr_law_rising_b1)
    (.cons (.one (.ret (.cmp .Eq (.comp [3] (.nm 3) (.rng (.cons (.int 1) (.cons (.bi .len (.cons (.var 0) .nil)) .nil))) tr_law_rising_c1 (.var 3)) (.ls .nil))))
    .nil)))

theorem w_law_rising : WOk S_law_rising 2 4 tr_law_rising := fun ds Q Y h => by
  obtain ⟨d, b, rfl, hl, h⟩ := h
  refine ⟨rfl, ?_⟩
  unfold tr_law_rising
  cases d with
  | list xs =>
    have hl' : xs.length ≤ 90000 := hl
    simp only [wSs, wS, w1, wT, wE, wA, wX, wV, wP, wC, opn, rdO_d, rdO_o, asD_d, asD_n, KQY, entry, look, put, slotV, argsOk, frzA, frzV, sv_i, sv_b, sv_s, sv_0, sv_l, sv_t, sv_d, sv_n, List.map, List.length, List.replicate, List.cons_append, List.nil_append, Nat.sub_self, biD, isD_1, boolD_b, cmpD, relD_i, opD, addD_i, addD_l, subD_i, intD_i, lenD_l, lenD_t, listD_l, listD_t, tupleD_l, int2D_i, absD_i, toIntD_i, toIntD_b, eqD_i, eqD_b, eqD_s, rngD_1, rngD_2, seqD_l, seqD_t, lstD_l, ixX_l, ixX_t, negX_i, slX_l, rvX_l, repX_i, intX_i, ixD_0, ixD_1, ixD_2, true_and, and_true, ite_self, isListD, Bool.not_true, Bool.false_eq_true, if_false, wJ]
    refine ⟨by unfold big; omega, ?_⟩
    have key := fLoop_findA (S := Unit) (g := fun d : D => d) (p := inR b) (xs := xs) (f := fun x Γ s K' => bindT (.nm 2) x Γ fun Γ' => wSs tr_law_rising_b1 Γ' s K')
      (K := { nx := fun Γ' s' => wSs (.cons (.one (.ret (.cmp .Eq (.comp [3] (.nm 3) (.rng (.cons (.int 1) (.cons (.bi .len (.cons (.var 0) .nil)) .nil))) tr_law_rising_c1 (.var 3)) (.ls .nil)))) .nil) Γ' s' (KQY Q Y), rt := (KQY Q Y).rt, ex := (KQY Q Y).ex })
      (I := fun Γ _ => ∃ x2 : Option Val, Γ = [some (.dat (.list xs)), some (.dat (.int b)), x2, none]) ?_ ?_ (Γ := [some (.dat (.list xs)), some (.dat (.int b)), none, none]) (s := ()) ⟨_, rfl⟩
    · rw [List.map_id'] at key
      simpa only [wSs, wS, w1, wT, wE, wA, wX, wV, wP, wC, opn, rdO_d, rdO_o, asD_d, asD_n, KQY, entry, look, put, slotV, argsOk, frzA, frzV, sv_i, sv_b, sv_s, sv_0, sv_l, sv_t, sv_d, sv_n, List.map, List.length, List.replicate, List.cons_append, List.nil_append, Nat.sub_self, biD, isD_1, boolD_b, cmpD, relD_i, opD, addD_i, addD_l, subD_i, intD_i, lenD_l, lenD_t, listD_l, listD_t, tupleD_l, int2D_i, absD_i, toIntD_i, toIntD_b, eqD_i, eqD_b, eqD_s, rngD_1, rngD_2, seqD_l, seqD_t, lstD_l, ixX_l, ixX_t, negX_i, slX_l, rvX_l, repX_i, intX_i, ixD_0, ixD_1, ixD_2, true_and, and_true, ite_self, wJ] using key
    · rintro ha Γ s ⟨x2, rfl⟩
      obtain ⟨ns, rfl, hb⟩ := inR_ints ha
      rw [List.length_map] at hl'
      simp only [wSs, wS, w1, wT, wE, wA, wX, wV, wP, wC, opn, rdO_d, rdO_o, asD_d, asD_n, KQY, entry, look, put, slotV, argsOk, frzA, frzV, sv_i, sv_b, sv_s, sv_0, sv_l, sv_t, sv_d, sv_n, List.map, List.length, List.replicate, List.cons_append, List.nil_append, Nat.sub_self, biD, isD_1, boolD_b, cmpD, relD_i, opD, addD_i, addD_l, subD_i, intD_i, lenD_l, lenD_t, listD_l, listD_t, tupleD_l, int2D_i, absD_i, toIntD_i, toIntD_b, eqD_i, eqD_b, eqD_s, rngD_1, rngD_2, seqD_l, seqD_t, lstD_l, ixX_l, ixX_t, negX_i, slX_l, rvX_l, repX_i, intX_i, ixD_0, ixD_1, ixD_2, true_and, and_true, ite_self, wI, wipeG, backG]
      refine ⟨by rw [List.length_map]; omega, by rw [List.length_map, List.length_range, List.length_map]; unfold big; omega, ?_⟩
      rw [List.length_map]
      refine cLoop_pure (g := fallG ns) _ [] ?_ ?_
      · intro y hy k' hk
        obtain ⟨i, hi, rfl⟩ := List.mem_map.mp hy
        rw [List.mem_range] at hi
        unfold tr_law_rising_c1
        simp only [bindT, wSs, wS, w1, wT, wE, wA, wX, wV, wP, wC, opn, rdO_d, rdO_o, asD_d, asD_n, KQY, entry, look, put, slotV, argsOk, frzA, frzV, sv_i, sv_b, sv_s, sv_0, sv_l, sv_t, sv_d, sv_n, List.map, List.length, List.replicate, List.cons_append, List.nil_append, Nat.sub_self, biD, isD_1, boolD_b, cmpD, relD_i, opD, addD_i, addD_l, subD_i, intD_i, lenD_l, lenD_t, listD_l, listD_t, tupleD_l, int2D_i, absD_i, toIntD_i, toIntD_b, eqD_i, eqD_b, eqD_s, rngD_1, rngD_2, seqD_l, seqD_t, lstD_l, ixX_l, ixX_t, negX_i, slX_l, rvX_l, repX_i, intX_i, ixD_0, ixD_1, ixD_2, true_and, and_true, ite_self]
        rw [ixD_nat (j := i) (by omega) (by rw [List.getElem?_map, List.getElem?_eq_getElem (by omega)]; rfl), ixD_nat (j := i + 1) (by omega) (by rw [List.getElem?_map, List.getElem?_eq_getElem (by omega)]; rfl)]
        simp only [wSs, wS, w1, wT, wE, wA, wX, wV, wP, wC, opn, rdO_d, rdO_o, asD_d, asD_n, KQY, entry, look, put, slotV, argsOk, frzA, frzV, sv_i, sv_b, sv_s, sv_0, sv_l, sv_t, sv_d, sv_n, List.map, List.length, List.replicate, List.cons_append, List.nil_append, Nat.sub_self, biD, isD_1, boolD_b, cmpD, relD_i, opD, addD_i, addD_l, subD_i, intD_i, lenD_l, lenD_t, listD_l, listD_t, tupleD_l, int2D_i, absD_i, toIntD_i, toIntD_b, eqD_i, eqD_b, eqD_s, rngD_1, rngD_2, seqD_l, seqD_t, lstD_l, ixX_l, ixX_t, negX_i, slX_l, rvX_l, repX_i, intX_i, ixD_0, ixD_1, ixD_2, true_and, and_true, ite_self]
        have hk2 : k' (if ns.getD (1 + (i : Int)).toNat 0 ≤ ns.getD (1 + (i : Int) - 1).toNat 0 then some (.int (1 + (i : Nat))) else none) _ _ := hk
        have e1 : (1 + (i : Int)).toNat = i + 1 := by omega
        have e2 : (1 + (i : Int) - 1).toNat = i := by omega
        rw [e1, e2, List.getD_eq_getElem?_getD, List.getD_eq_getElem?_getD, List.getElem?_eq_getElem (by omega), List.getElem?_eq_getElem (by omega)] at hk2
        dsimp only [Option.getD] at hk2
        by_cases hc : ns[i + 1] ≤ ns[i]
        · rw [if_pos hc] at hk2
          simp only [hc, decide_true, if_true]
          exact hk2
        · rw [if_neg hc] at hk2
          simp only [hc, decide_false, Bool.false_eq_true, if_false]
          exact hk2
      · rw [List.nil_append]
        simp only [eqD_nil]
        refine ⟨by unfold big; decide, ?_⟩
        refine qb h ?_
        rw [risD_ints, fall_iff]
        exact ⟨fun hh => hh.2, fun hh => ⟨hb, hh⟩⟩
    · rintro y hy Γ s K' ⟨x2, rfl⟩ hrt hex hnx
      unfold tr_law_rising_b1
      have fin : inR b y = false → K'.rt (.dat (.bool false)) s := fun hf => by
        rw [hrt]
        have e : risD (.list xs) b = false := by unfold risD; dsimp only; rw [all_false hy hf]; rfl
        rw [e] at h
        exact h
      have go := fun ht : inR b y = true => hnx ht _ s ⟨some (.dat y), rfl⟩
      cases y with
      | int i =>
        have hi : inR b (.int i) = (decide (0 ≤ i) && decide (i < b)) := rfl
        simp only [bindT, wSs, wS, w1, wT, wE, wA, wX, wV, wP, wC, opn, rdO_d, rdO_o, asD_d, asD_n, KQY, entry, look, put, slotV, argsOk, frzA, frzV, sv_i, sv_b, sv_s, sv_0, sv_l, sv_t, sv_d, sv_n, List.map, List.length, List.replicate, List.cons_append, List.nil_append, Nat.sub_self, biD, isD_1, boolD_b, cmpD, relD_i, opD, addD_i, addD_l, subD_i, intD_i, lenD_l, lenD_t, listD_l, listD_t, tupleD_l, int2D_i, absD_i, toIntD_i, toIntD_b, eqD_i, eqD_b, eqD_s, rngD_1, rngD_2, seqD_l, seqD_t, lstD_l, ixX_l, ixX_t, negX_i, slX_l, rvX_l, repX_i, intX_i, ixD_0, ixD_1, ixD_2, true_and, and_true, ite_self, isIntD, isBoolD, Bool.not_true, Bool.false_eq_true, if_false]
        by_cases h0 : 0 ≤ i
        · by_cases h1 : i < b
          · simp only [h0, h1, decide_true, if_true, Bool.not_true, Bool.false_eq_true, if_false]
            exact go (by rw [hi]; simp [h0, h1])
          · simp only [h0, h1, decide_true, if_true, decide_false, Bool.not_false]
            exact fin (by rw [hi]; simp [h1])
        · simp only [h0, decide_false, Bool.false_eq_true, if_false, Bool.not_false, if_true]
          exact fin (by rw [hi]; simp [h0])
      | bool c =>
        simp only [bindT, wSs, wS, w1, wT, wE, wA, wX, wV, wP, wC, opn, rdO_d, rdO_o, asD_d, asD_n, KQY, entry, look, put, slotV, argsOk, frzA, frzV, sv_i, sv_b, sv_s, sv_0, sv_l, sv_t, sv_d, sv_n, List.map, List.length, List.replicate, List.cons_append, List.nil_append, Nat.sub_self, biD, isD_1, boolD_b, cmpD, relD_i, opD, addD_i, addD_l, subD_i, intD_i, lenD_l, lenD_t, listD_l, listD_t, tupleD_l, int2D_i, absD_i, toIntD_i, toIntD_b, eqD_i, eqD_b, eqD_s, rngD_1, rngD_2, seqD_l, seqD_t, lstD_l, ixX_l, ixX_t, negX_i, slX_l, rvX_l, repX_i, intX_i, ixD_0, ixD_1, ixD_2, true_and, and_true, ite_self, isIntD, isBoolD, Bool.not_true, Bool.false_eq_true, if_false, if_true]
        exact fin rfl
      | _ =>
        simp only [bindT, wSs, wS, w1, wT, wE, wA, wX, wV, wP, wC, opn, rdO_d, rdO_o, asD_d, asD_n, KQY, entry, look, put, slotV, argsOk, frzA, frzV, sv_i, sv_b, sv_s, sv_0, sv_l, sv_t, sv_d, sv_n, List.map, List.length, List.replicate, List.cons_append, List.nil_append, Nat.sub_self, biD, isD_1, boolD_b, cmpD, relD_i, opD, addD_i, addD_l, subD_i, intD_i, lenD_l, lenD_t, listD_l, listD_t, tupleD_l, int2D_i, absD_i, toIntD_i, toIntD_b, eqD_i, eqD_b, eqD_s, rngD_1, rngD_2, seqD_l, seqD_t, lstD_l, ixX_l, ixX_t, negX_i, slX_l, rvX_l, repX_i, intX_i, ixD_0, ixD_1, ixD_2, true_and, and_true, ite_self, isIntD, isBoolD, Bool.not_false, if_true]
        exact fin rfl
  | _ =>
    simp only [wSs, wS, w1, wT, wE, wA, wX, wV, wP, wC, opn, rdO_d, rdO_o, asD_d, asD_n, KQY, entry, look, put, slotV, argsOk, frzA, frzV, sv_i, sv_b, sv_s, sv_0, sv_l, sv_t, sv_d, sv_n, List.map, List.length, List.replicate, List.cons_append, List.nil_append, Nat.sub_self, biD, isD_1, boolD_b, cmpD, relD_i, opD, addD_i, addD_l, subD_i, intD_i, lenD_l, lenD_t, listD_l, listD_t, tupleD_l, int2D_i, absD_i, toIntD_i, toIntD_b, eqD_i, eqD_b, eqD_s, rngD_1, rngD_2, seqD_l, seqD_t, lstD_l, ixX_l, ixX_t, negX_i, slX_l, rvX_l, repX_i, intX_i, ixD_0, ixD_1, ixD_2, true_and, and_true, ite_self, isListD, Bool.not_false, if_true]
    exact h
def S_law_hits : Summ where
  run ds Q _ := ∃ n as d, ds = [ringD n as, d] ∧ RingOk n as ∧ bigL d ∧ Q (.dat (.bool (hitsD n as d)))
  mono := fun h1 _ ⟨n, as, d, e, ok, hl, q⟩ => ⟨n, as, d, e, ok, hl, h1 _ q⟩
theorem call_hits {n : Int} {as : List (Int × Int)} {d : D} {Q : Val → Prop} {Y : Nat → Prop} (ok : RingOk n as) (hl : bigL d) (h : Q (.dat (.bool (hitsD n as d)))) : S_law_hits.run [ringD n as, d] Q Y := ⟨n, as, d, rfl, ok, hl, h⟩
def tr_law_hits_c1 : Es Unit :=
  (.cons (.cmp .In (.var 3) (.var 1)) .nil)
def tr_law_hits_b1 : Sms Unit :=
  (.cons (.ite (.cmp .Eq (.comp [3] (.nm 3) (.seq (.call "_law_held" S_law_held (.cons (.ix (.var 0) (.int 0)) (.cons (.var 2) .nil)))) tr_law_hits_c1 (.var 3)) (.ls .nil))
    (.cons (.one (.ret (.bl false)))
    .nil)
    .nil)
    .nil)
def tr_law_hits : Sms Unit :=
  (.cons (.ite (.nt (.call "_law_rising" S_law_rising (.cons (.var 1) (.cons (.ix (.var 0) (.int 0)) .nil))))
    (.cons (.one (.ret (.bl false)))
    .nil)
    .nil)
    (.cons (.for (.nm 2) (.seq (.ix (.var 0) (.int 1)))
    tr_law_hits_b1)
    (.cons (.one (.ret (.bl true)))
    .nil)))

theorem w_law_hits : WOk S_law_hits 2 4 tr_law_hits := fun ds Q Y h => by
  obtain ⟨n, as, d, rfl, ok, hl, h⟩ := h
  refine ⟨rfl, ?_⟩
  have n1 := ok.n1
  have n40 := ok.n40
  unfold tr_law_hits
  simp only [wSs, wS, w1, wT, wE, wA, wX, wV, wP, wC, opn, rdO_d, rdO_o, asD_d, asD_n, KQY, entry, look, put, slotV, argsOk, frzA, frzV, sv_i, sv_b, sv_s, sv_0, sv_l, sv_t, sv_d, sv_n, List.map, List.length, List.replicate, List.cons_append, List.nil_append, Nat.sub_self, biD, isD_1, boolD_b, cmpD, relD_i, opD, addD_i, addD_l, subD_i, intD_i, lenD_l, lenD_t, listD_l, listD_t, tupleD_l, int2D_i, absD_i, toIntD_i, toIntD_b, eqD_i, eqD_b, eqD_s, rngD_1, rngD_2, seqD_l, seqD_t, lstD_l, ixX_l, ixX_t, negX_i, slX_l, rvX_l, repX_i, intX_i, ixD_0, ixD_1, ixD_2, true_and, and_true, ite_self, ringD, wJ]
  refine call_rising hl ?_
  cases hr : risD d n with
  | false =>
    simp only [if_true, wSs, wS, w1, wT, wE, wA, wX, wV, wP, wC, opn, rdO_d, rdO_o, asD_d, asD_n, KQY, entry, look, put, slotV, argsOk, frzA, frzV, sv_i, sv_b, sv_s, sv_0, sv_l, sv_t, sv_d, sv_n, List.map, List.length, List.replicate, List.cons_append, List.nil_append, Nat.sub_self, biD, isD_1, boolD_b, cmpD, relD_i, opD, addD_i, addD_l, subD_i, intD_i, lenD_l, lenD_t, listD_l, listD_t, tupleD_l, int2D_i, absD_i, toIntD_i, toIntD_b, eqD_i, eqD_b, eqD_s, rngD_1, rngD_2, seqD_l, seqD_t, lstD_l, ixX_l, ixX_t, negX_i, slX_l, rvX_l, repX_i, intX_i, ixD_0, ixD_1, ixD_2, true_and, and_true, ite_self, Bool.not_false]
    rw [hitsD_ris hr] at h
    exact h
  | true =>
    obtain ⟨ns, rfl, hb, hp⟩ := ris_ints hr
    rw [hitsD_ints, hr, Bool.true_and] at h
    have hlen := ris_len (by omega) hb hp
    simp only [if_true, wSs, wS, w1, wT, wE, wA, wX, wV, wP, wC, opn, rdO_d, rdO_o, asD_d, asD_n, KQY, entry, look, put, slotV, argsOk, frzA, frzV, sv_i, sv_b, sv_s, sv_0, sv_l, sv_t, sv_d, sv_n, List.map, List.length, List.replicate, List.cons_append, List.nil_append, Nat.sub_self, biD, isD_1, boolD_b, cmpD, relD_i, opD, addD_i, addD_l, subD_i, intD_i, lenD_l, lenD_t, listD_l, listD_t, tupleD_l, int2D_i, absD_i, toIntD_i, toIntD_b, eqD_i, eqD_b, eqD_s, rngD_1, rngD_2, seqD_l, seqD_t, lstD_l, ixX_l, ixX_t, negX_i, slX_l, rvX_l, repX_i, intX_i, ixD_0, ixD_1, ixD_2, true_and, and_true, ite_self, Bool.not_true, Bool.false_eq_true, if_false]
    refine ⟨by rw [List.length_map]; exact big20 ok.len, ?_⟩
    refine fLoop_findA (g := arcD) (p := fun a => ns.any (hld n a)) (xs := as) (I := fun Γ _ => ∃ x2 x3 : Option Val, Γ = [some (.dat (ringD n as)), some (.dat (.list (ns.map .int))), x2, x3]) ?_ ?_ ⟨_, _, rfl⟩
    · rintro ha Γ s ⟨x2, x3, rfl⟩
      have e : hitB n as ns = true := ha
      rw [e] at h
      exact h
    · rintro a ha Γ s K' ⟨x2, x3, rfl⟩ hrt hex hnx
      have oka := ok.arcs a ha
      unfold tr_law_hits_b1
      simp only [bindT, wSs, wS, w1, wT, wE, wA, wX, wV, wP, wC, opn, rdO_d, rdO_o, asD_d, asD_n, KQY, entry, look, put, slotV, argsOk, frzA, frzV, sv_i, sv_b, sv_s, sv_0, sv_l, sv_t, sv_d, sv_n, List.map, List.length, List.replicate, List.cons_append, List.nil_append, Nat.sub_self, biD, isD_1, boolD_b, cmpD, relD_i, opD, addD_i, addD_l, subD_i, intD_i, lenD_l, lenD_t, listD_l, listD_t, tupleD_l, int2D_i, absD_i, toIntD_i, toIntD_b, eqD_i, eqD_b, eqD_s, rngD_1, rngD_2, seqD_l, seqD_t, lstD_l, ixX_l, ixX_t, negX_i, slX_l, rvX_l, repX_i, intX_i, ixD_0, ixD_1, ixD_2, true_and, and_true, ite_self, wI, wipeG, backG, ringD, arcD]
      refine call_held oka n40 ?_
      simp only [Bool.false_eq_true, if_false, wSs, wS, w1, wT, wE, wA, wX, wV, wP, wC, opn, rdO_d, rdO_o, asD_d, asD_n, KQY, entry, look, put, slotV, argsOk, frzA, frzV, sv_i, sv_b, sv_s, sv_0, sv_l, sv_t, sv_d, sv_n, List.map, List.length, List.replicate, List.cons_append, List.nil_append, Nat.sub_self, biD, isD_1, boolD_b, cmpD, relD_i, opD, addD_i, addD_l, subD_i, intD_i, lenD_l, lenD_t, listD_l, listD_t, tupleD_l, int2D_i, absD_i, toIntD_i, toIntD_b, eqD_i, eqD_b, eqD_s, rngD_1, rngD_2, seqD_l, seqD_t, lstD_l, ixX_l, ixX_t, negX_i, slX_l, rvX_l, repX_i, intX_i, ixD_0, ixD_1, ixD_2, true_and, and_true, ite_self, List.length_map]
      refine ⟨by rw [plc_len]; have := oka.2.2.2; unfold big; omega, ?_⟩
      refine cLoop_mp (q := fun x => if decide (x ∈ ns) = true then some (.int x) else none) _ [] ?_ ?_
      · intro x hx k' hk
        unfold tr_law_hits_c1
        simp only [bindT, wSs, wS, w1, wT, wE, wA, wX, wV, wP, wC, opn, rdO_d, rdO_o, asD_d, asD_n, KQY, entry, look, put, slotV, argsOk, frzA, frzV, sv_i, sv_b, sv_s, sv_0, sv_l, sv_t, sv_d, sv_n, List.map, List.length, List.replicate, List.cons_append, List.nil_append, Nat.sub_self, biD, isD_1, boolD_b, cmpD, relD_i, opD, addD_i, addD_l, subD_i, intD_i, lenD_l, lenD_t, listD_l, listD_t, tupleD_l, int2D_i, absD_i, toIntD_i, toIntD_b, eqD_i, eqD_b, eqD_s, rngD_1, rngD_2, seqD_l, seqD_t, lstD_l, ixX_l, ixX_t, negX_i, slX_l, rvX_l, repX_i, intX_i, ixD_0, ixD_1, ixD_2, true_and, and_true, ite_self, memD_ints, Bool.false_eq_true, if_false]
        cases hc : decide (x ∈ ns) with
        | true =>
          rw [hc, if_pos rfl] at hk
          simp only [if_true]
          exact hk
        | false =>
          rw [hc, if_neg (by decide)] at hk
          simp only [Bool.false_eq_true, if_false]
          exact hk
      · rw [List.nil_append, fm_pick]
        simp only [eqD_nil, wSs, wS, w1, wT, wE, wA, wX, wV, wP, wC, opn, rdO_d, rdO_o, asD_d, asD_n, KQY, entry, look, put, slotV, argsOk, frzA, frzV, sv_i, sv_b, sv_s, sv_0, sv_l, sv_t, sv_d, sv_n, List.map, List.length, List.replicate, List.cons_append, List.nil_append, Nat.sub_self, biD, isD_1, boolD_b, cmpD, relD_i, opD, addD_i, addD_l, subD_i, intD_i, lenD_l, lenD_t, listD_l, listD_t, tupleD_l, int2D_i, absD_i, toIntD_i, toIntD_b, eqD_i, eqD_b, eqD_s, rngD_1, rngD_2, seqD_l, seqD_t, lstD_l, ixX_l, ixX_t, negX_i, slX_l, rvX_l, repX_i, intX_i, ixD_0, ixD_1, ixD_2, true_and, and_true, ite_self]
        refine ⟨by unfold big; decide, ?_⟩
        cases hc : ns.any (hld n a) with
        | true =>
          have e : (((plc n a).filter fun x => decide (x ∈ ns)).map PyData.int).isEmpty = false := by
            obtain ⟨x, hx, hh⟩ := List.any_eq_true.mp hc
            rw [Bool.eq_false_iff, ne_eq, List.isEmpty_iff, List.map_eq_nil_iff]
            intro e
            have : x ∈ (plc n a).filter fun x => decide (x ∈ ns) := List.mem_filter.mpr ⟨(mem_plc oka).mpr ⟨(hb x hx).1, (hb x hx).2, hh⟩, decide_eq_true hx⟩
            rw [e] at this
            cases this
          simp only [e, Bool.false_eq_true, if_false]
          exact hnx hc _ _ ⟨_, _, rfl⟩
        | false =>
          have e : (((plc n a).filter fun x => decide (x ∈ ns)).map PyData.int).isEmpty = true := by
            rw [List.isEmpty_iff, List.map_eq_nil_iff, List.filter_eq_nil_iff]
            intro x hx hm
            have hm := of_decide_eq_true hm
            have hh := ((mem_plc oka).mp hx).2.2
            rw [List.any_eq_false] at hc
            exact hc x hm hh
          simp only [e, if_true]
          rw [hrt]
          have e2 : hitB n as ns = false := all_false ha hc
          rw [e2] at h
          exact h
/-! ### how many with a place among them -/
def greC : Int → List (Int × Int) → Nat
  | _, [] => 0
  | last, p :: r => if last < p.2 then greC p.1 r + 1 else greC last r
theorem greC_ex : ∀ {ps : List (Int × Int)} {last : Int}, ps.Pairwise lexLe → (∀ p ∈ ps, p.2 ≤ p.1) → ∃ ds, IsD ((ps.filter fun p => decide (last < p.2)).map fun p => (p.2, p.1)) ds ∧ ds.length = greC last ps
  | [], _, _, _ => ⟨[], rfl, rfl⟩
  | p :: r, last, hs, hb => by
    rw [List.pairwise_cons] at hs
    have hb' := fun q (hq : q ∈ r) => hb q (List.mem_cons_of_mem _ hq)
    have hp := hb p List.mem_cons_self
    unfold greC
    by_cases hc : last < p.2
    · rw [if_pos hc, List.filter_cons, if_pos (decide_eq_true hc)]
      obtain ⟨ds, h1, h2⟩ := greC_ex (last := p.1) hs.2 hb'
      refine ⟨p.1 :: ds, ⟨⟨(p.2, p.1), by simp, rfl⟩, fun i hi => ?_, ?_⟩, by rw [List.length_cons, h2]⟩
      · obtain ⟨q, hq, rfl⟩ := List.mem_map.mp hi
        rcases List.mem_cons.mp hq with rfl | hq
        · exact Int.le_refl _
        · rcases hs.1 q (List.mem_filter.mp hq).1 with h | h
          · exact Int.le_of_lt h
          · exact Int.le_of_eq h.1
      · have e : (((p :: r.filter fun p => decide (last < p.2)).map fun p : Int × Int => (p.2, p.1)).filter fun i => decide (p.1 < i.1)) = (r.filter fun q => decide (p.1 < q.2)).map fun p => (p.2, p.1) := by
          rw [List.filter_map, List.filter_cons]
          have hn : ¬ ((fun i : Int × Int => decide (p.1 < i.1)) ∘ fun p : Int × Int => (p.2, p.1)) p = true := by simp; omega
          rw [if_neg hn, List.filter_filter]
          congr 1
          refine List.filter_congr fun q hq => ?_
          simp only [Function.comp]
          rw [Bool.eq_iff_iff, Bool.and_eq_true, decide_eq_true_eq, decide_eq_true_eq]
          omega
        rw [e]
        exact h1
    · rw [if_neg hc, List.filter_cons, if_neg (by simpa using hc)]
      exact greC_ex hs.2 hb'
def S_law_with : Summ where
  run ds Q _ := ∃ n as x, ds = [ringD n as, .int x] ∧ RingOk n as ∧ (0 ≤ x ∧ x < n) ∧ Q (.dat (.int ((wlk n as x).length : Nat)))
  mono := fun h1 _ ⟨n, as, d, e, ok, hl, q⟩ => ⟨n, as, d, e, ok, hl, h1 _ q⟩
theorem call_with {n x : Int} {as : List (Int × Int)} {Q : Val → Prop} {Y : Nat → Prop} (ok : RingOk n as) (hx : 0 ≤ x ∧ x < n) (h : Q (.dat (.int ((wlk n as x).length : Nat)))) : S_law_with.run [ringD n as, .int x] Q Y := ⟨n, as, x, rfl, ok, hx, h⟩
def swp (i : Int × Int) : Int × Int := (i.2, i.1)
theorem with_greC {n x : Int} {as : List (Int × Int)} {ps : List (Int × Int)} (ok : RingOk n as) (hp : ps.Perm ((ivs n as x).map swp)) (hs : ps.Pairwise lexLe) : 1 + greC 0 ps = (wlk n as x).length := by
  have hiv : ∀ i ∈ ivs n as x, 1 ≤ i.1 ∧ i.1 ≤ i.2 := fun i hi => by
    rw [ivs_left] at hi
    obtain ⟨k, hk, rfl⟩ := List.mem_map.mp hi
    have := left0_rng ok hk
    exact ⟨this.1, this.2.1⟩
  have hm : ∀ p, p ∈ ps ↔ (p.2, p.1) ∈ ivs n as x := fun p => by
    rw [hp.mem_iff, List.mem_map]
    constructor
    · rintro ⟨i, hi, rfl⟩; exact hi
    · intro h; exact ⟨_, h, rfl⟩
  obtain ⟨ds, h1, h2⟩ := greC_ex (last := 0) hs fun p hp => (hiv _ ((hm p).mp hp)).2
  obtain ⟨r, hr, e⟩ := wlk_ex (x := x) ok
  have e2 := IsD.same h1 (isD_walk hr) (Cov.sub fun i hi => by
    obtain ⟨p, hp, rfl⟩ := List.mem_map.mp hi
    exact (hm p).mp (List.mem_filter.mp hp).1) (Cov.sub fun i hi => List.mem_map.mpr ⟨(i.2, i.1), List.mem_filter.mpr ⟨(hm _).mpr hi, decide_eq_true (by have := hiv i hi; show 0 < i.1; omega)⟩, rfl⟩)
  rw [← h2, e2, e, List.length_map, List.length_cons, List.length_map]
  omega
def tr_law_with_b1 : Sms Unit :=
  (.cons (.ite (.cmp .NotIn (.var 1) (.call "_law_held" S_law_held (.cons (.var 2) (.cons (.var 5) .nil))))
    (.cons (.one (.asg 6 (.op .Mod (.op .Sub (.ix (.var 5) (.int 0)) (.var 1)) (.var 2))))
    (.cons (.one (.app 4 (.tp (.cons (.op .Sub (.op .Add (.var 6) (.ix (.var 5) (.int 1))) (.int 1)) (.cons (.var 6) .nil)))))
    .nil))
    .nil)
    .nil)
def tr_law_with_b2 : Sms Unit :=
  (.cons (.ite (.cmp .Gt (.var 6) (.var 8))
    (.cons (.one (.asg 7 (.op .Add (.var 7) (.int 1))))
    (.cons (.one (.asg 8 (.var 9)))
    .nil))
    .nil)
    .nil)
def tr_law_with : Sms Unit :=
  (.cons (.one (.asgT [2, 3] (.var 0)))
    (.cons (.one (.asg 4 (.ls .nil)))
    (.cons (.for (.nm 5) (.seq (.var 3))
    tr_law_with_b1)
    (.cons (.one (.asg 7 (.int 1)))
    (.cons (.one (.asg 8 (.int 0)))
    (.cons (.for (.tp [9, 6]) (.seq (.bi .sortP (.cons (.var 4) .nil)))
    tr_law_with_b2)
    (.cons (.one (.ret (.var 7)))
    .nil)))))))

theorem w_law_with : WOk S_law_with 2 10 tr_law_with := fun ds Q Y h => by
  obtain ⟨n, as, x, rfl, ok, hx, h⟩ := h
  refine ⟨rfl, ?_⟩
  have n1 := ok.n1
  have n40 := ok.n40
  have hlen := ok.len
  unfold tr_law_with
  simp only [wSs, wS, w1, wT, wE, wA, wX, wV, wP, wC, opn, rdO_d, rdO_o, asD_d, asD_n, KQY, entry, look, put, slotV, argsOk, frzA, frzV, sv_i, sv_b, sv_s, sv_0, sv_l, sv_t, sv_d, sv_n, List.map, List.length, List.replicate, List.cons_append, List.nil_append, Nat.sub_self, biD, isD_1, boolD_b, cmpD, relD_i, opD, addD_i, addD_l, subD_i, intD_i, lenD_l, lenD_t, listD_l, listD_t, tupleD_l, int2D_i, absD_i, toIntD_i, toIntD_b, eqD_i, eqD_b, eqD_s, rngD_1, rngD_2, seqD_l, seqD_t, lstD_l, ixX_l, ixX_t, negX_i, slX_l, rvX_l, repX_i, intX_i, ixD_0, ixD_1, ixD_2, true_and, and_true, ite_self, ringD, putAll, wJ]
  refine ⟨by unfold big; decide, by rw [List.length_map]; exact big20 ok.len, ?_⟩
  refine fLoop_mp (g := arcD) (fun done rest Γ _ => ∃ (x5 x6 : Option Val), Γ = [some (.dat (ringD n as)), some (.dat (.int x)), some (.dat (.int n)), some (.dat (.list (as.map arcD))), some (.own (((ivs n done x).map swp).map pairD)), x5, x6, none, none, none] ∧ done ++ rest = as) ?_ ?_ _ [] _ _ ⟨_, _, rfl, rfl⟩
  · rintro done Γ u ⟨x5, x6, rfl, hd⟩
    rw [List.append_nil] at hd
    subst hd
    simp only [wSs, wS, w1, wT, wE, wA, wX, wV, wP, wC, opn, rdO_d, rdO_o, asD_d, asD_n, KQY, entry, look, put, slotV, argsOk, frzA, frzV, sv_i, sv_b, sv_s, sv_0, sv_l, sv_t, sv_d, sv_n, List.map, List.length, List.replicate, List.cons_append, List.nil_append, Nat.sub_self, biD, isD_1, boolD_b, cmpD, relD_i, opD, addD_i, addD_l, subD_i, intD_i, lenD_l, lenD_t, listD_l, listD_t, tupleD_l, int2D_i, absD_i, toIntD_i, toIntD_b, eqD_i, eqD_b, eqD_s, rngD_1, rngD_2, seqD_l, seqD_t, lstD_l, ixX_l, ixX_t, negX_i, slX_l, rvX_l, repX_i, intX_i, ixD_0, ixD_1, ixD_2, true_and, and_true, ite_self, sortPD]
    refine ⟨_, pairsD_map _, fun ps p1 p2 => ?_⟩
    have hl : ps.length ≤ 20 := by
      rw [p1.length_eq, List.length_map]
      unfold ivs
      rw [List.length_map]
      exact Nat.le_trans (List.length_filter_le _ _) hlen
    have key := with_greC ok p1 p2
    refine ⟨by rw [List.length_map]; exact big20 hl, ?_⟩
    refine fLoop_mp (g := pairD) (fun _ rest Γ _ => ∃ (many last : Int) (x3 x4 x5 x6 x9 : Option Val), Γ = [some (.dat (ringD n done)), some (.dat (.int x)), some (.dat (.int n)), x3, x4, x5, x6, some (.dat (.int many)), some (.dat (.int last)), x9] ∧ many + greC last rest = (wlk n done x).length) ?_ ?_ _ [] _ _ ⟨1, 0, _, _, _, _, _, rfl, by omega⟩
    · rintro _ Γ u ⟨many, last, x3, x4, x5, x6, x9, rfl, hm⟩
      simp only [greC] at hm
      simp only [look]
      have e : many = ((wlk n done x).length : Nat) := by omega
      rw [e]
      exact h
    · rintro _ p r Γ u K' ⟨many, last, x3, x4, x5, x6, x9, rfl, hm⟩ hnx hct hbk hrt hex
      unfold tr_law_with_b2
      simp only [bindT, pairD, putAll, wSs, wS, w1, wT, wE, wA, wX, wV, wP, wC, opn, rdO_d, rdO_o, asD_d, asD_n, KQY, entry, look, put, slotV, argsOk, frzA, frzV, sv_i, sv_b, sv_s, sv_0, sv_l, sv_t, sv_d, sv_n, List.map, List.length, List.replicate, List.cons_append, List.nil_append, Nat.sub_self, biD, isD_1, boolD_b, cmpD, relD_i, opD, addD_i, addD_l, subD_i, intD_i, lenD_l, lenD_t, listD_l, listD_t, tupleD_l, int2D_i, absD_i, toIntD_i, toIntD_b, eqD_i, eqD_b, eqD_s, rngD_1, rngD_2, seqD_l, seqD_t, lstD_l, ixX_l, ixX_t, negX_i, slX_l, rvX_l, repX_i, intX_i, ixD_0, ixD_1, ixD_2, true_and, and_true, ite_self]
      unfold greC at hm
      by_cases hc : last < p.2
      · rw [if_pos hc] at hm
        simp only [hc, decide_true, if_true]
        exact hnx _ _ ⟨_, _, _, _, _, _, _, rfl, by omega⟩
      · rw [if_neg hc] at hm
        simp only [hc, decide_false, Bool.false_eq_true, if_false]
        exact hnx _ _ ⟨_, _, _, _, _, _, _, rfl, by omega⟩
  · rintro done a r Γ u K' ⟨x5, x6, rfl, hd⟩ hnx hct hbk hrt hex
    have ha : a ∈ as := by rw [← hd]; simp
    have oka := ok.arcs a ha
    unfold tr_law_with_b1
    simp only [bindT, arcD, wSs, wS, w1, wT, wE, wA, wX, wV, wP, wC, opn, rdO_d, rdO_o, asD_d, asD_n, KQY, entry, look, put, slotV, argsOk, frzA, frzV, sv_i, sv_b, sv_s, sv_0, sv_l, sv_t, sv_d, sv_n, List.map, List.length, List.replicate, List.cons_append, List.nil_append, Nat.sub_self, biD, isD_1, boolD_b, cmpD, relD_i, opD, addD_i, addD_l, subD_i, intD_i, lenD_l, lenD_t, listD_l, listD_t, tupleD_l, int2D_i, absD_i, toIntD_i, toIntD_b, eqD_i, eqD_b, eqD_s, rngD_1, rngD_2, seqD_l, seqD_t, lstD_l, ixX_l, ixX_t, negX_i, slX_l, rvX_l, repX_i, intX_i, ixD_0, ixD_1, ixD_2, true_and, and_true, ite_self]
    refine call_held oka n40 ?_
    simp only [Bool.false_eq_true, if_false, asD_n, memD_ints, wSs, wS, w1, wT, wE, wA, wX, wV, wP, wC, opn, rdO_d, rdO_o, asD_d, asD_n, KQY, entry, look, put, slotV, argsOk, frzA, frzV, sv_i, sv_b, sv_s, sv_0, sv_l, sv_t, sv_d, sv_n, List.map, List.length, List.replicate, List.cons_append, List.nil_append, Nat.sub_self, biD, isD_1, boolD_b, cmpD, relD_i, opD, addD_i, addD_l, subD_i, intD_i, lenD_l, lenD_t, listD_l, listD_t, tupleD_l, int2D_i, absD_i, toIntD_i, toIntD_b, eqD_i, eqD_b, eqD_s, rngD_1, rngD_2, seqD_l, seqD_t, lstD_l, ixX_l, ixX_t, negX_i, slX_l, rvX_l, repX_i, intX_i, ixD_0, ixD_1, ixD_2, true_and, and_true, ite_self]
    have hm : decide (x ∈ plc n a) = hld n a x := by
      rw [Bool.eq_iff_iff, decide_eq_true_eq, mem_plc oka]
      exact ⟨fun h => h.2.2, fun h => ⟨hx.1, hx.2, h⟩⟩
    simp only [if_true, hm]
    have hdl : done.length ≤ 20 := by
      have := congrArg List.length hd
      rw [List.length_append] at this
      omega
    have hil : (ivs n done x).length ≤ 20 := by
      unfold ivs
      rw [List.length_map]
      exact Nat.le_trans (List.length_filter_le _ _) hdl
    cases hc : hld n a x with
    | true =>
      simp only [Bool.not_true, Bool.false_eq_true, if_false]
      have e : ivs n (done ++ [a]) x = ivs n done x := by
        unfold ivs
        rw [List.filter_append, List.filter_cons, hc]
        simp
      exact hnx _ _ ⟨some (.dat (arcD a)), x6, by rw [e]; rfl, by rw [List.append_assoc]; exact hd⟩
    | false =>
      simp only [Bool.not_false, if_true, wSs, wS, w1, wT, wE, wA, wX, wV, wP, wC, opn, rdO_d, rdO_o, asD_d, asD_n, KQY, entry, look, put, slotV, argsOk, frzA, frzV, sv_i, sv_b, sv_s, sv_0, sv_l, sv_t, sv_d, sv_n, List.map, List.length, List.replicate, List.cons_append, List.nil_append, Nat.sub_self, biD, isD_1, boolD_b, cmpD, relD_i, opD, addD_i, addD_l, subD_i, intD_i, lenD_l, lenD_t, listD_l, listD_t, tupleD_l, int2D_i, absD_i, toIntD_i, toIntD_b, eqD_i, eqD_b, eqD_s, rngD_1, rngD_2, seqD_l, seqD_t, lstD_l, ixX_l, ixX_t, negX_i, slX_l, rvX_l, repX_i, intX_i, ixD_0, ixD_1, ixD_2, true_and, and_true, ite_self]
      refine ⟨by omega, by unfold big; decide, by rw [List.length_map, List.length_map]; unfold big; omega, ?_⟩
      have e : ivs n (done ++ [a]) x = ivs n done x ++ [ivOf n x a] := by
        unfold ivs
        rw [List.filter_append, List.filter_cons, hc]
        simp
      exact hnx _ _ ⟨some (.dat (arcD a)), some (.dat (.int ((a.1 - x) % n))), by rw [e, List.map_append, List.map_append]; rfl, by rw [List.append_assoc]; exact hd⟩
/-! ### the fewest -/
def S_law_fewest : Summ where
  run ds Q _ := ∃ n as, ds = [ringD n as] ∧ RingOk n as ∧ ∀ m : Nat, Few n as m → Q (.dat (.int (m : Nat)))
  mono := fun h1 _ ⟨n, as, e, ok, q⟩ => ⟨n, as, e, ok, fun m hm => h1 _ (q m hm)⟩
theorem call_fewest {n : Int} {as : List (Int × Int)} {Q : Val → Prop} {Y : Nat → Prop} (ok : RingOk n as) (h : ∀ m : Nat, Few n as m → Q (.dat (.int (m : Nat)))) : S_law_fewest.run [ringD n as] Q Y := ⟨n, as, rfl, ok, h⟩
def tr_law_fewest_e1 : E Unit :=
  (.ix (.var 2) (.int 1))
def tr_law_fewest_e2 : E Unit :=
  (.call "_law_with" S_law_with (.cons (.var 0) (.cons (.var 3) .nil)))
def tr_law_fewest : Sms Unit :=
  (.cons (.ite (.cmp .Eq (.ix (.var 0) (.int 1)) (.ls .nil))
    (.cons (.one (.ret (.int 0)))
    .nil)
    .nil)
    (.cons (.one (.asgL 1 (.comp [2] (.nm 2) (.seq (.ix (.var 0) (.int 1))) .nil tr_law_fewest_e1)))
    (.cons (.one (.asg 2 (.ix (.ix (.var 0) (.int 1)) (.mt .index (.var 1) (.cons (.bi .minL (.cons (.var 1) .nil)) .nil)))))
    (.cons (.one (.ret (.bi .minL (.cons (.comp [3] (.nm 3) (.seq (.call "_law_held" S_law_held (.cons (.ix (.var 0) (.int 0)) (.cons (.var 2) .nil)))) .nil tr_law_fewest_e2) .nil))))
    .nil))))

theorem w_law_fewest : WOk S_law_fewest 1 4 tr_law_fewest := fun ds Q Y h => by
  obtain ⟨n, as, rfl, ok, h⟩ := h
  refine ⟨rfl, ?_⟩
  have n1 := ok.n1
  have n40 := ok.n40
  unfold tr_law_fewest
  simp only [wSs, wS, w1, wT, wE, wA, wX, wV, wP, wC, opn, rdO_d, rdO_o, asD_d, asD_n, KQY, entry, look, put, slotV, argsOk, frzA, frzV, sv_i, sv_b, sv_s, sv_0, sv_l, sv_t, sv_d, sv_n, List.map, List.length, List.replicate, List.cons_append, List.nil_append, Nat.sub_self, biD, isD_1, boolD_b, cmpD, relD_i, opD, addD_i, addD_l, subD_i, intD_i, lenD_l, lenD_t, listD_l, listD_t, tupleD_l, int2D_i, absD_i, toIntD_i, toIntD_b, eqD_i, eqD_b, eqD_s, rngD_1, rngD_2, seqD_l, seqD_t, lstD_l, ixX_l, ixX_t, negX_i, slX_l, rvX_l, repX_i, intX_i, ixD_0, ixD_1, ixD_2, true_and, and_true, ite_self, ringD, eqD_nil]
  refine ⟨by unfold big; decide, ?_⟩
  by_cases he : as = []
  · subst he
    simp only [List.map_nil, List.isEmpty_nil, if_true]
    exact h 0 few_nil
  · have e1 : (as.map arcD).isEmpty = false := by simpa using he
    simp only [e1, Bool.false_eq_true, if_false, wSs, wS, w1, wT, wE, wA, wX, wV, wP, wC, opn, rdO_d, rdO_o, asD_d, asD_n, KQY, entry, look, put, slotV, argsOk, frzA, frzV, sv_i, sv_b, sv_s, sv_0, sv_l, sv_t, sv_d, sv_n, List.map, List.length, List.replicate, List.cons_append, List.nil_append, Nat.sub_self, biD, isD_1, boolD_b, cmpD, relD_i, opD, addD_i, addD_l, subD_i, intD_i, lenD_l, lenD_t, listD_l, listD_t, tupleD_l, int2D_i, absD_i, toIntD_i, toIntD_b, eqD_i, eqD_b, eqD_s, rngD_1, rngD_2, seqD_l, seqD_t, lstD_l, ixX_l, ixX_t, negX_i, slX_l, rvX_l, repX_i, intX_i, ixD_0, ixD_1, ixD_2, true_and, and_true, ite_self, wI, wipeG, backG]
    refine ⟨by rw [List.length_map]; exact big20 ok.len, ?_⟩
    refine cLoop_mp (q := fun a : Int × Int => some (.int a.2)) _ [] ?_ ?_
    · intro a ha k' hk
      unfold tr_law_fewest_e1
      simp only [bindT, arcD, wSs, wS, w1, wT, wE, wA, wX, wV, wP, wC, opn, rdO_d, rdO_o, asD_d, asD_n, KQY, entry, look, put, slotV, argsOk, frzA, frzV, sv_i, sv_b, sv_s, sv_0, sv_l, sv_t, sv_d, sv_n, List.map, List.length, List.replicate, List.cons_append, List.nil_append, Nat.sub_self, biD, isD_1, boolD_b, cmpD, relD_i, opD, addD_i, addD_l, subD_i, intD_i, lenD_l, lenD_t, listD_l, listD_t, tupleD_l, int2D_i, absD_i, toIntD_i, toIntD_b, eqD_i, eqD_b, eqD_s, rngD_1, rngD_2, seqD_l, seqD_t, lstD_l, ixX_l, ixX_t, negX_i, slX_l, rvX_l, repX_i, intX_i, ixD_0, ixD_1, ixD_2, true_and, and_true, ite_self, if_true]
      exact hk
    · rw [List.nil_append, fm_all]
      simp only [wSs, wS, w1, wT, wE, wA, wX, wV, wP, wC, opn, rdO_d, rdO_o, asD_d, asD_n, KQY, entry, look, put, slotV, argsOk, frzA, frzV, sv_i, sv_b, sv_s, sv_0, sv_l, sv_t, sv_d, sv_n, List.map, List.length, List.replicate, List.cons_append, List.nil_append, Nat.sub_self, biD, isD_1, boolD_b, cmpD, relD_i, opD, addD_i, addD_l, subD_i, intD_i, lenD_l, lenD_t, listD_l, listD_t, tupleD_l, int2D_i, absD_i, toIntD_i, toIntD_b, eqD_i, eqD_b, eqD_s, rngD_1, rngD_2, seqD_l, seqD_t, lstD_l, ixX_l, ixX_t, negX_i, slX_l, rvX_l, repX_i, intX_i, ixD_0, ixD_1, ixD_2, true_and, and_true, ite_self, wI, wipeG, backG]
      refine minL_mp he fun a ha _ => ?_
      simp only [wSs, wS, w1, wT, wE, wA, wX, wV, wP, wC, opn, rdO_d, rdO_o, asD_d, asD_n, KQY, entry, look, put, slotV, argsOk, frzA, frzV, sv_i, sv_b, sv_s, sv_0, sv_l, sv_t, sv_d, sv_n, List.map, List.length, List.replicate, List.cons_append, List.nil_append, Nat.sub_self, biD, isD_1, boolD_b, cmpD, relD_i, opD, addD_i, addD_l, subD_i, intD_i, lenD_l, lenD_t, listD_l, listD_t, tupleD_l, int2D_i, absD_i, toIntD_i, toIntD_b, eqD_i, eqD_b, eqD_s, rngD_1, rngD_2, seqD_l, seqD_t, lstD_l, ixX_l, ixX_t, negX_i, slX_l, rvX_l, repX_i, intX_i, ixD_0, ixD_1, ixD_2, true_and, and_true, ite_self]
      refine idx_mp ⟨a, ha, rfl⟩ fun i hi _ _ => ?_
      simp only [wSs, wS, w1, wT, wE, wA, wX, wV, wP, wC, opn, rdO_d, rdO_o, asD_d, asD_n, KQY, entry, look, put, slotV, argsOk, frzA, frzV, sv_i, sv_b, sv_s, sv_0, sv_l, sv_t, sv_d, sv_n, List.map, List.length, List.replicate, List.cons_append, List.nil_append, Nat.sub_self, biD, isD_1, boolD_b, cmpD, relD_i, opD, addD_i, addD_l, subD_i, intD_i, lenD_l, lenD_t, listD_l, listD_t, tupleD_l, int2D_i, absD_i, toIntD_i, toIntD_b, eqD_i, eqD_b, eqD_s, rngD_1, rngD_2, seqD_l, seqD_t, lstD_l, ixX_l, ixX_t, negX_i, slX_l, rvX_l, repX_i, intX_i, ixD_0, ixD_1, ixD_2, true_and, and_true, ite_self]
      rw [ixD_nat (j := i) rfl (arc_item hi)]
      have hb := List.getElem_mem hi
      generalize as[i] = b at hb
      have okb := ok.arcs b hb
      simp only [arcD, wSs, wS, w1, wT, wE, wA, wX, wV, wP, wC, opn, rdO_d, rdO_o, asD_d, asD_n, KQY, entry, look, put, slotV, argsOk, frzA, frzV, sv_i, sv_b, sv_s, sv_0, sv_l, sv_t, sv_d, sv_n, List.map, List.length, List.replicate, List.cons_append, List.nil_append, Nat.sub_self, biD, isD_1, boolD_b, cmpD, relD_i, opD, addD_i, addD_l, subD_i, intD_i, lenD_l, lenD_t, listD_l, listD_t, tupleD_l, int2D_i, absD_i, toIntD_i, toIntD_b, eqD_i, eqD_b, eqD_s, rngD_1, rngD_2, seqD_l, seqD_t, lstD_l, ixX_l, ixX_t, negX_i, slX_l, rvX_l, repX_i, intX_i, ixD_0, ixD_1, ixD_2, true_and, and_true, ite_self]
      refine call_held okb n40 ?_
      simp only [Bool.false_eq_true, if_false, wSs, wS, w1, wT, wE, wA, wX, wV, wP, wC, opn, rdO_d, rdO_o, asD_d, asD_n, KQY, entry, look, put, slotV, argsOk, frzA, frzV, sv_i, sv_b, sv_s, sv_0, sv_l, sv_t, sv_d, sv_n, List.map, List.length, List.replicate, List.cons_append, List.nil_append, Nat.sub_self, biD, isD_1, boolD_b, cmpD, relD_i, opD, addD_i, addD_l, subD_i, intD_i, lenD_l, lenD_t, listD_l, listD_t, tupleD_l, int2D_i, absD_i, toIntD_i, toIntD_b, eqD_i, eqD_b, eqD_s, rngD_1, rngD_2, seqD_l, seqD_t, lstD_l, ixX_l, ixX_t, negX_i, slX_l, rvX_l, repX_i, intX_i, ixD_0, ixD_1, ixD_2, true_and, and_true, ite_self, List.length_map]
      refine ⟨by rw [plc_len]; have := okb.2.2.2; unfold big; omega, ?_⟩
      refine cLoop_mp (q := fun x : Int => some (.int ((wlk n as x).length : Nat))) _ [] ?_ ?_
      · intro x hx k' hk
        have hx' := (mem_plc okb).mp hx
        unfold tr_law_fewest_e2
        simp only [bindT, wSs, wS, w1, wT, wE, wA, wX, wV, wP, wC, opn, rdO_d, rdO_o, asD_d, asD_n, KQY, entry, look, put, slotV, argsOk, frzA, frzV, sv_i, sv_b, sv_s, sv_0, sv_l, sv_t, sv_d, sv_n, List.map, List.length, List.replicate, List.cons_append, List.nil_append, Nat.sub_self, biD, isD_1, boolD_b, cmpD, relD_i, opD, addD_i, addD_l, subD_i, intD_i, lenD_l, lenD_t, listD_l, listD_t, tupleD_l, int2D_i, absD_i, toIntD_i, toIntD_b, eqD_i, eqD_b, eqD_s, rngD_1, rngD_2, seqD_l, seqD_t, lstD_l, ixX_l, ixX_t, negX_i, slX_l, rvX_l, repX_i, intX_i, ixD_0, ixD_1, ixD_2, true_and, and_true, ite_self, if_true]
        refine call_with ok ⟨hx'.1, hx'.2.1⟩ ?_
        simp only [if_true, wSs, wS, w1, wT, wE, wA, wX, wV, wP, wC, opn, rdO_d, rdO_o, asD_d, asD_n, KQY, entry, look, put, slotV, argsOk, frzA, frzV, sv_i, sv_b, sv_s, sv_0, sv_l, sv_t, sv_d, sv_n, List.map, List.length, List.replicate, List.cons_append, List.nil_append, Nat.sub_self, biD, isD_1, boolD_b, cmpD, relD_i, opD, addD_i, addD_l, subD_i, intD_i, lenD_l, lenD_t, listD_l, listD_t, tupleD_l, int2D_i, absD_i, toIntD_i, toIntD_b, eqD_i, eqD_b, eqD_s, rngD_1, rngD_2, seqD_l, seqD_t, lstD_l, ixX_l, ixX_t, negX_i, slX_l, rvX_l, repX_i, intX_i, ixD_0, ixD_1, ixD_2, true_and, and_true, ite_self]
        exact hk
      · rw [List.nil_append, fm_all]
        refine minL_mp (plc_ne okb) fun x hx hmin => h _ (few_of ok hb ⟨x, hx, ?_⟩ fun y hy r hr => ?_)
        · obtain ⟨r, hr, e⟩ := wlk_ex (x := x) ok
          exact ⟨r, hr, by rw [e, List.length_cons, List.length_map]⟩
        · have := hmin y hy
          rw [← wlk_eq hr, List.length_cons, List.length_map] at this
          omega
end Ac
namespace Ac
open PySem PySem.Spec PyProof.Rows L2
/-- a row of places -/
structure RowP (r : List Int) : Prop where
  len : r.length ≤ 40
  num : ∀ m ∈ r, 0 ≤ m ∧ m < 40
structure Th (d : D) : Prop where
  rk : Rk 3 30000 d
  sh : shortL d
def AllK (xs : List D) : Prop := ∀ x ∈ xs, Rk 1 200 x
theorem AllK.app {xs ys : List D} (h : AllK xs) (h' : AllK ys) : AllK (xs ++ ys) := fun x hx => (List.mem_append.mp hx).elim (h x) (h' x)
theorem AllK.one {x : D} (h : Rk 1 200 x) : AllK [x] := fun y hy => by rw [List.mem_singleton.mp hy]; exact h
theorem AllK.ints {ns : List Int} (h : ∀ m ∈ ns, 0 ≤ m ∧ m < 40) : AllK (ns.map .int) := fun x hx => by
  obtain ⟨m, hm, rfl⟩ := List.mem_map.mp hx
  have := h m hm
  exact (rkI (by omega)).up
theorem Th.list {xs : List D} (h : AllK xs) (hl : xs.length ≤ 140) : Th (.list xs) := ⟨(Rk.list' h hl (w' := 30000) (by decide)).up, fun ys e => by cases e; omega⟩
theorem Th.tuple {xs : List D} (h : AllK xs) (hl : xs.length ≤ 140) : Th (.tuple xs) := ⟨(Rk.tuple' h hl (w' := 30000) (by decide)).up, fun ys e => nomatch e⟩
theorem Th.atom {d : D} (h : Rk 0 31 d) (hn : ∀ ys, d ≠ .list ys) : Th d := ⟨h.up, fun ys e => absurd e (hn ys)⟩
theorem Th.row {r : List Int} (h : RowP r) : Th (.list (r.map .int)) := Th.list (AllK.ints h.num) (by rw [List.length_map]; have := h.len; omega)
theorem cut_mem {xs : List D} {lo hi : Option Int} {x : D} (h : x ∈ cutD xs lo hi) : x ∈ xs := by
  unfold cutD at h
  exact List.mem_of_mem_drop (List.mem_of_mem_take h)
theorem cut_len {xs : List D} {lo hi : Option Int} : (cutD xs lo hi).length ≤ xs.length := by
  unfold cutD
  rw [List.length_take, List.length_drop]
  omega
theorem big_of_short {d : D} (h : shortL d) : bigL d := by
  cases d with
  | list xs => exact Nat.le_of_lt (Nat.lt_trans (h _ rfl) (by decide))
  | _ => trivial
theorem ixD_anyN {xs : List D} {i : Int} {k : D → Prop} (h0 : -(xs.length : Int) ≤ i) (h1 : i < xs.length) (h : ∀ x ∈ xs, k x) : ixD xs i k := by
  by_cases hi : 0 ≤ i
  · exact ixD_any hi h1 h
  · unfold ixD ixN
    rw [if_neg hi, if_pos h0]
    have hl : (i + (xs.length : Int)).toNat < xs.length := by omega
    show (match xs[(i + (xs.length : Int)).toNat]? with | some d => k d | none => False)
    rw [List.getElem?_eq_getElem hl]
    exact h _ (List.getElem_mem hl)
def S_law_greedy : Summ where
  run ds Q _ := ∃ (n : Int) (as : List (Int × Int)) (x : Int), ds = [ringD n as, .int x] ∧ RingOk n as ∧ (0 ≤ x ∧ x < n) ∧ ∀ ms : List Int, RowP ms → Q (.new (ms.map .int))
  mono := fun h1 _ ⟨n, as, x, e, ok, hx, q⟩ => ⟨n, as, x, e, ok, hx, fun ms h => h1 _ (q ms h)⟩
def tr_law_greedy_c1 : Es Unit :=
  (.cons (.cmp .In (.var 6) (.var 2)) .nil)
def tr_law_greedy_b1 : Sms Unit :=
  (.cons (.one (.asg 5 (.call "_law_held" S_law_held (.cons (.ix (.var 0) (.int 0)) (.cons (.tp (.cons (.var 3) (.cons (.var 4) .nil))) .nil)))))
    (.cons (.ite (.cmp .Eq (.comp [6] (.nm 6) (.seq (.var 5)) tr_law_greedy_c1 (.var 6)) (.ls .nil))
    (.cons (.one (.app 2 (.ix (.var 5) (.neg (.int 1)))))
    .nil)
    .nil)
    .nil))
def tr_law_greedy : Sms Unit :=
  (.cons (.one (.asg 2 (.ls (.cons (.var 1) .nil))))
    (.cons (.for (.tp [3, 4]) (.seq (.bi .sortP (.cons (.ix (.var 0) (.int 1)) .nil)))
    tr_law_greedy_b1)
    (.cons (.one (.ret (.bi .sorted (.cons (.var 2) .nil))))
    .nil)))

theorem arcD_pair {as : List (Int × Int)} : as.map arcD = as.map pairD := rfl
theorem w_law_greedy : WOk S_law_greedy 2 7 tr_law_greedy := fun ds Q Y h => by
  obtain ⟨n, as, x, rfl, ok, hx, h⟩ := h
  refine ⟨rfl, ?_⟩
  have n1 := ok.n1
  have n40 := ok.n40
  have hlen := ok.len
  unfold tr_law_greedy
  simp only [wSs, wS, w1, wT, wE, wA, wX, wV, wP, wC, opn, rdO_d, rdO_o, asD_d, asD_n, KQY, entry, look, put, slotV, argsOk, frzA, frzV, sv_i, sv_b, sv_s, sv_0, sv_l, sv_t, sv_d, sv_n, List.map, List.length, List.replicate, List.cons_append, List.nil_append, Nat.sub_self, biD, isD_1, boolD_b, cmpD, relD_i, opD, addD_i, addD_l, subD_i, intD_i, lenD_l, lenD_t, listD_l, listD_t, tupleD_l, int2D_i, absD_i, toIntD_i, toIntD_b, eqD_i, eqD_b, eqD_s, rngD_1, rngD_2, seqD_l, seqD_t, lstD_l, ixX_l, ixX_t, negX_i, slX_l, rvX_l, repX_i, intX_i, ixD_0, ixD_1, ixD_2, true_and, and_true, ite_self, ringD, ixR0, ixR1, wJ, sortPD]
  refine ⟨b200 (by decide), as, by rw [arcD_pair]; exact pairsD_map _, fun ps p1 p2 => ?_⟩
  try simp only [wSs, wS, w1, wT, wE, wA, wX, wV, wP, wC, opn, rdO_d, rdO_o, asD_d, asD_n, KQY, entry, look, put, slotV, argsOk, frzA, frzV, sv_i, sv_b, sv_s, sv_0, sv_l, sv_t, sv_d, sv_n, List.map, List.length, List.replicate, List.cons_append, List.nil_append, Nat.sub_self, biD, isD_1, boolD_b, cmpD, relD_i, opD, addD_i, addD_l, subD_i, intD_i, lenD_l, lenD_t, listD_l, listD_t, tupleD_l, int2D_i, absD_i, toIntD_i, toIntD_b, eqD_i, eqD_b, eqD_s, rngD_1, rngD_2, seqD_l, seqD_t, lstD_l, ixX_l, ixX_t, negX_i, slX_l, rvX_l, repX_i, intX_i, ixD_0, ixD_1, ixD_2, true_and, and_true, ite_self, Bool.false_eq_true, if_false, if_true, Bool.not_true, Bool.not_false, ixR0, ixR1, sv_r]
  have hpl : ps.length ≤ 20 := by rw [p1.length_eq]; exact hlen
  refine ⟨b200 (by rw [List.length_map]; omega), ?_⟩
  refine fLoop_mp (g := pairD) (fun done rest Γ _ => ∃ (S : List Int) (x3 x4 x5 : Option Val), Γ = [some (.dat (ringD n as)), some (.dat (.int x)), some (.own (S.map .int)), x3, x4, x5, none] ∧ S.length + rest.length ≤ 21 ∧ (∀ y ∈ S, 0 ≤ y ∧ y < n) ∧ ∀ a ∈ rest, arcOk n a) ?_ ?_ _ [] _ _ ⟨[x], _, _, _, rfl, by simp; omega, fun y hy => by rw [List.mem_singleton.mp hy]; exact hx, fun a ha => ok.arcs a (p1.mem_iff.mp ha)⟩
  · rintro done Γ u ⟨S, x3, x4, x5, rfl, hl, hS, _⟩
    simp only [wSs, wS, w1, wT, wE, wA, wX, wV, wP, wC, opn, rdO_d, rdO_o, asD_d, asD_n, KQY, entry, look, put, slotV, argsOk, frzA, frzV, sv_i, sv_b, sv_s, sv_0, sv_l, sv_t, sv_d, sv_n, List.map, List.length, List.replicate, List.cons_append, List.nil_append, Nat.sub_self, biD, isD_1, boolD_b, cmpD, relD_i, opD, addD_i, addD_l, subD_i, intD_i, lenD_l, lenD_t, listD_l, listD_t, tupleD_l, int2D_i, absD_i, toIntD_i, toIntD_b, eqD_i, eqD_b, eqD_s, rngD_1, rngD_2, seqD_l, seqD_t, lstD_l, ixX_l, ixX_t, negX_i, slX_l, rvX_l, repX_i, intX_i, ixD_0, ixD_1, ixD_2, true_and, and_true, ite_self, sortedD]
    rw [List.length_nil, Nat.add_zero] at hl
    refine ⟨S, intsD_map _, fun ns' hp _ => h ns' ⟨by rw [hp.length_eq]; omega, fun y hy => by have := hS y (hp.mem_iff.mp hy); omega⟩⟩
  · rintro done a r Γ u K' ⟨S, x3, x4, x5, rfl, hl, hS, ha⟩ hnx hct hbk hrt hex
    have oka := ha a List.mem_cons_self
    rw [List.length_cons] at hl
    unfold tr_law_greedy_b1
    simp only [bindT, pairD, putAll, wSs, wS, w1, wT, wE, wA, wX, wV, wP, wC, opn, rdO_d, rdO_o, asD_d, asD_n, KQY, entry, look, put, slotV, argsOk, frzA, frzV, sv_i, sv_b, sv_s, sv_0, sv_l, sv_t, sv_d, sv_n, List.map, List.length, List.replicate, List.cons_append, List.nil_append, Nat.sub_self, biD, isD_1, boolD_b, cmpD, relD_i, opD, addD_i, addD_l, subD_i, intD_i, lenD_l, lenD_t, listD_l, listD_t, tupleD_l, int2D_i, absD_i, toIntD_i, toIntD_b, eqD_i, eqD_b, eqD_s, rngD_1, rngD_2, seqD_l, seqD_t, lstD_l, ixX_l, ixX_t, negX_i, slX_l, rvX_l, repX_i, intX_i, ixD_0, ixD_1, ixD_2, true_and, and_true, ite_self, ringD, ixR0]
    refine ⟨b200 (by decide), call_held oka n40 ?_⟩
    simp only [wSs, wS, w1, wT, wE, wA, wX, wV, wP, wC, opn, rdO_d, rdO_o, asD_d, asD_n, KQY, entry, look, put, slotV, argsOk, frzA, frzV, sv_i, sv_b, sv_s, sv_0, sv_l, sv_t, sv_d, sv_n, List.map, List.length, List.replicate, List.cons_append, List.nil_append, Nat.sub_self, biD, isD_1, boolD_b, cmpD, relD_i, opD, addD_i, addD_l, subD_i, intD_i, lenD_l, lenD_t, listD_l, listD_t, tupleD_l, int2D_i, absD_i, toIntD_i, toIntD_b, eqD_i, eqD_b, eqD_s, rngD_1, rngD_2, seqD_l, seqD_t, lstD_l, ixX_l, ixX_t, negX_i, slX_l, rvX_l, repX_i, intX_i, ixD_0, ixD_1, ixD_2, true_and, and_true, ite_self, wI, wipeG, backG]
    have hpc : (plc n a).length = a.2.toNat := by unfold plc; rw [List.length_map, List.length_range]
    obtain ⟨o1, o2, o3, o4⟩ := oka
    refine ⟨b200 (by rw [List.length_map, hpc]; omega), ?_⟩
    refine cLoop_mp (g := PyData.int) (q := fun y => if decide (y ∈ S) = true then some (.int y) else none) _ [] ?_ ?_
    · intro y hy k' hk
      unfold tr_law_greedy_c1
      simp only [bindT, wSs, wS, w1, wT, wE, wA, wX, wV, wP, wC, opn, rdO_d, rdO_o, asD_d, asD_n, KQY, entry, look, put, slotV, argsOk, frzA, frzV, sv_i, sv_b, sv_s, sv_0, sv_l, sv_t, sv_d, sv_n, List.map, List.length, List.replicate, List.cons_append, List.nil_append, Nat.sub_self, biD, isD_1, boolD_b, cmpD, relD_i, opD, addD_i, addD_l, subD_i, intD_i, lenD_l, lenD_t, listD_l, listD_t, tupleD_l, int2D_i, absD_i, toIntD_i, toIntD_b, eqD_i, eqD_b, eqD_s, rngD_1, rngD_2, seqD_l, seqD_t, lstD_l, ixX_l, ixX_t, negX_i, slX_l, rvX_l, repX_i, intX_i, ixD_0, ixD_1, ixD_2, true_and, and_true, ite_self, memD_ints, Bool.false_eq_true, if_false]
      cases hc : decide (y ∈ S) with
      | true =>
        rw [hc, if_pos rfl] at hk
        try simp only [wSs, wS, w1, wT, wE, wA, wX, wV, wP, wC, opn, rdO_d, rdO_o, asD_d, asD_n, KQY, entry, look, put, slotV, argsOk, frzA, frzV, sv_i, sv_b, sv_s, sv_0, sv_l, sv_t, sv_d, sv_n, List.map, List.length, List.replicate, List.cons_append, List.nil_append, Nat.sub_self, biD, isD_1, boolD_b, cmpD, relD_i, opD, addD_i, addD_l, subD_i, intD_i, lenD_l, lenD_t, listD_l, listD_t, tupleD_l, int2D_i, absD_i, toIntD_i, toIntD_b, eqD_i, eqD_b, eqD_s, rngD_1, rngD_2, seqD_l, seqD_t, lstD_l, ixX_l, ixX_t, negX_i, slX_l, rvX_l, repX_i, intX_i, ixD_0, ixD_1, ixD_2, true_and, and_true, ite_self, Bool.false_eq_true, if_false, if_true, Bool.not_true, Bool.not_false, ixR0, ixR1, sv_r]
        exact hk
      | false =>
        rw [hc, if_neg (by decide)] at hk
        try simp only [wSs, wS, w1, wT, wE, wA, wX, wV, wP, wC, opn, rdO_d, rdO_o, asD_d, asD_n, KQY, entry, look, put, slotV, argsOk, frzA, frzV, sv_i, sv_b, sv_s, sv_0, sv_l, sv_t, sv_d, sv_n, List.map, List.length, List.replicate, List.cons_append, List.nil_append, Nat.sub_self, biD, isD_1, boolD_b, cmpD, relD_i, opD, addD_i, addD_l, subD_i, intD_i, lenD_l, lenD_t, listD_l, listD_t, tupleD_l, int2D_i, absD_i, toIntD_i, toIntD_b, eqD_i, eqD_b, eqD_s, rngD_1, rngD_2, seqD_l, seqD_t, lstD_l, ixX_l, ixX_t, negX_i, slX_l, rvX_l, repX_i, intX_i, ixD_0, ixD_1, ixD_2, true_and, and_true, ite_self, Bool.false_eq_true, if_false, if_true, Bool.not_true, Bool.not_false, ixR0, ixR1, sv_r]
        exact hk
    · rw [List.nil_append, fm_pick]
      try simp only [wSs, wS, w1, wT, wE, wA, wX, wV, wP, wC, opn, rdO_d, rdO_o, asD_d, asD_n, KQY, entry, look, put, slotV, argsOk, frzA, frzV, sv_i, sv_b, sv_s, sv_0, sv_l, sv_t, sv_d, sv_n, List.map, List.length, List.replicate, List.cons_append, List.nil_append, Nat.sub_self, biD, isD_1, boolD_b, cmpD, relD_i, opD, addD_i, addD_l, subD_i, intD_i, lenD_l, lenD_t, listD_l, listD_t, tupleD_l, int2D_i, absD_i, toIntD_i, toIntD_b, eqD_i, eqD_b, eqD_s, rngD_1, rngD_2, seqD_l, seqD_t, lstD_l, ixX_l, ixX_t, negX_i, slX_l, rvX_l, repX_i, intX_i, ixD_0, ixD_1, ixD_2, true_and, and_true, ite_self, Bool.false_eq_true, if_false, if_true, Bool.not_true, Bool.not_false, ixR0, ixR1, sv_r]
      simp only [eqD_nil]
      refine ⟨b200 (by decide), ?_⟩
      generalize List.isEmpty _ = b
      cases b with
      | false =>
        simp only [Bool.false_eq_true, if_false]
        exact hnx _ _ ⟨S, _, _, _, rfl, by omega, hS, fun b hb => ha b (List.mem_cons_of_mem _ hb)⟩
      | true =>
        simp only [if_true, wSs, wS, w1, wT, wE, wA, wX, wV, wP, wC, opn, rdO_d, rdO_o, asD_d, asD_n, KQY, entry, look, put, slotV, argsOk, frzA, frzV, sv_i, sv_b, sv_s, sv_0, sv_l, sv_t, sv_d, sv_n, List.map, List.length, List.replicate, List.cons_append, List.nil_append, Nat.sub_self, biD, isD_1, boolD_b, cmpD, relD_i, opD, addD_i, addD_l, subD_i, intD_i, lenD_l, lenD_t, listD_l, listD_t, tupleD_l, int2D_i, absD_i, toIntD_i, toIntD_b, eqD_i, eqD_b, eqD_s, rngD_1, rngD_2, seqD_l, seqD_t, lstD_l, ixX_l, ixX_t, negX_i, slX_l, rvX_l, repX_i, intX_i, ixD_0, ixD_1, ixD_2, true_and, and_true, ite_self]
        refine ixD_anyN (by rw [List.length_map, hpc]; omega) (by rw [List.length_map, hpc]; omega) fun z hz => ?_
        obtain ⟨p, hp, rfl⟩ := List.mem_map.mp hz
        have hpp := (mem_plc ⟨o1, o2, o3, o4⟩).mp hp
        try simp only [wSs, wS, w1, wT, wE, wA, wX, wV, wP, wC, opn, rdO_d, rdO_o, asD_d, asD_n, KQY, entry, look, put, slotV, argsOk, frzA, frzV, sv_i, sv_b, sv_s, sv_0, sv_l, sv_t, sv_d, sv_n, List.map, List.length, List.replicate, List.cons_append, List.nil_append, Nat.sub_self, biD, isD_1, boolD_b, cmpD, relD_i, opD, addD_i, addD_l, subD_i, intD_i, lenD_l, lenD_t, listD_l, listD_t, tupleD_l, int2D_i, absD_i, toIntD_i, toIntD_b, eqD_i, eqD_b, eqD_s, rngD_1, rngD_2, seqD_l, seqD_t, lstD_l, ixX_l, ixX_t, negX_i, slX_l, rvX_l, repX_i, intX_i, ixD_0, ixD_1, ixD_2, true_and, and_true, ite_self, Bool.false_eq_true, if_false, if_true, Bool.not_true, Bool.not_false, ixR0, ixR1, sv_r]
        refine ⟨by rw [List.length_map]; unfold big; omega, hnx _ _ ⟨S ++ [p], _, _, _, by rw [List.map_append]; rfl, by rw [List.length_append, List.length_singleton]; omega, fun y hy => ?_, fun b hb => ha b (List.mem_cons_of_mem _ hb)⟩⟩
        rcases List.mem_append.mp hy with hy | hy
        · exact hS y hy
        · rw [List.mem_singleton.mp hy]; exact ⟨hpp.1, hpp.2.1⟩
def E_law_spoilt : ESumm Unit where
  run vs s Q Y := ∃ (row : List Int) (n : Int), vs = [.hdl 1, .dat (.list (row.map .int)), .dat (.int n)] ∧ RowP row ∧ (1 ≤ n ∧ n ≤ 40) ∧ ∀ L : List D, L.length ≤ 20 → (∀ d ∈ L, Th d) → Q (.new L) ()
  mono := fun h1 _ ⟨g, b, e, hl, hb, q⟩ => ⟨g, b, e, hl, hb, fun L h h' => h1 _ _ (q L h h')⟩
def tr_law_spoilt_r1 : Sms Unit :=
  (.cons (.one (.ret (.op .Add (.var 8) (.ls (.cons (.op .Add (.ls (.cons (.bl true) .nil)) (.var 1)) (.cons (.bi .tuple (.cons (.var 1) .nil)) (.cons (.ls (.cons (.var 1) .nil)) .nil)))))))
    .nil)
def tr_law_spoilt_r2 : Sms Unit :=
  (.cons (.one (.asg 8 (.op .Add (.var 8) (.ls (.cons (.op .Add (.var 1) (.sl (.var 1) (.cons (.neg (.int 1)) .nil) .nil)) (.cons (.rv (.var 1)) (.cons (.op .Add (.op .Add (.var 6) (.ls (.cons (.var 4) .nil))) (.var 7)) .nil)))))))
    tr_law_spoilt_r1)
def tr_law_spoilt_r3 : Sms Unit :=
  (.cons (.one (.asg 8 (.op .Add (.var 8) (.ls (.cons (.op .Add (.op .Add (.var 6) (.ls (.cons (.var 4) .nil))) (.sl (.var 1) (.cons (.var 3) .nil) .nil)) (.cons (.srtS (.op .Add (.var 1) (.ls (.cons (.var 4) .nil)))) .nil))))))
    tr_law_spoilt_r2)
def tr_law_spoilt_r4 : Sms Unit :=
  (.cons (.one (.asg 8 (.ls (.cons (.op .Add (.var 6) (.var 7)) (.cons (.op .Add (.op .Add (.var 6) (.ls (.cons (.var 5) .nil))) (.var 7)) (.cons (.op .Add (.op .Add (.var 6) (.ls (.cons (.var 5) .nil))) (.sl (.var 1) (.cons (.var 3) .nil) .nil)) .nil))))))
    tr_law_spoilt_r3)
def tr_law_spoilt_r5 : Sms Unit :=
  (.cons (.one (.asg 7 (.sl (.var 1) (.cons (.op .Add (.var 3) (.int 1)) .nil) .nil)))
    tr_law_spoilt_r4)
def tr_law_spoilt_r6 : Sms Unit :=
  (.cons (.one (.asg 6 (.sl (.var 1) .nil (.cons (.var 3) .nil))))
    tr_law_spoilt_r5)
def tr_law_spoilt_r7 : Sms Unit :=
  (.cons (.one (.asg 5 (.ix (.var 5) (.calE "_law_take" E_law_take (.cons (.var 0) (.cons (.int 12) .nil))))))
    tr_law_spoilt_r6)
def tr_law_spoilt_r8 : Sms Unit :=
  (.cons (.one (.asg 5 (.ls (.cons (.var 2) (.cons (.neg (.int 1)) (.cons (.bl true) (.cons (.bl false) (.cons .non (.cons (.str "0") (.cons (.ls (.cons (.var 4) .nil)) (.cons (.tp (.cons (.var 4) .nil)) (.cons (.op .Pow (.int 10) (.int 25)) (.cons (.op .Sub (.var 4) (.var 2)) (.cons (.op .Add (.var 2) (.var 4)) (.cons .d0 .nil)))))))))))))))
    tr_law_spoilt_r7)
def tr_law_spoilt_r9 : Sms Unit :=
  (.cons (.one (.asg 4 (.calE "_law_take" E_law_take (.cons (.var 0) (.cons (.var 2) .nil)))))
    tr_law_spoilt_r8)
def tr_law_spoilt : Sms Unit :=
  (.cons (.one (.asg 3 (.calE "_law_take" E_law_take (.cons (.var 0) (.cons (.op .Add (.bi .len (.cons (.var 1) .nil)) (.int 1)) .nil)))))
    tr_law_spoilt_r9)

section
variable {n x at' : Int} {row : List Int} {odd : D} {L A B : List D} {Q : Val → Unit → Prop} {Y : Nat → Unit → Prop} {u : Unit}
abbrev GS (n x at' : Int) (row : List Int) (odd : D) (A B : List D) (x8 : Option Val) : Ctx := [some (.hdl 1), some (.dat (.list (row.map .int))), some (.dat (.int n)), some (.dat (.int at')), some (.dat (.int x)), some (.dat odd), some (.own A), some (.own B), x8]
theorem sp_r1 (hr : RowP row) (hL : L.length ≤ 8) (hT : ∀ d ∈ L, Th d) (h : ∀ L : List D, L.length ≤ 20 → (∀ d ∈ L, Th d) → Q (.new L) ()) : wSs tr_law_spoilt_r1 (GS n x at' row odd A B (some (.own L))) u (KE2 Q Y) := by
  have hG := AllK.ints hr.num
  have hGl : (row.map PyData.int).length ≤ 40 := by rw [List.length_map]; exact hr.len
  unfold tr_law_spoilt_r1
  unfold GS
  generalize row.map PyData.int = R at hG hGl
  simp only [wSs, wS, w1, wT, wE, wA, wX, wV, wP, wC, opn, rdO_d, rdO_o, asD_d, asD_n, KQY, entry, look, put, slotV, argsOk, frzA, frzV, sv_i, sv_b, sv_s, sv_0, sv_l, sv_t, sv_d, sv_n, List.map, List.length, List.replicate, List.cons_append, List.nil_append, Nat.sub_self, biD, isD_1, boolD_b, cmpD, relD_i, opD, addD_i, addD_l, subD_i, intD_i, lenD_l, lenD_t, listD_l, listD_t, tupleD_l, int2D_i, absD_i, toIntD_i, toIntD_b, eqD_i, eqD_b, eqD_s, rngD_1, rngD_2, seqD_l, seqD_t, lstD_l, ixX_l, ixX_t, negX_i, slX_l, rvX_l, repX_i, intX_i, ixD_0, ixD_1, ixD_2, true_and, and_true, ite_self, KE2]
  repeat first | refine ⟨b200 (by decide), ?_⟩ | refine ⟨b200 (by omega), ?_⟩ | refine ⟨b200 (by simp only [List.length_append, List.length_cons, List.length_nil]; omega), ?_⟩
  refine h _ (by simp only [List.length_append, List.length_cons, List.length_nil]; omega) fun d hd => ?_
  rcases List.mem_append.mp hd with hd | hd
  · exact hT d hd
  · simp only [List.mem_cons, List.not_mem_nil, or_false] at hd
    rcases hd with rfl | rfl | rfl
    · exact Th.list ((AllK.one Rk.bool.up).app hG) (by simp; omega)
    · exact Th.tuple hG (by omega)
    · refine ⟨(Rk.list' (k := 2) (w := 9000) (m := 1) (w' := 30000) (fun z hz => by rw [List.mem_singleton.mp hz]; exact (Rk.list' hG hGl (w' := 9000) (by decide))) (by simp) (by decide)), fun ys e => by cases e; simp⟩
theorem sp_r2 (hn : 1 ≤ n ∧ n ≤ 40) (hx : 0 ≤ x ∧ x < n) (hr : RowP row) (hA : AllK A) (hAl : A.length ≤ 40) (hB : AllK B) (hBl : B.length ≤ 40) (hL : L.length = 5) (hT : ∀ d ∈ L, Th d) (h : ∀ L : List D, L.length ≤ 20 → (∀ d ∈ L, Th d) → Q (.new L) ()) : wSs tr_law_spoilt_r2 (GS n x at' row odd A B (some (.own L))) u (KE2 Q Y) := by
  have hG := AllK.ints hr.num
  have hGl : (row.map PyData.int).length ≤ 40 := by rw [List.length_map]; exact hr.len
  have go := fun L hL hT => sp_r1 (n := n) (x := x) (at' := at') (row := row) (odd := odd) (A := A) (B := B) (L := L) (Q := Q) (Y := Y) (u := ()) hr hL hT h
  have hX : Rk 1 200 (.int x) := (rkI (by omega)).up
  unfold tr_law_spoilt_r2
  generalize tr_law_spoilt_r1 = r1 at go
  unfold GS at go ⊢
  generalize row.map PyData.int = R at hG hGl go
  have cE := Nat.le_trans (cut_len (xs := R) (lo := some (-1)) (hi := none)) hGl
  have rE : AllK (cutD R (some (-1)) none) := fun y hy => hG y (cut_mem hy)
  simp only [wSs, wS, w1, wT, wE, wA, wX, wV, wP, wC, opn, rdO_d, rdO_o, asD_d, asD_n, KQY, entry, look, put, slotV, argsOk, frzA, frzV, sv_i, sv_b, sv_s, sv_0, sv_l, sv_t, sv_d, sv_n, List.map, List.length, List.replicate, List.cons_append, List.nil_append, Nat.sub_self, biD, isD_1, boolD_b, cmpD, relD_i, opD, addD_i, addD_l, subD_i, intD_i, lenD_l, lenD_t, listD_l, listD_t, tupleD_l, int2D_i, absD_i, toIntD_i, toIntD_b, eqD_i, eqD_b, eqD_s, rngD_1, rngD_2, seqD_l, seqD_t, lstD_l, ixX_l, ixX_t, negX_i, slX_l, rvX_l, repX_i, intX_i, ixD_0, ixD_1, ixD_2, true_and, and_true, ite_self, KE2]
  generalize cutD R (some (-1)) none = E' at cE rE
  repeat first | refine ⟨b200 (by decide), ?_⟩ | refine ⟨b200 (by omega), ?_⟩ | refine ⟨b200 (by simp only [List.length_append, List.length_cons, List.length_nil]; omega), ?_⟩
  refine go _ (by simp only [List.length_append, List.length_cons, List.length_nil]; omega) fun d hd => ?_
  have hrev : AllK R.reverse := fun y hy => hG y (List.mem_reverse.mp hy)
  rcases List.mem_append.mp hd with hd | hd
  · exact hT d hd
  · simp only [List.mem_cons, List.not_mem_nil, or_false] at hd
    rcases hd with rfl | rfl | rfl
    · exact Th.list (hG.app rE) (by simp; omega)
    · exact Th.list hrev (by simp; omega)
    · exact Th.list ((hA.app (.one hX)).app hB) (by simp; omega)
theorem sp_r4 {x8 : Option Val} (hn : 1 ≤ n ∧ n ≤ 40) (hx : 0 ≤ x ∧ x < n) (hr : RowP row) (ho : Rk 1 200 odd) (hA : AllK A) (hAl : A.length ≤ 40) (hB : AllK B) (hBl : B.length ≤ 40) (h : ∀ L : List D, L.length ≤ 20 → (∀ d ∈ L, Th d) → Q (.new L) ()) : wSs tr_law_spoilt_r4 (GS n x at' row odd A B x8) u (KE2 Q Y) := by
  have hG := AllK.ints hr.num
  have hGl : (row.map PyData.int).length ≤ 40 := by rw [List.length_map]; exact hr.len
  have hX : Rk 1 200 (.int x) := (rkI (by omega)).up
  have go := fun L hL hT => sp_r2 (n := n) (x := x) (at' := at') (row := row) (odd := odd) (A := A) (B := B) (L := L) (Q := Q) (Y := Y) (u := ()) hn hx hr hA hAl hB hBl hL hT h
  have cC := Nat.le_trans (cut_len (xs := row.map PyData.int) (lo := some at') (hi := none)) hGl
  have rC : AllK (cutD (row.map PyData.int) (some at') none) := fun y hy => hG y (cut_mem hy)
  unfold tr_law_spoilt_r4
  unfold GS at go ⊢
  simp only [wSs, wS, w1, wT, wE, wA, wX, wV, wP, wC, opn, rdO_d, rdO_o, asD_d, asD_n, KQY, entry, look, put, slotV, argsOk, frzA, frzV, sv_i, sv_b, sv_s, sv_0, sv_l, sv_t, sv_d, sv_n, List.map, List.length, List.replicate, List.cons_append, List.nil_append, Nat.sub_self, biD, isD_1, boolD_b, cmpD, relD_i, opD, addD_i, addD_l, subD_i, intD_i, lenD_l, lenD_t, listD_l, listD_t, tupleD_l, int2D_i, absD_i, toIntD_i, toIntD_b, eqD_i, eqD_b, eqD_s, rngD_1, rngD_2, seqD_l, seqD_t, lstD_l, ixX_l, ixX_t, negX_i, slX_l, rvX_l, repX_i, intX_i, ixD_0, ixD_1, ixD_2, true_and, and_true, ite_self, KE2]
  generalize hcc : cutD (row.map PyData.int) (some at') none = C at cC rC
  generalize hrr : tr_law_spoilt_r3 = r3
  repeat first | refine ⟨b200 (by decide), ?_⟩ | refine ⟨b200 (by omega), ?_⟩ | refine ⟨b200 (by simp only [List.length_append, List.length_cons, List.length_nil]; omega), ?_⟩
  rw [← hrr]
  unfold tr_law_spoilt_r3
  generalize tr_law_spoilt_r2 = r2 at go
  simp only [wSs, wS, w1, wT, wE, wA, wX, wV, wP, wC, opn, rdO_d, rdO_o, asD_d, asD_n, KQY, entry, look, put, slotV, argsOk, frzA, frzV, sv_i, sv_b, sv_s, sv_0, sv_l, sv_t, sv_d, sv_n, List.map, List.length, List.replicate, List.cons_append, List.nil_append, Nat.sub_self, biD, isD_1, boolD_b, cmpD, relD_i, opD, addD_i, addD_l, subD_i, intD_i, lenD_l, lenD_t, listD_l, listD_t, tupleD_l, int2D_i, absD_i, toIntD_i, toIntD_b, eqD_i, eqD_b, eqD_s, rngD_1, rngD_2, seqD_l, seqD_t, lstD_l, ixX_l, ixX_t, negX_i, slX_l, rvX_l, repX_i, intX_i, ixD_0, ixD_1, ixD_2, true_and, and_true, ite_self, hcc, srtSX]
  repeat first | refine ⟨b200 (by decide), ?_⟩ | refine ⟨b200 (by omega), ?_⟩ | refine ⟨b200 (by simp only [List.length_append, List.length_cons, List.length_nil]; omega), ?_⟩
  have ei : row.map PyData.int ++ [PyData.int x] = (row ++ [x]).map PyData.int := by rw [List.map_append]; rfl
  rw [ei]
  have hrl := hr.len
  refine ⟨row ++ [x], intsD_map _, by rw [List.length_append, List.length_singleton]; omega, .inl (by rw [List.length_append, List.length_singleton]; omega), fun ms hms1 hms2 => ?_⟩
  have hml : ms.length ≤ 41 := by
    have := nodup_len (l := ms) (P := row ++ [x]) (lt_nodup hms1) fun x hx => (hms2 x).mp hx
    rw [List.length_append, List.length_singleton] at this
    omega
  have hM : AllK (ms.map PyData.int) := AllK.ints fun m hm => by
    rcases List.mem_append.mp ((hms2 m).mp hm) with h1 | h1
    · exact hr.num m h1
    · rw [List.mem_singleton.mp h1]; omega
  try simp only [wSs, wS, w1, wT, wE, wA, wX, wV, wP, wC, opn, rdO_d, rdO_o, asD_d, asD_n, KQY, entry, look, put, slotV, argsOk, frzA, frzV, sv_i, sv_b, sv_s, sv_0, sv_l, sv_t, sv_d, sv_n, List.map, List.length, List.replicate, List.cons_append, List.nil_append, Nat.sub_self, biD, isD_1, boolD_b, cmpD, relD_i, opD, addD_i, addD_l, subD_i, intD_i, lenD_l, lenD_t, listD_l, listD_t, tupleD_l, int2D_i, absD_i, toIntD_i, toIntD_b, eqD_i, eqD_b, eqD_s, rngD_1, rngD_2, seqD_l, seqD_t, lstD_l, ixX_l, ixX_t, negX_i, slX_l, rvX_l, repX_i, intX_i, ixD_0, ixD_1, ixD_2, true_and, and_true, ite_self, Bool.false_eq_true, if_false, if_true, Bool.not_true, Bool.not_false, ixR0, ixR1, sv_r]
  repeat first | refine ⟨b200 (by decide), ?_⟩ | refine ⟨b200 (by omega), ?_⟩ | refine ⟨b200 (by simp only [List.length_append, List.length_cons, List.length_nil]; omega), ?_⟩
  refine go _ (by simp) fun d hd => ?_
  simp only [List.mem_append, List.mem_cons, List.not_mem_nil, or_false] at hd
  rcases hd with rfl | rfl | rfl | rfl | rfl
  · exact Th.list (hA.app hB) (by simp; omega)
  · exact Th.list ((hA.app (.one ho)).app hB) (by simp; omega)
  · exact Th.list ((hA.app (.one ho)).app rC) (by simp; omega)
  · exact Th.list ((hA.app (.one hX)).app rC) (by simp; omega)
  · exact Th.list hM (by rw [List.length_map]; omega)
end
theorem w_law_spoilt : WOkE E_law_spoilt 3 9 tr_law_spoilt := fun ws s Q Y h => by
  obtain ⟨row, n, rfl, hr, hn, h⟩ := h
  refine ⟨rfl, ?_⟩
  have hrl := hr.len
  have hG := AllK.ints hr.num
  have hGl : (row.map PyData.int).length ≤ 40 := by rw [List.length_map]; exact hr.len
  unfold tr_law_spoilt
  simp only [wSs, wS, w1, wT, wE, wA, wX, wV, wP, wC, opn, rdO_d, rdO_o, asD_d, asD_n, KQY, entry, look, put, slotV, argsOk, frzA, frzV, sv_i, sv_b, sv_s, sv_0, sv_l, sv_t, sv_d, sv_n, List.map, List.length, List.replicate, List.cons_append, List.nil_append, Nat.sub_self, biD, isD_1, boolD_b, cmpD, relD_i, opD, addD_i, addD_l, subD_i, intD_i, lenD_l, lenD_t, listD_l, listD_t, tupleD_l, int2D_i, absD_i, toIntD_i, toIntD_b, eqD_i, eqD_b, eqD_s, rngD_1, rngD_2, seqD_l, seqD_t, lstD_l, ixX_l, ixX_t, negX_i, slX_l, rvX_l, repX_i, intX_i, ixD_0, ixD_1, ixD_2, true_and, and_true, ite_self, KE2, run_takeB, eq_self, true_and, List.length_map]
  refine ⟨⟨by omega, by omega⟩, fun at' a0 a1 => ?_⟩
  unfold tr_law_spoilt_r9
  simp only [wSs, wS, w1, wT, wE, wA, wX, wV, wP, wC, opn, rdO_d, rdO_o, asD_d, asD_n, KQY, entry, look, put, slotV, argsOk, frzA, frzV, sv_i, sv_b, sv_s, sv_0, sv_l, sv_t, sv_d, sv_n, List.map, List.length, List.replicate, List.cons_append, List.nil_append, Nat.sub_self, biD, isD_1, boolD_b, cmpD, relD_i, opD, addD_i, addD_l, subD_i, intD_i, lenD_l, lenD_t, listD_l, listD_t, tupleD_l, int2D_i, absD_i, toIntD_i, toIntD_b, eqD_i, eqD_b, eqD_s, rngD_1, rngD_2, seqD_l, seqD_t, lstD_l, ixX_l, ixX_t, negX_i, slX_l, rvX_l, repX_i, intX_i, ixD_0, ixD_1, ixD_2, true_and, and_true, ite_self, run_takeB, eq_self, true_and]
  refine ⟨⟨by omega, by omega⟩, fun x x0 x1 => ?_⟩
  unfold tr_law_spoilt_r8
  generalize hr7 : tr_law_spoilt_r7 = r7
  simp only [wSs, wS, w1, wT, wE, wA, wX, wV, wP, wC, opn, rdO_d, rdO_o, asD_d, asD_n, KQY, entry, look, put, slotV, argsOk, frzA, frzV, sv_i, sv_b, sv_s, sv_0, sv_l, sv_t, sv_d, sv_n, List.map, List.length, List.replicate, List.cons_append, List.nil_append, Nat.sub_self, biD, isD_1, boolD_b, cmpD, relD_i, opD, addD_i, addD_l, subD_i, intD_i, lenD_l, lenD_t, listD_l, listD_t, tupleD_l, int2D_i, absD_i, toIntD_i, toIntD_b, eqD_i, eqD_b, eqD_s, rngD_1, rngD_2, seqD_l, seqD_t, lstD_l, ixX_l, ixX_t, negX_i, slX_l, rvX_l, repX_i, intX_i, ixD_0, ixD_1, ixD_2, true_and, and_true, ite_self]
  repeat first | refine ⟨b200 (by decide), ?_⟩ | refine ⟨⟨by decide, by decide, by decide⟩, ?_⟩
  rw [← hr7]
  unfold tr_law_spoilt_r7
  simp only [wSs, wS, w1, wT, wE, wA, wX, wV, wP, wC, opn, rdO_d, rdO_o, asD_d, asD_n, KQY, entry, look, put, slotV, argsOk, frzA, frzV, sv_i, sv_b, sv_s, sv_0, sv_l, sv_t, sv_d, sv_n, List.map, List.length, List.replicate, List.cons_append, List.nil_append, Nat.sub_self, biD, isD_1, boolD_b, cmpD, relD_i, opD, addD_i, addD_l, subD_i, intD_i, lenD_l, lenD_t, listD_l, listD_t, tupleD_l, int2D_i, absD_i, toIntD_i, toIntD_b, eqD_i, eqD_b, eqD_s, rngD_1, rngD_2, seqD_l, seqD_t, lstD_l, ixX_l, ixX_t, negX_i, slX_l, rvX_l, repX_i, intX_i, ixD_0, ixD_1, ixD_2, true_and, and_true, ite_self, run_takeB, eq_self, true_and]
  refine ⟨⟨by decide, by decide⟩, fun r r0 r1 => ixD_any r0 (by simpa using r1) fun odd hodd => ?_⟩
  have ho : Rk 1 200 odd := by
    simp only [List.mem_cons, List.not_mem_nil, or_false] at hodd
    rcases hodd with rfl | rfl | rfl | rfl | rfl | rfl | rfl | rfl | rfl | rfl | rfl | rfl
    · exact (rkI (by omega)).up
    · exact (rkI (by decide)).up
    · exact Rk.bool.up
    · exact Rk.bool.up
    · exact Rk.none.up
    · exact (Rk.str (by decide +kernel)).up
    · exact Rk.list' (k := 0) (w := 31) (m := 1) (fun x hx => by rw [List.mem_singleton.mp hx]; exact rkI (by omega)) (by simp) (by decide)
    · exact Rk.tuple' (k := 0) (w := 31) (m := 1) (fun x hx => by rw [List.mem_singleton.mp hx]; exact rkI (by omega)) (by simp) (by decide)
    · rw [p25]; exact (rkI (by decide)).up
    · exact (rkI (by omega)).up
    · exact (rkI (by omega)).up
    · exact Rk.dict' (k := 0) (w := 31) (xs := []) (fun _ h => nomatch h) (Nat.zero_le 0) (by decide)
  clear hodd
  have cA := Nat.le_trans (cut_len (xs := row.map PyData.int) (lo := none) (hi := some at')) hGl
  have cB := Nat.le_trans (cut_len (xs := row.map PyData.int) (lo := some (at' + 1)) (hi := none)) hGl
  have rA : AllK (cutD (row.map PyData.int) none (some at')) := fun y hy => hG y (cut_mem hy)
  have rB : AllK (cutD (row.map PyData.int) (some (at' + 1)) none) := fun y hy => hG y (cut_mem hy)
  try simp only [wSs, wS, w1, wT, wE, wA, wX, wV, wP, wC, opn, rdO_d, rdO_o, asD_d, asD_n, KQY, entry, look, put, slotV, argsOk, frzA, frzV, sv_i, sv_b, sv_s, sv_0, sv_l, sv_t, sv_d, sv_n, List.map, List.length, List.replicate, List.cons_append, List.nil_append, Nat.sub_self, biD, isD_1, boolD_b, cmpD, relD_i, opD, addD_i, addD_l, subD_i, intD_i, lenD_l, lenD_t, listD_l, listD_t, tupleD_l, int2D_i, absD_i, toIntD_i, toIntD_b, eqD_i, eqD_b, eqD_s, rngD_1, rngD_2, seqD_l, seqD_t, lstD_l, ixX_l, ixX_t, negX_i, slX_l, rvX_l, repX_i, intX_i, ixD_0, ixD_1, ixD_2, true_and, and_true, ite_self, Bool.false_eq_true, if_false, if_true, Bool.not_true, Bool.not_false, ixR0, ixR1, sv_r]
  have go := sp_r4 (n := n) (x := x) (at' := at') (row := row) (odd := odd) (x8 := none) (Q := Q) (Y := Y) (u := ()) hn ⟨x0, x1⟩ hr ho rA cA rB cB h
  unfold GS at go
  unfold tr_law_spoilt_r6 tr_law_spoilt_r5
  generalize tr_law_spoilt_r4 = r4 at go ⊢
  exact go
def S_law_right : Summ where
  run ds Q _ := ∃ (n : Int) (as : List (Int × Int)) (d : D), ds = [ringD n as, d] ∧ RingOk n as ∧ Th d ∧ Q (.dat (.bool true))
  mono := fun h1 _ ⟨n, as, d, e, ok, h, q⟩ => ⟨n, as, d, e, ok, h, h1 _ q⟩
theorem call_right {n : Int} {as : List (Int × Int)} {d : D} {Q : Val → Prop} {Y : Nat → Prop} (ok : RingOk n as) (hd : Th d) (h : Q (.dat (.bool true))) : S_law_right.run [ringD n as, d] Q Y := ⟨n, as, d, rfl, ok, hd, h⟩
def tr_law_right_r1 : Sms Unit :=
  (.cons (.one (.ret (.an (.cmp .Eq (.bi .repr (.cons (.var 1) .nil)) (.var 2)) (.cmp .Eq (.var 3) (.var 0)))))
    .nil)
def tr_law_right : Sms Unit :=
  (.cons (.one (.asg 2 (.bi .repr (.cons (.var 1) .nil))))
    (.cons (.one (.asg 3 (.call "_law_copy" S_law_copy (.cons (.var 0) .nil))))
    (.cons (.one (.asg 4 (.call "hits_all" Shits_all (.cons (.var 3) (.cons (.var 1) .nil)))))
    (.cons (.ite (.or (.nt (.bi .isbool (.cons (.var 4) .nil))) (.cmp .NotEq (.var 4) (.call "_law_hits" S_law_hits (.cons (.var 0) (.cons (.var 1) .nil)))))
    (.cons (.one (.ret (.bl false)))
    .nil)
    .nil)
    tr_law_right_r1))))

theorem w_law_right : WOk S_law_right 2 5 tr_law_right := fun ds Q Y h => by
  obtain ⟨n, as, d, rfl, ok, hd, h⟩ := h
  refine ⟨rfl, ?_⟩
  have hR : okR d := hd.rk.ok (by decide) (by decide)
  unfold tr_law_right
  simp only [wSs, wS, w1, wT, wE, wA, wX, wV, wP, wC, opn, rdO_d, rdO_o, asD_d, asD_n, KQY, entry, look, put, slotV, argsOk, frzA, frzV, sv_i, sv_b, sv_s, sv_0, sv_l, sv_t, sv_d, sv_n, List.map, List.length, List.replicate, List.cons_append, List.nil_append, Nat.sub_self, biD, isD_1, boolD_b, cmpD, relD_i, opD, addD_i, addD_l, subD_i, intD_i, lenD_l, lenD_t, listD_l, listD_t, tupleD_l, int2D_i, absD_i, toIntD_i, toIntD_b, eqD_i, eqD_b, eqD_s, rngD_1, rngD_2, seqD_l, seqD_t, lstD_l, ixX_l, ixX_t, negX_i, slX_l, rvX_l, repX_i, intX_i, ixD_0, ixD_1, ixD_2, true_and, and_true, ite_self, reprD_1]
  refine ⟨hR, ?_⟩
  refine ⟨(n, as), rfl, trivial, ?_⟩
  try simp only [wSs, wS, w1, wT, wE, wA, wX, wV, wP, wC, opn, rdO_d, rdO_o, asD_d, asD_n, KQY, entry, look, put, slotV, argsOk, frzA, frzV, sv_i, sv_b, sv_s, sv_0, sv_l, sv_t, sv_d, sv_n, List.map, List.length, List.replicate, List.cons_append, List.nil_append, Nat.sub_self, biD, isD_1, boolD_b, cmpD, relD_i, opD, addD_i, addD_l, subD_i, intD_i, lenD_l, lenD_t, listD_l, listD_t, tupleD_l, int2D_i, absD_i, toIntD_i, toIntD_b, eqD_i, eqD_b, eqD_s, rngD_1, rngD_2, seqD_l, seqD_t, lstD_l, ixX_l, ixX_t, negX_i, slX_l, rvX_l, repX_i, intX_i, ixD_0, ixD_1, ixD_2, true_and, and_true, ite_self, Bool.false_eq_true, if_false, if_true, Bool.not_true, Bool.not_false, ixR0, ixR1, sv_r]
  refine call_hits_all ok hd.sh ?_
  simp only [isBoolD, Bool.not_true, Bool.false_eq_true, if_false, wSs, wS, w1, wT, wE, wA, wX, wV, wP, wC, opn, rdO_d, rdO_o, asD_d, asD_n, KQY, entry, look, put, slotV, argsOk, frzA, frzV, sv_i, sv_b, sv_s, sv_0, sv_l, sv_t, sv_d, sv_n, List.map, List.length, List.replicate, List.cons_append, List.nil_append, Nat.sub_self, biD, isD_1, boolD_b, cmpD, relD_i, opD, addD_i, addD_l, subD_i, intD_i, lenD_l, lenD_t, listD_l, listD_t, tupleD_l, int2D_i, absD_i, toIntD_i, toIntD_b, eqD_i, eqD_b, eqD_s, rngD_1, rngD_2, seqD_l, seqD_t, lstD_l, ixX_l, ixX_t, negX_i, slX_l, rvX_l, repX_i, intX_i, ixD_0, ixD_1, ixD_2, true_and, and_true, ite_self]
  refine call_hits ok (big_of_short hd.sh) ?_
  simp only [decide_true, Bool.not_true, Bool.false_eq_true, if_false, wSs, wS, w1, wT, wE, wA, wX, wV, wP, wC, opn, rdO_d, rdO_o, asD_d, asD_n, KQY, entry, look, put, slotV, argsOk, frzA, frzV, sv_i, sv_b, sv_s, sv_0, sv_l, sv_t, sv_d, sv_n, List.map, List.length, List.replicate, List.cons_append, List.nil_append, Nat.sub_self, biD, isD_1, boolD_b, cmpD, relD_i, opD, addD_i, addD_l, subD_i, intD_i, lenD_l, lenD_t, listD_l, listD_t, tupleD_l, int2D_i, absD_i, toIntD_i, toIntD_b, eqD_i, eqD_b, eqD_s, rngD_1, rngD_2, seqD_l, seqD_t, lstD_l, ixX_l, ixX_t, negX_i, slX_l, rvX_l, repX_i, intX_i, ixD_0, ixD_1, ixD_2, true_and, and_true, ite_self]
  unfold tr_law_right_r1
  simp only [wSs, wS, w1, wT, wE, wA, wX, wV, wP, wC, opn, rdO_d, rdO_o, asD_d, asD_n, KQY, entry, look, put, slotV, argsOk, frzA, frzV, sv_i, sv_b, sv_s, sv_0, sv_l, sv_t, sv_d, sv_n, List.map, List.length, List.replicate, List.cons_append, List.nil_append, Nat.sub_self, biD, isD_1, boolD_b, cmpD, relD_i, opD, addD_i, addD_l, subD_i, intD_i, lenD_l, lenD_t, listD_l, listD_t, tupleD_l, int2D_i, absD_i, toIntD_i, toIntD_b, eqD_i, eqD_b, eqD_s, rngD_1, rngD_2, seqD_l, seqD_t, lstD_l, ixX_l, ixX_t, negX_i, slX_l, rvX_l, repX_i, intX_i, ixD_0, ixD_1, ixD_2, true_and, and_true, ite_self, reprD_1]
  refine ⟨hR, ?_⟩
  simp only [decide_true, if_true, wSs, wS, w1, wT, wE, wA, wX, wV, wP, wC, opn, rdO_d, rdO_o, asD_d, asD_n, KQY, entry, look, put, slotV, argsOk, frzA, frzV, sv_i, sv_b, sv_s, sv_0, sv_l, sv_t, sv_d, sv_n, List.map, List.length, List.replicate, List.cons_append, List.nil_append, Nat.sub_self, biD, isD_1, boolD_b, cmpD, relD_i, opD, addD_i, addD_l, subD_i, intD_i, lenD_l, lenD_t, listD_l, listD_t, tupleD_l, int2D_i, absD_i, toIntD_i, toIntD_b, eqD_i, eqD_b, eqD_s, rngD_1, rngD_2, seqD_l, seqD_t, lstD_l, ixX_l, ixX_t, negX_i, slX_l, rvX_l, repX_i, intX_i, ixD_0, ixD_1, ixD_2, true_and, and_true, ite_self]
  refine eqD_self (okc_ring n as) ?_
  exact h
def trlaw_c1 : Es Unit :=
  (.cons (.cmp .Gt (.calE "_law_take" E_law_take (.cons (.var 1) (.cons (.int 3) .nil))) (.int 0)) .nil)
def trlaw_b1 : Sms Unit :=
  (.cons (.ite (.nt (.call "_law_right" S_law_right (.cons (.var 3) (.cons (.var 8) .nil))))
    (.cons (.one (.ret (.bl false)))
    .nil)
    .nil)
    .nil)
def trlaw_b2 : Sms Unit :=
  (.cons (.ite (.nt (.call "_law_right" S_law_right (.cons (.var 3) (.cons (.var 7) .nil))))
    (.cons (.one (.ret (.bl false)))
    .nil)
    .nil)
    (.cons (.for (.nm 8) (.seq (.calE "_law_spoilt" E_law_spoilt (.cons (.var 1) (.cons (.var 7) (.cons (.var 4) .nil)))))
    trlaw_b1)
    .nil))
def trlaw_b3 : Sms Unit :=
  (.cons (.ite (.nt (.call "_law_right" S_law_right (.cons (.var 3) (.cons (.var 8) .nil))))
    (.cons (.one (.ret (.bl false)))
    .nil)
    .nil)
    .nil)
def trlaw_r1 : Sms Unit :=
  (.cons (.for (.nm 8) (.seq (.ls (.cons .non (.cons (.ls .nil) (.cons (.tp .nil) (.cons .d0 (.cons (.str "") (.cons (.int 0) (.cons (.bl true) (.cons (.ls (.cons (.ls .nil) .nil)) (.cons (.str "0") (.cons (.d1 (.int 0) (.int 0)) (.cons (.ls (.cons .non .nil)) (.cons (.op .Pow (.int 10) (.int 25)) .nil))))))))))))))
    trlaw_b3)
    .nil)
def trlaw_r2 : Sms Unit :=
  (.cons (.for (.nm 7) (.seq (.ls (.cons (.call "_law_greedy" S_law_greedy (.cons (.var 3) (.cons (.calE "_law_take" E_law_take (.cons (.var 1) (.cons (.var 4) .nil))) .nil))) (.cons (.var 5) (.cons (.lr (.cons (.var 4) .nil)) .nil)))))
    trlaw_b2)
    trlaw_r1)
def trlaw_r3 : Sms Unit :=
  (.cons (.one (.asgL 5 (.comp [6] (.nm 6) (.rng (.cons (.var 4) .nil)) trlaw_c1 (.var 6))))
    trlaw_r2)
def trlaw_r4 : Sms Unit :=
  (.cons (.one (.asg 4 (.ix (.var 3) (.int 0))))
    trlaw_r3)
def trlaw_b4 : Sms Unit :=
  (.cons (.one (.asg 3 (.calE "_law_ring" E_law_ring (.cons (.var 1) (.cons (.ix (.ls (.cons (.int 40) (.cons (.int 40) (.cons (.int 12) (.cons (.int 6) (.cons (.int 3) (.cons (.int 20) .nil))))))) (.var 2)) (.cons (.int 20) .nil))))))
    trlaw_r4)
def trlaw : Sms Unit :=
  (.cons (.one (.asgH 1 E_store (.call "_law_draws" S_law_draws (.cons (.var 0) (.cons (.int 500) .nil)))))
    (.cons (.for (.nm 2) (.rng (.cons (.int 6) .nil))
    trlaw_b4)
    (.cons (.one (.ret (.bl true)))
    .nil)))

theorem law_b2 {n : Int} {as : List (Int × Int)} {row : List Int} {x0 x2 x5 x6 x8 : Option Val} {K : Kn Unit} {u : Unit} (ok : RingOk n as) (hr : RowP row) (hK : ∀ x8 : Option Val, K.nx [x0, some (.hdl 1), x2, some (.dat (ringD n as)), some (.dat (.int n)), x5, x6, some (.dat (.list (row.map .int))), x8] ()) :
    wSs trlaw_b2 [x0, some (.hdl 1), x2, some (.dat (ringD n as)), some (.dat (.int n)), x5, x6, some (.dat (.list (row.map .int))), x8] u K := by
  unfold trlaw_b2
  simp only [wSs, wS, w1, wT, wE, wA, wX, wV, wP, wC, opn, rdO_d, rdO_o, asD_d, asD_n, KQY, entry, look, put, slotV, argsOk, frzA, frzV, sv_i, sv_b, sv_s, sv_0, sv_l, sv_t, sv_d, sv_n, List.map, List.length, List.replicate, List.cons_append, List.nil_append, Nat.sub_self, biD, isD_1, boolD_b, cmpD, relD_i, opD, addD_i, addD_l, subD_i, intD_i, lenD_l, lenD_t, listD_l, listD_t, tupleD_l, int2D_i, absD_i, toIntD_i, toIntD_b, eqD_i, eqD_b, eqD_s, rngD_1, rngD_2, seqD_l, seqD_t, lstD_l, ixX_l, ixX_t, negX_i, slX_l, rvX_l, repX_i, intX_i, ixD_0, ixD_1, ixD_2, true_and, and_true, ite_self]
  refine call_right ok (Th.row hr) ?_
  simp only [wSs, wS, w1, wT, wE, wA, wX, wV, wP, wC, opn, rdO_d, rdO_o, asD_d, asD_n, KQY, entry, look, put, slotV, argsOk, frzA, frzV, sv_i, sv_b, sv_s, sv_0, sv_l, sv_t, sv_d, sv_n, List.map, List.length, List.replicate, List.cons_append, List.nil_append, Nat.sub_self, biD, isD_1, boolD_b, cmpD, relD_i, opD, addD_i, addD_l, subD_i, intD_i, lenD_l, lenD_t, listD_l, listD_t, tupleD_l, int2D_i, absD_i, toIntD_i, toIntD_b, eqD_i, eqD_b, eqD_s, rngD_1, rngD_2, seqD_l, seqD_t, lstD_l, ixX_l, ixX_t, negX_i, slX_l, rvX_l, repX_i, intX_i, ixD_0, ixD_1, ixD_2, true_and, and_true, ite_self, wJ, Bool.not_true, Bool.false_eq_true, if_false]
  refine ⟨row, n, rfl, hr, ⟨ok.n1, ok.n40⟩, fun L hL hT => ?_⟩
  try simp only [wSs, wS, w1, wT, wE, wA, wX, wV, wP, wC, opn, rdO_d, rdO_o, asD_d, asD_n, KQY, entry, look, put, slotV, argsOk, frzA, frzV, sv_i, sv_b, sv_s, sv_0, sv_l, sv_t, sv_d, sv_n, List.map, List.length, List.replicate, List.cons_append, List.nil_append, Nat.sub_self, biD, isD_1, boolD_b, cmpD, relD_i, opD, addD_i, addD_l, subD_i, intD_i, lenD_l, lenD_t, listD_l, listD_t, tupleD_l, int2D_i, absD_i, toIntD_i, toIntD_b, eqD_i, eqD_b, eqD_s, rngD_1, rngD_2, seqD_l, seqD_t, lstD_l, ixX_l, ixX_t, negX_i, slX_l, rvX_l, repX_i, intX_i, ixD_0, ixD_1, ixD_2, true_and, and_true, ite_self, Bool.false_eq_true, if_false, if_true, Bool.not_true, Bool.not_false, ixR0, ixR1, sv_r]
  refine ⟨b200 (by omega), ?_⟩
  have em : L = L.map id := by simp
  rw [em]
  refine fLoop_mp (g := id) (fun done rest Γ _ => ∃ x8 : Option Val, Γ = [x0, some (.hdl 1), x2, some (.dat (ringD n as)), some (.dat (.int n)), x5, x6, some (.dat (.list (row.map .int))), x8] ∧ ∀ z ∈ rest, Th z) ?_ ?_ _ [] _ _ ⟨_, rfl, hT⟩
  · rintro done Γ u ⟨x8, rfl, _⟩
    exact hK _
  · rintro done z r Γ u K' ⟨x8, rfl, hz⟩ hnx hct hbk hrt hex
    unfold trlaw_b1
    simp only [bindT, wSs, wS, w1, wT, wE, wA, wX, wV, wP, wC, opn, rdO_d, rdO_o, asD_d, asD_n, KQY, entry, look, put, slotV, argsOk, frzA, frzV, sv_i, sv_b, sv_s, sv_0, sv_l, sv_t, sv_d, sv_n, List.map, List.length, List.replicate, List.cons_append, List.nil_append, Nat.sub_self, biD, isD_1, boolD_b, cmpD, relD_i, opD, addD_i, addD_l, subD_i, intD_i, lenD_l, lenD_t, listD_l, listD_t, tupleD_l, int2D_i, absD_i, toIntD_i, toIntD_b, eqD_i, eqD_b, eqD_s, rngD_1, rngD_2, seqD_l, seqD_t, lstD_l, ixX_l, ixX_t, negX_i, slX_l, rvX_l, repX_i, intX_i, ixD_0, ixD_1, ixD_2, true_and, and_true, ite_self, id]
    refine call_right ok (hz z List.mem_cons_self) ?_
    try simp only [wSs, wS, w1, wT, wE, wA, wX, wV, wP, wC, opn, rdO_d, rdO_o, asD_d, asD_n, KQY, entry, look, put, slotV, argsOk, frzA, frzV, sv_i, sv_b, sv_s, sv_0, sv_l, sv_t, sv_d, sv_n, List.map, List.length, List.replicate, List.cons_append, List.nil_append, Nat.sub_self, biD, isD_1, boolD_b, cmpD, relD_i, opD, addD_i, addD_l, subD_i, intD_i, lenD_l, lenD_t, listD_l, listD_t, tupleD_l, int2D_i, absD_i, toIntD_i, toIntD_b, eqD_i, eqD_b, eqD_s, rngD_1, rngD_2, seqD_l, seqD_t, lstD_l, ixX_l, ixX_t, negX_i, slX_l, rvX_l, repX_i, intX_i, ixD_0, ixD_1, ixD_2, true_and, and_true, ite_self, Bool.false_eq_true, if_false, if_true, Bool.not_true, Bool.not_false, ixR0, ixR1, sv_r]
    exact hnx _ _ ⟨_, rfl, fun w hw => hz w (List.mem_cons_of_mem _ hw)⟩
theorem law_r1 {n : Int} {as : List (Int × Int)} {x0 x2 x4 x5 x6 x7 x8 : Option Val} {K : Kn Unit} {u : Unit} (ok : RingOk n as) (hK : ∀ x8 : Option Val, K.nx [x0, some (.hdl 1), x2, some (.dat (ringD n as)), x4, x5, x6, x7, x8] ()) :
    wSs trlaw_r1 [x0, some (.hdl 1), x2, some (.dat (ringD n as)), x4, x5, x6, x7, x8] u K := by
  unfold trlaw_r1
  simp only [wSs, wS, w1, wT, wE, wA, wX, wV, wP, wC, opn, rdO_d, rdO_o, asD_d, asD_n, KQY, entry, look, put, slotV, argsOk, frzA, frzV, sv_i, sv_b, sv_s, sv_0, sv_l, sv_t, sv_d, sv_n, List.map, List.length, List.replicate, List.cons_append, List.nil_append, Nat.sub_self, biD, isD_1, boolD_b, cmpD, relD_i, opD, addD_i, addD_l, subD_i, intD_i, lenD_l, lenD_t, listD_l, listD_t, tupleD_l, int2D_i, absD_i, toIntD_i, toIntD_b, eqD_i, eqD_b, eqD_s, rngD_1, rngD_2, seqD_l, seqD_t, lstD_l, ixX_l, ixX_t, negX_i, slX_l, rvX_l, repX_i, intX_i, ixD_0, ixD_1, ixD_2, true_and, and_true, ite_self, wJ, keyD]
  repeat first | refine ⟨b200 (by decide), ?_⟩ | refine ⟨⟨by decide, by decide, by decide⟩, ?_⟩
  have em : ∀ L : List D, L = L.map id := fun L => by simp
  rw [em [PyData.none, .list [], .tuple [], .dict [], .str "", .int 0, .bool true, .list [.list []], .str "0", .dict [(.int 0, .int 0)], .list [.none], .int (10 ^ (25 : Int).toNat)]]
  refine fLoop_mp (g := id) (fun done rest Γ _ => ∃ x8 : Option Val, Γ = [x0, some (.hdl 1), x2, some (.dat (ringD n as)), x4, x5, x6, x7, x8] ∧ ∀ z ∈ rest, Th z) ?_ ?_ _ [] _ _ ⟨_, rfl, fun z hz => ?_⟩
  · rintro done Γ u ⟨x8, rfl, _⟩
    exact hK _
  · rintro done z r Γ u K' ⟨x8, rfl, hz⟩ hnx hct hbk hrt hex
    unfold trlaw_b3
    simp only [bindT, wSs, wS, w1, wT, wE, wA, wX, wV, wP, wC, opn, rdO_d, rdO_o, asD_d, asD_n, KQY, entry, look, put, slotV, argsOk, frzA, frzV, sv_i, sv_b, sv_s, sv_0, sv_l, sv_t, sv_d, sv_n, List.map, List.length, List.replicate, List.cons_append, List.nil_append, Nat.sub_self, biD, isD_1, boolD_b, cmpD, relD_i, opD, addD_i, addD_l, subD_i, intD_i, lenD_l, lenD_t, listD_l, listD_t, tupleD_l, int2D_i, absD_i, toIntD_i, toIntD_b, eqD_i, eqD_b, eqD_s, rngD_1, rngD_2, seqD_l, seqD_t, lstD_l, ixX_l, ixX_t, negX_i, slX_l, rvX_l, repX_i, intX_i, ixD_0, ixD_1, ixD_2, true_and, and_true, ite_self, id]
    refine call_right ok (hz z List.mem_cons_self) ?_
    try simp only [wSs, wS, w1, wT, wE, wA, wX, wV, wP, wC, opn, rdO_d, rdO_o, asD_d, asD_n, KQY, entry, look, put, slotV, argsOk, frzA, frzV, sv_i, sv_b, sv_s, sv_0, sv_l, sv_t, sv_d, sv_n, List.map, List.length, List.replicate, List.cons_append, List.nil_append, Nat.sub_self, biD, isD_1, boolD_b, cmpD, relD_i, opD, addD_i, addD_l, subD_i, intD_i, lenD_l, lenD_t, listD_l, listD_t, tupleD_l, int2D_i, absD_i, toIntD_i, toIntD_b, eqD_i, eqD_b, eqD_s, rngD_1, rngD_2, seqD_l, seqD_t, lstD_l, ixX_l, ixX_t, negX_i, slX_l, rvX_l, repX_i, intX_i, ixD_0, ixD_1, ixD_2, true_and, and_true, ite_self, Bool.false_eq_true, if_false, if_true, Bool.not_true, Bool.not_false, ixR0, ixR1, sv_r]
    exact hnx _ _ ⟨_, rfl, fun w hw => hz w (List.mem_cons_of_mem _ hw)⟩
  · have dt : ∀ (es : List (D × D)), es.length ≤ 1 → (∀ e ∈ es, Rk 0 31 e.1 ∧ Rk 0 31 e.2) → Th (.dict es) := fun es hl he => ⟨(Rk.dict' (k := 0) (w := 31) (m := 1) he hl (w' := 300) (by decide)).up, fun ys e => nomatch e⟩
    simp only [List.mem_cons, List.not_mem_nil, or_false] at hz
    rcases hz with rfl | rfl | rfl | rfl | rfl | rfl | rfl | rfl | rfl | rfl | rfl | rfl
    · exact Th.atom Rk.none (fun ys e => nomatch e)
    · exact Th.list (fun _ h => nomatch h) (by simp)
    · exact Th.tuple (fun _ h => nomatch h) (by simp)
    · exact dt [] (by simp) (fun _ h => nomatch h)
    · exact Th.atom (Rk.str (by decide +kernel)) (fun ys e => nomatch e)
    · exact Th.atom (rkI (by decide)) (fun ys e => nomatch e)
    · exact Th.atom Rk.bool (fun ys e => nomatch e)
    · exact Th.list (AllK.one (Rk.list' (k := 0) (w := 31) (m := 1) (xs := []) (fun _ h => nomatch h) (by simp) (by decide))) (by simp)
    · exact Th.atom (Rk.str (by decide +kernel)) (fun ys e => nomatch e)
    · exact dt _ (by simp) (fun e he => by rw [List.mem_singleton.mp he]; exact ⟨rkI (by decide), rkI (by decide)⟩)
    · exact Th.list (AllK.one Rk.none.up) (by simp)
    · rw [p25]; exact Th.atom (rkI (by decide)) (fun ys e => nomatch e)
theorem law_r2 {n : Int} {as : List (Int × Int)} {dr : List Int} {x0 x2 x7 x8 : Option Val} {K : Kn Unit} {u : Unit} (ok : RingOk n as) (hd : RowP dr) (hK : ∀ x5 x7 x8 : Option Val, K.nx [x0, some (.hdl 1), x2, some (.dat (ringD n as)), some (.dat (.int n)), x5, none, x7, x8] ()) :
    wSs trlaw_r2 [x0, some (.hdl 1), x2, some (.dat (ringD n as)), some (.dat (.int n)), some (.own (dr.map .int)), none, x7, x8] u K := by
  have n1 := ok.n1
  have n40 := ok.n40
  unfold trlaw_r2
  generalize hr1 : trlaw_r1 = r1
  simp only [wSs, wS, w1, wT, wE, wA, wX, wV, wP, wC, opn, rdO_d, rdO_o, asD_d, asD_n, KQY, entry, look, put, slotV, argsOk, frzA, frzV, sv_i, sv_b, sv_s, sv_0, sv_l, sv_t, sv_d, sv_n, List.map, List.length, List.replicate, List.cons_append, List.nil_append, Nat.sub_self, biD, isD_1, boolD_b, cmpD, relD_i, opD, addD_i, addD_l, subD_i, intD_i, lenD_l, lenD_t, listD_l, listD_t, tupleD_l, int2D_i, absD_i, toIntD_i, toIntD_b, eqD_i, eqD_b, eqD_s, rngD_1, rngD_2, seqD_l, seqD_t, lstD_l, ixX_l, ixX_t, negX_i, slX_l, rvX_l, repX_i, intX_i, ixD_0, ixD_1, ixD_2, true_and, and_true, ite_self, run_takeB, eq_self, true_and, wJ]
  refine ⟨⟨by omega, by omega⟩, fun x x0' x1 => ?_⟩
  refine ⟨n, as, x, rfl, ok, ⟨x0', x1⟩, fun ms hms => ?_⟩
  try simp only [wSs, wS, w1, wT, wE, wA, wX, wV, wP, wC, opn, rdO_d, rdO_o, asD_d, asD_n, KQY, entry, look, put, slotV, argsOk, frzA, frzV, sv_i, sv_b, sv_s, sv_0, sv_l, sv_t, sv_d, sv_n, List.map, List.length, List.replicate, List.cons_append, List.nil_append, Nat.sub_self, biD, isD_1, boolD_b, cmpD, relD_i, opD, addD_i, addD_l, subD_i, intD_i, lenD_l, lenD_t, listD_l, listD_t, tupleD_l, int2D_i, absD_i, toIntD_i, toIntD_b, eqD_i, eqD_b, eqD_s, rngD_1, rngD_2, seqD_l, seqD_t, lstD_l, ixX_l, ixX_t, negX_i, slX_l, rvX_l, repX_i, intX_i, ixD_0, ixD_1, ixD_2, true_and, and_true, ite_self, Bool.false_eq_true, if_false, if_true, Bool.not_true, Bool.not_false, ixR0, ixR1, sv_r]
  refine ⟨⟨by omega, by omega⟩, b200 (by rw [List.length_map, List.length_range]; omega), b200 (by decide), b200 (by decide), ?_⟩
  have er : (List.range n.toNat).map (fun i => PyData.int ((i : Nat) : Int)) = ((List.range n.toNat).map fun i : Nat => ((i : Nat) : Int)).map .int := by rw [List.map_map]; rfl
  rw [er]
  have hrr : RowP ((List.range n.toNat).map fun i : Nat => ((i : Nat) : Int)) := ⟨by rw [List.length_map, List.length_range]; omega, fun m hm => by
    obtain ⟨i, hi, rfl⟩ := List.mem_map.mp hm
    have := List.mem_range.mp hi
    omega⟩
  generalize (List.range n.toNat).map (fun i : Nat => ((i : Nat) : Int)) = rg at hrr
  have em : [PyData.list (ms.map .int), .list (dr.map .int), .list (rg.map .int)] = [ms, dr, rg].map fun r => PyData.list (r.map .int) := rfl
  rw [em]
  refine fLoop_mp (g := fun r : List Int => PyData.list (r.map .int)) (fun done rest Γ _ => ∃ x7 x8 : Option Val, Γ = [x0, some (.hdl 1), x2, some (.dat (ringD n as)), some (.dat (.int n)), some (.dat (.list (dr.map .int))), none, x7, x8] ∧ ∀ z ∈ rest, RowP z) ?_ ?_ _ [] _ _ ⟨_, _, rfl, fun z hz => ?_⟩
  · rintro done Γ u ⟨x7, x8, rfl, _⟩
    rw [← hr1]
    exact law_r1 (u := ()) ok fun _ => hK _ _ _
  · rintro done z r Γ u K' ⟨x7, x8, rfl, hz⟩ hnx hct hbk hrt hex
    simp only [bindT, put]
    exact law_b2 ok (hz z List.mem_cons_self) fun _ => hnx _ _ ⟨_, _, rfl, fun w hw => hz w (List.mem_cons_of_mem _ hw)⟩
  · simp only [List.mem_cons, List.not_mem_nil, or_false] at hz
    rcases hz with rfl | rfl | rfl
    · exact hms
    · exact hd
    · exact hrr
theorem law_r4 {n : Int} {as : List (Int × Int)} {x0 x2 x4 x5 x7 x8 : Option Val} {K : Kn Unit} {u : Unit} (ok : RingOk n as) (hK : ∀ x4 x5 x7 x8 : Option Val, K.nx [x0, some (.hdl 1), x2, some (.dat (ringD n as)), x4, x5, none, x7, x8] ()) :
    wSs trlaw_r4 [x0, some (.hdl 1), x2, some (.dat (ringD n as)), x4, x5, none, x7, x8] u K := by
  have n1 := ok.n1
  have n40 := ok.n40
  unfold trlaw_r4
  simp only [wSs, wS, w1, wT, wE, wA, wX, wV, wP, wC, opn, rdO_d, rdO_o, asD_d, asD_n, KQY, entry, look, put, slotV, argsOk, frzA, frzV, sv_i, sv_b, sv_s, sv_0, sv_l, sv_t, sv_d, sv_n, List.map, List.length, List.replicate, List.cons_append, List.nil_append, Nat.sub_self, biD, isD_1, boolD_b, cmpD, relD_i, opD, addD_i, addD_l, subD_i, intD_i, lenD_l, lenD_t, listD_l, listD_t, tupleD_l, int2D_i, absD_i, toIntD_i, toIntD_b, eqD_i, eqD_b, eqD_s, rngD_1, rngD_2, seqD_l, seqD_t, lstD_l, ixX_l, ixX_t, negX_i, slX_l, rvX_l, repX_i, intX_i, ixD_0, ixD_1, ixD_2, true_and, and_true, ite_self, ringD, ixR0]
  unfold trlaw_r3
  generalize hr2 : trlaw_r2 = r2
  simp only [wSs, wS, w1, wT, wE, wA, wX, wV, wP, wC, opn, rdO_d, rdO_o, asD_d, asD_n, KQY, entry, look, put, slotV, argsOk, frzA, frzV, sv_i, sv_b, sv_s, sv_0, sv_l, sv_t, sv_d, sv_n, List.map, List.length, List.replicate, List.cons_append, List.nil_append, Nat.sub_self, biD, isD_1, boolD_b, cmpD, relD_i, opD, addD_i, addD_l, subD_i, intD_i, lenD_l, lenD_t, listD_l, listD_t, tupleD_l, int2D_i, absD_i, toIntD_i, toIntD_b, eqD_i, eqD_b, eqD_s, rngD_1, rngD_2, seqD_l, seqD_t, lstD_l, ixX_l, ixX_t, negX_i, slX_l, rvX_l, repX_i, intX_i, ixD_0, ixD_1, ixD_2, true_and, and_true, ite_self, wI, wipeG, backG]
  refine ⟨⟨by omega, by omega⟩, b200 (by rw [List.length_map, List.length_range]; omega), ?_⟩
  refine cLoop_inv (fun acc rest Γ _ => ∃ dr : List Int, acc = dr.map .int ∧ Γ = [x0, some (.hdl 1), x2, some (.dat (ringD n as)), some (.dat (.int n)), x5, none, x7, x8] ∧ dr.length + rest.length ≤ 40 ∧ (∀ y ∈ dr, 0 ≤ y ∧ y < 40) ∧ ∀ y ∈ rest, ∃ m : Int, y = .int m ∧ 0 ≤ m ∧ m < 40) ?_ ?_ _ [] _ _ ⟨[], rfl, rfl, by simp; omega, (fun _ h => nomatch h), fun y hy => ?_⟩
  · rintro acc Γ u ⟨dr, rfl, rfl, hl, hr, _⟩
    rw [List.length_nil, Nat.add_zero] at hl
    try simp only [wSs, wS, w1, wT, wE, wA, wX, wV, wP, wC, opn, rdO_d, rdO_o, asD_d, asD_n, KQY, entry, look, put, slotV, argsOk, frzA, frzV, sv_i, sv_b, sv_s, sv_0, sv_l, sv_t, sv_d, sv_n, List.map, List.length, List.replicate, List.cons_append, List.nil_append, Nat.sub_self, biD, isD_1, boolD_b, cmpD, relD_i, opD, addD_i, addD_l, subD_i, intD_i, lenD_l, lenD_t, listD_l, listD_t, tupleD_l, int2D_i, absD_i, toIntD_i, toIntD_b, eqD_i, eqD_b, eqD_s, rngD_1, rngD_2, seqD_l, seqD_t, lstD_l, ixX_l, ixX_t, negX_i, slX_l, rvX_l, repX_i, intX_i, ixD_0, ixD_1, ixD_2, true_and, and_true, ite_self, Bool.false_eq_true, if_false, if_true, Bool.not_true, Bool.not_false, ixR0, ixR1, sv_r]
    rw [← hr2]
    exact law_r2 (u := ()) ok ⟨hl, hr⟩ fun _ _ _ => hK _ _ _ _
  · rintro acc y r Γ u k' ⟨dr, rfl, rfl, hl, hr, hy⟩ hk'
    obtain ⟨m, rfl, m0, m1⟩ := hy y List.mem_cons_self
    rw [List.length_cons] at hl
    unfold trlaw_c1
    simp only [bindT, wSs, wS, w1, wT, wE, wA, wX, wV, wP, wC, opn, rdO_d, rdO_o, asD_d, asD_n, KQY, entry, look, put, slotV, argsOk, frzA, frzV, sv_i, sv_b, sv_s, sv_0, sv_l, sv_t, sv_d, sv_n, List.map, List.length, List.replicate, List.cons_append, List.nil_append, Nat.sub_self, biD, isD_1, boolD_b, cmpD, relD_i, opD, addD_i, addD_l, subD_i, intD_i, lenD_l, lenD_t, listD_l, listD_t, tupleD_l, int2D_i, absD_i, toIntD_i, toIntD_b, eqD_i, eqD_b, eqD_s, rngD_1, rngD_2, seqD_l, seqD_t, lstD_l, ixX_l, ixX_t, negX_i, slX_l, rvX_l, repX_i, intX_i, ixD_0, ixD_1, ixD_2, true_and, and_true, ite_self, run_takeB, eq_self, true_and]
    refine ⟨⟨by decide, by decide⟩, fun t t0 t1 => ?_⟩
    by_cases ht : 0 < t
    · simp only [ht, decide_true, if_true, wSs, wS, w1, wT, wE, wA, wX, wV, wP, wC, opn, rdO_d, rdO_o, asD_d, asD_n, KQY, entry, look, put, slotV, argsOk, frzA, frzV, sv_i, sv_b, sv_s, sv_0, sv_l, sv_t, sv_d, sv_n, List.map, List.length, List.replicate, List.cons_append, List.nil_append, Nat.sub_self, biD, isD_1, boolD_b, cmpD, relD_i, opD, addD_i, addD_l, subD_i, intD_i, lenD_l, lenD_t, listD_l, listD_t, tupleD_l, int2D_i, absD_i, toIntD_i, toIntD_b, eqD_i, eqD_b, eqD_s, rngD_1, rngD_2, seqD_l, seqD_t, lstD_l, ixX_l, ixX_t, negX_i, slX_l, rvX_l, repX_i, intX_i, ixD_0, ixD_1, ixD_2, true_and, and_true, ite_self, wipeG]
      refine hk' (some (.int m)) _ _ ⟨dr ++ [m], by rw [List.map_append]; rfl, rfl, by rw [List.length_append, List.length_singleton]; omega, fun y hy' => ?_, fun z hz => hy z (List.mem_cons_of_mem _ hz)⟩
      rcases List.mem_append.mp hy' with hy' | hy'
      · exact hr y hy'
      · rw [List.mem_singleton.mp hy']; exact ⟨m0, m1⟩
    · simp only [ht, decide_false, Bool.false_eq_true, if_false, wipeG, put]
      exact hk' none _ _ ⟨dr, by simp, rfl, by omega, hr, fun z hz => hy z (List.mem_cons_of_mem _ hz)⟩
  · obtain ⟨i, hi, rfl⟩ := List.mem_map.mp hy
    have := List.mem_range.mp hi
    exact ⟨_, rfl, by omega, by omega⟩
theorem law_b4 {tn : Nat} {ns : List Int} {x3 x4 x5 x7 x8 : Option Val} {K : Kn Unit} {u : Unit} (ht : tn < 6)
    (hK : ∀ x3 x4 x5 x7 x8 : Option Val, K.nx [some (.dat (.list (ns.map .int))), some (.hdl 1), some (.dat (.int (tn : Nat))), x3, x4, x5, none, x7, x8] ()) :
    wSs trlaw_b4 [some (.dat (.list (ns.map .int))), some (.hdl 1), some (.dat (.int (tn : Nat))), x3, x4, x5, none, x7, x8] u K := by
  unfold trlaw_b4
  have go := fun n as ok => law_r4 (n := n) (as := as) (x0 := some (.dat (.list (ns.map .int)))) (x2 := some (.dat (.int (tn : Nat)))) (x4 := x4) (x5 := x5) (x7 := x7) (x8 := x8) (K := K) (u := ()) ok fun _ _ _ _ => hK _ _ _ _ _
  generalize trlaw_r4 = r4 at go
  simp only [wSs, wS, w1, wT, wE, wA, wX, wV, wP, wC, opn, rdO_d, rdO_o, asD_d, asD_n, KQY, entry, look, put, slotV, argsOk, frzA, frzV, sv_i, sv_b, sv_s, sv_0, sv_l, sv_t, sv_d, sv_n, List.map, List.length, List.replicate, List.cons_append, List.nil_append, Nat.sub_self, biD, isD_1, boolD_b, cmpD, relD_i, opD, addD_i, addD_l, subD_i, intD_i, lenD_l, lenD_t, listD_l, listD_t, tupleD_l, int2D_i, absD_i, toIntD_i, toIntD_b, eqD_i, eqD_b, eqD_s, rngD_1, rngD_2, seqD_l, seqD_t, lstD_l, ixX_l, ixX_t, negX_i, slX_l, rvX_l, repX_i, intX_i, ixD_0, ixD_1, ixD_2, true_and, and_true, ite_self]
  refine ⟨b200 (by decide), ixD_any (by omega) (by simp; omega) fun y hy => ?_⟩
  have hy' : ∃ m : Int, y = .int m ∧ 1 ≤ m ∧ m ≤ 40 := by
    simp only [List.mem_cons, List.not_mem_nil, or_false] at hy
    rcases hy with rfl | rfl | rfl | rfl | rfl | rfl <;> exact ⟨_, rfl, by decide, by decide⟩
  obtain ⟨m, rfl, m1, m2⟩ := hy'
  simp only [wSs, wS, w1, wT, wE, wA, wX, wV, wP, wC, opn, rdO_d, rdO_o, asD_d, asD_n, KQY, entry, look, put, slotV, argsOk, frzA, frzV, sv_i, sv_b, sv_s, sv_0, sv_l, sv_t, sv_d, sv_n, List.map, List.length, List.replicate, List.cons_append, List.nil_append, Nat.sub_self, biD, isD_1, boolD_b, cmpD, relD_i, opD, addD_i, addD_l, subD_i, intD_i, lenD_l, lenD_t, listD_l, listD_t, tupleD_l, int2D_i, absD_i, toIntD_i, toIntD_b, eqD_i, eqD_b, eqD_s, rngD_1, rngD_2, seqD_l, seqD_t, lstD_l, ixX_l, ixX_t, negX_i, slX_l, rvX_l, repX_i, intX_i, ixD_0, ixD_1, ixD_2, true_and, and_true, ite_self, run_ringB, eq_self, true_and]
  exact ⟨⟨m1, m2⟩, ⟨by decide, by decide⟩, fun n as ok _ _ => go n as ok⟩
theorem w_law : WOkE Elaw 1 9 trlaw := fun ws s Q Y h => by
  obtain ⟨ns, rfl, hl, h⟩ := Elaw_run h
  refine ⟨rfl, ?_⟩
  unfold trlaw
  simp only [wSs, wS, w1, wT, wE, wA, wX, wV, wP, wC, opn, rdO_d, rdO_o, asD_d, asD_n, KQY, entry, look, put, slotV, argsOk, frzA, frzV, sv_i, sv_b, sv_s, sv_0, sv_l, sv_t, sv_d, sv_n, List.map, List.length, List.replicate, List.cons_append, List.nil_append, Nat.sub_self, biD, isD_1, boolD_b, cmpD, relD_i, opD, addD_i, addD_l, subD_i, intD_i, lenD_l, lenD_t, listD_l, listD_t, tupleD_l, int2D_i, absD_i, toIntD_i, toIntD_b, eqD_i, eqD_b, eqD_s, rngD_1, rngD_2, seqD_l, seqD_t, lstD_l, ixX_l, ixX_t, negX_i, slX_l, rvX_l, repX_i, intX_i, ixD_0, ixD_1, ixD_2, true_and, and_true, ite_self, KE2, wJ, run_draws]
  refine ⟨ns, rfl, hl, ⟨by decide, by decide⟩, fun out ho => ?_⟩
  try simp only [wSs, wS, w1, wT, wE, wA, wX, wV, wP, wC, opn, rdO_d, rdO_o, asD_d, asD_n, KQY, entry, look, put, slotV, argsOk, frzA, frzV, sv_i, sv_b, sv_s, sv_0, sv_l, sv_t, sv_d, sv_n, List.map, List.length, List.replicate, List.cons_append, List.nil_append, Nat.sub_self, biD, isD_1, boolD_b, cmpD, relD_i, opD, addD_i, addD_l, subD_i, intD_i, lenD_l, lenD_t, listD_l, listD_t, tupleD_l, int2D_i, absD_i, toIntD_i, toIntD_b, eqD_i, eqD_b, eqD_s, rngD_1, rngD_2, seqD_l, seqD_t, lstD_l, ixX_l, ixX_t, negX_i, slX_l, rvX_l, repX_i, intX_i, ixD_0, ixD_1, ixD_2, true_and, and_true, ite_self, Bool.false_eq_true, if_false, if_true, Bool.not_true, Bool.not_false, ixR0, ixR1, sv_r]
  simp only [run_store]
  refine ⟨out, rfl, ho, ⟨by decide, by decide⟩, b200 (by decide), ?_⟩
  refine fLoop_mp (g := fun i : Nat => PyData.int (i : Nat)) (fun done rest Γ _ => ∃ x2 x3 x4 x5 x7 x8 : Option Val, Γ = [some (.dat (.list (ns.map .int))), some (.hdl 1), x2, x3, x4, x5, none, x7, x8] ∧ ∀ i ∈ rest, i < 6) ?_ ?_ _ [] _ _ ⟨_, _, _, _, _, _, rfl, fun i hi => by have := List.mem_range.mp hi; exact this⟩
  · rintro done Γ u ⟨x2, x3, x4, x5, x7, x8, rfl, _⟩
    try simp only [wSs, wS, w1, wT, wE, wA, wX, wV, wP, wC, opn, rdO_d, rdO_o, asD_d, asD_n, KQY, entry, look, put, slotV, argsOk, frzA, frzV, sv_i, sv_b, sv_s, sv_0, sv_l, sv_t, sv_d, sv_n, List.map, List.length, List.replicate, List.cons_append, List.nil_append, Nat.sub_self, biD, isD_1, boolD_b, cmpD, relD_i, opD, addD_i, addD_l, subD_i, intD_i, lenD_l, lenD_t, listD_l, listD_t, tupleD_l, int2D_i, absD_i, toIntD_i, toIntD_b, eqD_i, eqD_b, eqD_s, rngD_1, rngD_2, seqD_l, seqD_t, lstD_l, ixX_l, ixX_t, negX_i, slX_l, rvX_l, repX_i, intX_i, ixD_0, ixD_1, ixD_2, true_and, and_true, ite_self, Bool.false_eq_true, if_false, if_true, Bool.not_true, Bool.not_false, ixR0, ixR1, sv_r]
    exact h
  · rintro done i r Γ u K' ⟨x2, x3, x4, x5, x7, x8, rfl, hi⟩ hnx hct hbk hrt hex
    simp only [bindT, put]
    exact law_b4 (hi i List.mem_cons_self) fun _ _ _ _ _ => hnx _ _ ⟨_, _, _, _, _, _, rfl, fun j hj => hi j (List.mem_cons_of_mem _ hj)⟩
end Ac
namespace Ac
open PySem PySem.Spec PyProof.Rows L2
def topS (i : Nat) : Stmt := PySem.Challenge.pw_arcpins_k07_points_that_hit.main.body.getD i (.Pass ⟨0, 0, 0, 0⟩)
abbrev sis_number : Stmt := topS 6
abbrev sis_arc : Stmt := topS 7
abbrev sis_ring : Stmt := topS 8
abbrev sneed_ring : Stmt := topS 9
abbrev sholds : Stmt := topS 10
abbrev sis_rising : Stmt := topS 12
abbrev shits_all : Stmt := topS 13
abbrev s_law_draws : Stmt := topS 15
abbrev s_law_take : Stmt := topS 16
abbrev s_law_arc : Stmt := topS 17
abbrev s_law_ring : Stmt := topS 18
abbrev s_law_held : Stmt := topS 19
abbrev s_law_copy : Stmt := topS 20
abbrev s_law_rising : Stmt := topS 21
abbrev s_law_hits : Stmt := topS 22
abbrev s_law_greedy : Stmt := topS 23
abbrev s_law_spoilt : Stmt := topS 24
abbrev s_law_right : Stmt := topS 25
abbrev slaw : Stmt := topS 26
/-! ### the store, by hand -/
section
variable {P : Program} {w : World} {K : PySem.W.Frag} {mg : Str → Option Value} {base : Heap} {cl : Nat → Addr}
theorem scTake : FnScope ["store", "many"] ["store", "many"] (defScope s_law_take) := ⟨rfl, rfl, rfl, by decide +kernel, rfl, by decide +kernel, by decide +kernel⟩
theorem ok_law_take {f : Addr} {fd : FuncData} (F : Fun K "_law_take" "_law_take" s_law_take f fd) (ml : mg "len" = none) : FnG P w K mg base 1 f fd ["store", "many"] (spE (rmD cl) cl E_law_take) := by
  refine fnG_of F scTake (fun vs H Q E h => ?_) (fun cdv A outer s H vs Q E hr hgd h => ?_)
  · obtain ⟨F0, A0, s0, ws, fh, fz, ok, rl, q⟩ := h
    change (Etake 1).run ws s0 _ _ at q
    rw [Paired.length rl]
    unfold Etake at q
    dsimp only at q
    split at q
    · rfl
    · exact q.elim
  · obtain ⟨F0, A0, s0, ws, fh, fz, ok, rl, q⟩ := h
    change (Etake 1).run ws s0 _ _ at q
    unfold Etake at q
    dsimp only at q
    split at q
    · rename_i t m
      obtain ⟨rfl, ⟨hm, hm2⟩, q⟩ := q
      obtain ⟨d, p, ns, i, rfl, hAd, hAp, hd, hp, hne⟩ : ∃ d p ns i, vs = [.ref d, .int m] ∧ A0 d = some (.stB p) ∧ A0 p = some .nums ∧ H d = some (.lst [.ref p, .int i]) ∧ H p = some (.lst (ns.map V.int)) ∧ ns ≠ [] := by
        cases rl with
        | cons h1 h2 =>
          cases h2 with
          | cons h2 h3 =>
            cases h3
            cases h2
            obtain ⟨d, k, rfl, hd, ht⟩ := h1
            cases k with
            | stB p =>
              obtain ⟨i, e1, e2⟩ := ok d _ hd
              obtain ⟨ns, e3, e4⟩ := ok p _ e2
              exact ⟨d, p, ns, i, rfl, hd, e2, e1, e4, e3⟩
            | err m => exact absurd (show 100 + m = 1 from ht) (by omega)
            | _ => cases ht
      have hlen : 0 < ns.length := List.length_pos_iff.mpr hne
      have hpd : p ≠ d := fun e => by rw [e, hAd] at hAp; cases hAp
      refine ⟨_, pss_cons (ps_asg (pe_op op_add (pe_ix ix_list (pv 0) pe_int (fun _ _ => rfl)) pe_int) (pg_sub (pv 0) pe_int set_list))
        (pss_one (ps_ret (pe_op op_mod (pe_ix ix_list (pe_ix ix_list (pv 0) pe_int (fun _ _ => rfl)) (pe_op op_mod (pe_op op_sub (pe_ix ix_list (pv 0) pe_int (fun _ _ => rfl)) pe_int) (pe_callB call_len_seq (by rfl) ml PySem.boot_len (pa_cons (pe_ix ix_list (pv 0) pe_int (fun _ _ => rfl)) pa_nil))) (fun _ _ => rfl)) (pv 1)))), ?_⟩
      have fin : ∀ r : Int, 0 ≤ r → r < m → Q (.int r) (upd H d (.lst [.ref p, .int (i + 1)])) := fun r h0 h1 => by
        have keep : ∀ b o, H b = some o → A0 b = none → (upd H d (.lst [.ref p, .int (i + 1)])) b = some o := fun b o e n => by
          rw [upd_ne (fun z => by rw [z, hAd] at n; cases n)]
          exact e
        refine q r h0 h1 (.int r) _ F0 A0 ⟨(rmD cl).le_refl A0, fun b o e n => ⟨keep b o e (Classical.not_not.mp n), n⟩⟩ (Sub.refl F0) (fun b o e => keep b o (fh b o e) (Classical.not_not.mp (fz b o e))) fz (fun _ _ _ => rfl) (okK_upd ok hAd ⟨i + 1, upd_same, hAp⟩) (.int r)
      have hdl : SqL K H d [.ref p, .int i] := .inl (.inl hd)
      refine ⟨.ref d, rfl, d, _, 1, .int i, rfl, rfl, hdl, rfl, i, 1, rfl, rfl, .ref d, rfl, d, _, 1, 1, rfl, rfl, hd, rfl, ?_⟩
      have hd1 : SqL K (upd H d (.lst [.ref p, .int (i + 1)])) d [.ref p, .int (i + 1)] := .inl (.inl upd_same)
      have hp1 : SqL K (upd H d (.lst [.ref p, .int (i + 1)])) p (ns.map V.int) := .inl (.inl (by rw [upd_ne hpd]; exact hp))
      have hj0 : 0 ≤ (i + 1 - 1) % ((ns.map V.int).length : Int) := Int.emod_nonneg _ (by rw [List.length_map]; omega)
      have hj1 : (i + 1 - 1) % ((ns.map V.int).length : Int) < ((ns.map V.int).length : Int) := Int.emod_lt_of_pos _ (by rw [List.length_map]; omega)
      obtain ⟨j, ej⟩ : ∃ j : Nat, (i + 1 - 1) % ((ns.map V.int).length : Int) = (j : Int) := ⟨_, (Int.toNat_of_nonneg hj0).symm⟩
      have hj2 : j < ns.length := by rw [ej, List.length_map] at hj1; omega
      have gq : (ns.map V.int)[j]? = some (.int ns[j]) := by rw [List.getElem?_map, List.getElem?_eq_getElem hj2]; rfl
      refine ⟨.ref d, rfl, d, _, 0, .ref p, rfl, rfl, hd1, rfl, .ref d, rfl, d, _, 1, .int (i + 1), rfl, rfl, hd1, rfl, i + 1, 1, rfl, rfl, .ref d, rfl, d, _, 0, .ref p, rfl, rfl, hd1, rfl, p, _, rfl, .inl hp1, _, _, rfl, rfl, (by show (0 : Int) < _; rw [List.length_map]; omega), p, _, _, .int ns[j], rfl, rfl, hp1, ?_, ?_⟩
      · rw [ej]
        exact atI_nat gq
      · exact ⟨.int m, rfl, _, m, rfl, rfl, hm, fin _ (Int.emod_nonneg _ (by omega)) (Int.emod_lt_of_pos _ hm)⟩
    · exact q.elim
end
def bnL : List Str := ["len", "min", "max", "sum", "sorted", "list", "tuple", "abs", "int", "str", "isinstance", "bool", "range", "enumerate", "zip", "set", "repr", "dict"]
def cnL : List (Str × Int) := [("MOST_PLACES", 40), ("MOST_ARCS", 20)]
def exL : List (Str × Nat) := [("NoRing", 0)]
def GXL (x : Str) (n : Nat) : Prop := (x, n) ∈ exL
section
variable {P : Program} {w : World} {K : PySem.W.Frag} {mg : Str → Option Value} {base : Heap} {cl : Nat → Addr}
theorem sc_law_draws : FnScope ["script", "many", "drawn", "base", "k", "cell", "number", "one"] ["script", "many"] (defScope s_law_draws) := ⟨rfl, rfl, rfl, by decide +kernel, rfl, by decide +kernel, by decide +kernel⟩
theorem ch_law_draws : chSs tr_law_draws (txt ["script", "many", "drawn", "base", "k", "cell", "number", "one"] (defScope s_law_draws) bnL cnL) (defBody s_law_draws) = true := by decide +kernel
theorem g_law_draws (T : Top K mg base bnL cnL GXL cl) (d : DefAt K mg "_law_draws" s_law_draws ["script", "many"]) : GoodP0 cl P w K mg base 1 "_law_draws" S_law_draws := by
  obtain ⟨f, fd, F, hm, hb, _⟩ := d.ex
  refine fn_good F hm sc_law_draws hb T (fun _ _ h => h) tr_law_draws ch_law_draws ?_ w_law_draws
  unfold tr_law_draws
  simp [fnSs, fnS, fn1, fnE, fnEs, fnI, GXL, exL, tr_law_draws_b1, tr_law_draws_b2, tr_law_draws_b3]
theorem g_law_take (T : Top K mg base bnL cnL GXL cl) (d : DefAt K mg "_law_take" s_law_take ["store", "many"]) : GoodE0 (rmD cl) cl P w K mg base 1 "_law_take" E_law_take := by
  obtain ⟨f, fd, F, hm, hb, _⟩ := d.ex
  exact ⟨f, fd, _, ok_law_take F (T.bn _ (by decide +kernel)), hm, F.kp, hb⟩
theorem sc_law_arc : FnScope ["store", "n", "way", "x", "half", "many"] ["store", "n", "way"] (defScope s_law_arc) := ⟨rfl, rfl, rfl, by decide +kernel, rfl, by decide +kernel, by decide +kernel⟩
theorem ch_law_arc : chSs tr_law_arc (txt ["store", "n", "way", "x", "half", "many"] (defScope s_law_arc) bnL cnL) (defBody s_law_arc) = true := by decide +kernel
theorem g_law_arc (T : Top K mg base bnL cnL GXL cl) (d : DefAt K mg "_law_arc" s_law_arc ["store", "n", "way"]) (h_law_take : GoodE0 (rmD cl) cl P w K mg base 1 "_law_take" E_law_take) : GoodE0 (rmD cl) cl P w K mg base 2 "_law_arc" E_law_arc := by
  obtain ⟨f, fd, F, hm, hb, _⟩ := d.ex
  refine fn_goodE (rm := rmD cl) F hm sc_law_arc hb T (G := GoodP0 cl P w K mg base 1) (GE := GoodE0 (rmD cl) cl P w K mg base 1) (fun _ _ h => h) (fun _ _ h => h) (xb := false) (fun h => nomatch h) tr_law_arc ch_law_arc ?_ w_law_arc
  unfold tr_law_arc
  simp [fnSs, fnS, fn1, fnE, fnEs, fnI, GXL, exL, h_law_take]
theorem sc_law_ring : FnScope ["store", "most", "arcs", "x", "n", "way", "found", "k", "arc", "start", "many", "after"] ["store", "most", "arcs"] (defScope s_law_ring) := ⟨rfl, rfl, rfl, by decide +kernel, rfl, by decide +kernel, by decide +kernel⟩
theorem ch_law_ring : chSs tr_law_ring (txt ["store", "most", "arcs", "x", "n", "way", "found", "k", "arc", "start", "many", "after"] (defScope s_law_ring) bnL cnL) (defBody s_law_ring) = true := by decide +kernel
theorem g_law_ring (T : Top K mg base bnL cnL GXL cl) (d : DefAt K mg "_law_ring" s_law_ring ["store", "most", "arcs"]) (h_law_take : GoodE0 (rmD cl) cl P w K mg base 1 "_law_take" E_law_take) (h_law_arc : GoodE0 (rmD cl) cl P w K mg base 2 "_law_arc" E_law_arc) : GoodE0 (rmD cl) cl P w K mg base 3 "_law_ring" E_law_ring := by
  obtain ⟨f, fd, F, hm, hb, _⟩ := d.ex
  replace h_law_take := h_law_take.mono (show 1 ≤ 2 by decide)
  refine fn_goodE (rm := rmD cl) F hm sc_law_ring hb T (G := GoodP0 cl P w K mg base 2) (GE := GoodE0 (rmD cl) cl P w K mg base 2) (fun _ _ h => h) (fun _ _ h => h) (xb := false) (fun h => nomatch h) tr_law_ring ch_law_ring ?_ w_law_ring
  unfold tr_law_ring
  simp [fnSs, fnS, fn1, fnE, fnEs, fnI, GXL, exL, tr_law_ring_r1, tr_law_ring_b1, h_law_take, h_law_arc]
theorem sc_law_held : FnScope ["n", "arc", "k"] ["n", "arc"] (defScope s_law_held) := ⟨rfl, rfl, rfl, by decide +kernel, rfl, by decide +kernel, by decide +kernel⟩
theorem ch_law_held : chSs tr_law_held (txt ["n", "arc", "k"] (defScope s_law_held) bnL cnL) (defBody s_law_held) = true := by decide +kernel
theorem g_law_held (T : Top K mg base bnL cnL GXL cl) (d : DefAt K mg "_law_held" s_law_held ["n", "arc"]) : GoodP0 cl P w K mg base 1 "_law_held" S_law_held := by
  obtain ⟨f, fd, F, hm, hb, _⟩ := d.ex
  refine fn_good F hm sc_law_held hb T (fun _ _ h => h) tr_law_held ch_law_held ?_ w_law_held
  unfold tr_law_held
  simp [fnSs, fnS, fn1, fnE, fnEs, fnI, GXL, exL, tr_law_held_e1]
theorem sc_law_greedy : FnScope ["ring", "x", "found", "start", "many", "held", "place"] ["ring", "x"] (defScope s_law_greedy) := ⟨rfl, rfl, rfl, by decide +kernel, rfl, by decide +kernel, by decide +kernel⟩
theorem ch_law_greedy : chSs tr_law_greedy (txt ["ring", "x", "found", "start", "many", "held", "place"] (defScope s_law_greedy) bnL cnL) (defBody s_law_greedy) = true := by decide +kernel
theorem g_law_greedy (T : Top K mg base bnL cnL GXL cl) (d : DefAt K mg "_law_greedy" s_law_greedy ["ring", "x"]) (h_law_held : GoodP0 cl P w K mg base 1 "_law_held" S_law_held) : GoodP0 cl P w K mg base 2 "_law_greedy" S_law_greedy := by
  obtain ⟨f, fd, F, hm, hb, _⟩ := d.ex
  refine fn_good F hm sc_law_greedy hb T (fun _ _ h => h) tr_law_greedy ch_law_greedy ?_ w_law_greedy
  unfold tr_law_greedy
  simp [fnSs, fnS, fn1, fnE, fnEs, fnI, GXL, exL, tr_law_greedy_c1, tr_law_greedy_b1, h_law_held]
theorem sc_law_spoilt : FnScope ["store", "row", "n", "at", "x", "odd", "ahead", "behind", "some"] ["store", "row", "n"] (defScope s_law_spoilt) := ⟨rfl, rfl, rfl, by decide +kernel, rfl, by decide +kernel, by decide +kernel⟩
theorem ch_law_spoilt : chSs tr_law_spoilt (txt ["store", "row", "n", "at", "x", "odd", "ahead", "behind", "some"] (defScope s_law_spoilt) bnL cnL) (defBody s_law_spoilt) = true := by decide +kernel
theorem g_law_spoilt (T : Top K mg base bnL cnL GXL cl) (d : DefAt K mg "_law_spoilt" s_law_spoilt ["store", "row", "n"]) (h_law_take : GoodE0 (rmD cl) cl P w K mg base 1 "_law_take" E_law_take) : GoodE0 (rmD cl) cl P w K mg base 2 "_law_spoilt" E_law_spoilt := by
  obtain ⟨f, fd, F, hm, hb, _⟩ := d.ex
  refine fn_goodE (rm := rmD cl) F hm sc_law_spoilt hb T (G := GoodP0 cl P w K mg base 1) (GE := GoodE0 (rmD cl) cl P w K mg base 1) (fun _ _ h => h) (fun _ _ h => h) (xb := false) (fun h => nomatch h) tr_law_spoilt ch_law_spoilt ?_ w_law_spoilt
  unfold tr_law_spoilt
  simp [fnSs, fnS, fn1, fnE, fnEs, fnI, GXL, exL, tr_law_spoilt_r1, tr_law_spoilt_r2, tr_law_spoilt_r3, tr_law_spoilt_r4, tr_law_spoilt_r5, tr_law_spoilt_r6, tr_law_spoilt_r7, tr_law_spoilt_r8, tr_law_spoilt_r9, h_law_take]
theorem sc_law_copy : FnScope ["ring"] ["ring"] (defScope s_law_copy) := ⟨rfl, rfl, rfl, by decide +kernel, rfl, by decide +kernel, by decide +kernel⟩
theorem ch_law_copy : chSs tr_law_copy (txt ["ring"] (defScope s_law_copy) bnL cnL) (defBody s_law_copy) = true := by decide +kernel
theorem g_law_copy (T : Top K mg base bnL cnL GXL cl) (d : DefAt K mg "_law_copy" s_law_copy ["ring"]) : GoodP0 cl P w K mg base 1 "_law_copy" S_law_copy := by
  obtain ⟨f, fd, F, hm, hb, _⟩ := d.ex
  refine fn_good F hm sc_law_copy hb T (fun _ _ h => h) tr_law_copy ch_law_copy ?_ w_law_copy
  unfold tr_law_copy
  simp [fnSs, fnS, fn1, fnE, fnEs, fnI, GXL, exL]
theorem scis_number : FnScope ["thing", "beyond"] ["thing", "beyond"] (defScope sis_number) := ⟨rfl, rfl, rfl, by decide +kernel, rfl, by decide +kernel, by decide +kernel⟩
theorem chis_number : chSs tris_number (txt ["thing", "beyond"] (defScope sis_number) bnL cnL) (defBody sis_number) = true := by decide +kernel
theorem gis_number (T : Top K mg base bnL cnL GXL cl) (d : DefAt K mg "is_number" sis_number ["thing", "beyond"]) : GoodP0 cl P w K mg base 1 "is_number" Sis_number := by
  obtain ⟨f, fd, F, hm, hb, _⟩ := d.ex
  refine fn_good F hm scis_number hb T (fun _ _ h => h) tris_number chis_number ?_ w_is_number
  unfold tris_number
  simp [fnSs, fnS, fn1, fnE, fnEs, fnI, GXL, exL]
theorem scis_arc : FnScope ["thing", "n"] ["thing", "n"] (defScope sis_arc) := ⟨rfl, rfl, rfl, by decide +kernel, rfl, by decide +kernel, by decide +kernel⟩
theorem chis_arc : chSs tris_arc (txt ["thing", "n"] (defScope sis_arc) bnL cnL) (defBody sis_arc) = true := by decide +kernel
theorem gis_arc (T : Top K mg base bnL cnL GXL cl) (d : DefAt K mg "is_arc" sis_arc ["thing", "n"]) (his_number : GoodP0 cl P w K mg base 1 "is_number" Sis_number) : GoodP0 cl P w K mg base 2 "is_arc" Sis_arc := by
  obtain ⟨f, fd, F, hm, hb, _⟩ := d.ex
  refine fn_good F hm scis_arc hb T (fun _ _ h => h) tris_arc chis_arc ?_ w_is_arc
  unfold tris_arc
  simp [fnSs, fnS, fn1, fnE, fnEs, fnI, GXL, exL, his_number]
theorem scis_ring : FnScope ["thing", "arc"] ["thing"] (defScope sis_ring) := ⟨rfl, rfl, rfl, by decide +kernel, rfl, by decide +kernel, by decide +kernel⟩
theorem chis_ring : chSs tris_ring (txt ["thing", "arc"] (defScope sis_ring) bnL cnL) (defBody sis_ring) = true := by decide +kernel
theorem gis_ring (T : Top K mg base bnL cnL GXL cl) (d : DefAt K mg "is_ring" sis_ring ["thing"]) (his_number : GoodP0 cl P w K mg base 1 "is_number" Sis_number) (his_arc : GoodP0 cl P w K mg base 2 "is_arc" Sis_arc) : GoodP0 cl P w K mg base 3 "is_ring" Sis_ring := by
  obtain ⟨f, fd, F, hm, hb, _⟩ := d.ex
  replace his_number := his_number.mono (show 1 ≤ 2 by decide)
  refine fn_good F hm scis_ring hb T (fun _ _ h => h) tris_ring chis_ring ?_ w_is_ring
  unfold tris_ring
  simp [fnSs, fnS, fn1, fnE, fnEs, fnI, GXL, exL, tris_ring_c1, his_number, his_arc]
theorem scneed_ring : FnScope ["thing"] ["thing"] (defScope sneed_ring) := ⟨rfl, rfl, rfl, by decide +kernel, rfl, by decide +kernel, by decide +kernel⟩
theorem chneed_ring : chSs trneed_ring (txt ["thing"] (defScope sneed_ring) bnL cnL) (defBody sneed_ring) = true := by decide +kernel
theorem gneed_ring (T : Top K mg base bnL cnL GXL cl) (d : DefAt K mg "need_ring" sneed_ring ["thing"]) (his_ring : GoodP0 cl P w K mg base 3 "is_ring" Sis_ring) : GoodP0 cl P w K mg base 4 "need_ring" Sneed_ring := by
  obtain ⟨f, fd, F, hm, hb, _⟩ := d.ex
  refine fn_good F hm scneed_ring hb T (fun _ _ h => h) trneed_ring chneed_ring ?_ w_need_ring
  unfold trneed_ring
  simp [fnSs, fnS, fn1, fnE, fnEs, fnI, GXL, exL, his_ring]
theorem scis_rising : FnScope ["thing", "beyond", "one"] ["thing", "beyond"] (defScope sis_rising) := ⟨rfl, rfl, rfl, by decide +kernel, rfl, by decide +kernel, by decide +kernel⟩
theorem chis_rising : chSs tris_rising (txt ["thing", "beyond", "one"] (defScope sis_rising) bnL cnL) (defBody sis_rising) = true := by decide +kernel
theorem gis_rising (T : Top K mg base bnL cnL GXL cl) (d : DefAt K mg "is_rising" sis_rising ["thing", "beyond"]) (his_number : GoodP0 cl P w K mg base 1 "is_number" Sis_number) : GoodP0 cl P w K mg base 2 "is_rising" Sis_rising := by
  obtain ⟨f, fd, F, hm, hb, _⟩ := d.ex
  refine fn_good F hm scis_rising hb T (fun _ _ h => h) tris_rising chis_rising ?_ w_is_rising
  unfold tris_rising
  simp [fnSs, fnS, fn1, fnE, fnEs, fnI, GXL, exL, tris_rising_c1, tris_rising_r1, his_number]
theorem scholds : FnScope ["n", "arc", "place"] ["n", "arc", "place"] (defScope sholds) := ⟨rfl, rfl, rfl, by decide +kernel, rfl, by decide +kernel, by decide +kernel⟩
theorem chholds : chSs trholds (txt ["n", "arc", "place"] (defScope sholds) bnL cnL) (defBody sholds) = true := by decide +kernel
theorem gholds (T : Top K mg base bnL cnL GXL cl) (d : DefAt K mg "holds" sholds ["n", "arc", "place"]) : GoodP0 cl P w K mg base 1 "holds" Sholds := by
  obtain ⟨f, fd, F, hm, hb, _⟩ := d.ex
  refine fn_good F hm scholds hb T (fun _ _ h => h) trholds chholds ?_ w_holds
  unfold trholds
  simp [fnSs, fnS, fn1, fnE, fnEs, fnI, GXL, exL]
theorem schits_all : FnScope ["ring", "thing", "arc", "place"] ["ring", "thing"] (defScope shits_all) := ⟨rfl, rfl, rfl, by decide +kernel, rfl, by decide +kernel, by decide +kernel⟩
theorem chhits_all : chSs trhits_all (txt ["ring", "thing", "arc", "place"] (defScope shits_all) bnL cnL) (defBody shits_all) = true := by decide +kernel
theorem ghits_all (T : Top K mg base bnL cnL GXL cl) (d : DefAt K mg "hits_all" shits_all ["ring", "thing"]) (hneed_ring : GoodP0 cl P w K mg base 4 "need_ring" Sneed_ring) (his_rising : GoodP0 cl P w K mg base 2 "is_rising" Sis_rising) (hholds : GoodP0 cl P w K mg base 1 "holds" Sholds) : GoodP0 cl P w K mg base 5 "hits_all" Shits_all := by
  obtain ⟨f, fd, F, hm, hb, _⟩ := d.ex
  replace his_rising := his_rising.mono (show 2 ≤ 4 by decide)
  replace hholds := hholds.mono (show 1 ≤ 4 by decide)
  refine fn_good F hm schits_all hb T (fun _ _ h => h) trhits_all chhits_all ?_ w_hits_all
  unfold trhits_all
  simp [fnSs, fnS, fn1, fnE, fnEs, fnI, GXL, exL, trhits_all_c1, trhits_all_b1, hneed_ring, his_rising, hholds]
theorem sc_law_rising : FnScope ["thing", "beyond", "one", "k"] ["thing", "beyond"] (defScope s_law_rising) := ⟨rfl, rfl, rfl, by decide +kernel, rfl, by decide +kernel, by decide +kernel⟩
theorem ch_law_rising : chSs tr_law_rising (txt ["thing", "beyond", "one", "k"] (defScope s_law_rising) bnL cnL) (defBody s_law_rising) = true := by decide +kernel
theorem g_law_rising (T : Top K mg base bnL cnL GXL cl) (d : DefAt K mg "_law_rising" s_law_rising ["thing", "beyond"]) : GoodP0 cl P w K mg base 1 "_law_rising" S_law_rising := by
  obtain ⟨f, fd, F, hm, hb, _⟩ := d.ex
  refine fn_good F hm sc_law_rising hb T (fun _ _ h => h) tr_law_rising ch_law_rising ?_ w_law_rising
  unfold tr_law_rising
  simp [fnSs, fnS, fn1, fnE, fnEs, fnI, GXL, exL, tr_law_rising_b1, tr_law_rising_c1]
theorem sc_law_hits : FnScope ["ring", "thing", "arc", "x"] ["ring", "thing"] (defScope s_law_hits) := ⟨rfl, rfl, rfl, by decide +kernel, rfl, by decide +kernel, by decide +kernel⟩
theorem ch_law_hits : chSs tr_law_hits (txt ["ring", "thing", "arc", "x"] (defScope s_law_hits) bnL cnL) (defBody s_law_hits) = true := by decide +kernel
theorem g_law_hits (T : Top K mg base bnL cnL GXL cl) (d : DefAt K mg "_law_hits" s_law_hits ["ring", "thing"]) (h_law_rising : GoodP0 cl P w K mg base 1 "_law_rising" S_law_rising) (h_law_held : GoodP0 cl P w K mg base 1 "_law_held" S_law_held) : GoodP0 cl P w K mg base 2 "_law_hits" S_law_hits := by
  obtain ⟨f, fd, F, hm, hb, _⟩ := d.ex
  refine fn_good F hm sc_law_hits hb T (fun _ _ h => h) tr_law_hits ch_law_hits ?_ w_law_hits
  unfold tr_law_hits
  simp [fnSs, fnS, fn1, fnE, fnEs, fnI, GXL, exL, tr_law_hits_c1, tr_law_hits_b1, h_law_rising, h_law_held]
theorem sc_law_right : FnScope ["ring", "thing", "kept", "handed", "found"] ["ring", "thing"] (defScope s_law_right) := ⟨rfl, rfl, rfl, by decide +kernel, rfl, by decide +kernel, by decide +kernel⟩
theorem ch_law_right : chSs tr_law_right (txt ["ring", "thing", "kept", "handed", "found"] (defScope s_law_right) bnL cnL) (defBody s_law_right) = true := by decide +kernel
theorem g_law_right (T : Top K mg base bnL cnL GXL cl) (d : DefAt K mg "_law_right" s_law_right ["ring", "thing"]) (h_law_copy : GoodP0 cl P w K mg base 1 "_law_copy" S_law_copy) (hhits_all : GoodP0 cl P w K mg base 5 "hits_all" Shits_all) (h_law_hits : GoodP0 cl P w K mg base 2 "_law_hits" S_law_hits) : GoodP0 cl P w K mg base 6 "_law_right" S_law_right := by
  obtain ⟨f, fd, F, hm, hb, _⟩ := d.ex
  replace h_law_copy := h_law_copy.mono (show 1 ≤ 5 by decide)
  replace h_law_hits := h_law_hits.mono (show 2 ≤ 5 by decide)
  refine fn_good F hm sc_law_right hb T (fun _ _ h => h) tr_law_right ch_law_right ?_ w_law_right
  unfold tr_law_right
  simp [fnSs, fnS, fn1, fnE, fnEs, fnI, GXL, exL, tr_law_right_r1, h_law_copy, hhits_all, h_law_hits]
theorem sclaw : FnScope ["script", "store", "turn", "ring", "n", "drawn", "x", "row", "thing"] ["script"] (defScope slaw) := ⟨rfl, rfl, rfl, by decide +kernel, rfl, by decide +kernel, by decide +kernel⟩
theorem chlaw : chSs trlaw (txt ["script", "store", "turn", "ring", "n", "drawn", "x", "row", "thing"] (defScope slaw) bnL cnL) (defBody slaw) = true := by decide +kernel
theorem glaw {f : Addr} {fd : FuncData} (T : Top K mg base bnL cnL GXL cl) (F : Fun K "law" "law" slaw f fd) (h_law_draws : GoodP0 cl P w K mg base 1 "_law_draws" S_law_draws) (h_law_ring : GoodE0 (rmD cl) cl P w K mg base 3 "_law_ring" E_law_ring) (h_law_greedy : GoodP0 cl P w K mg base 2 "_law_greedy" S_law_greedy) (h_law_spoilt : GoodE0 (rmD cl) cl P w K mg base 2 "_law_spoilt" E_law_spoilt) (h_law_take : GoodE0 (rmD cl) cl P w K mg base 1 "_law_take" E_law_take) (h_law_right : GoodP0 cl P w K mg base 6 "_law_right" S_law_right) : FnG P w K mg base 7 f fd ["script"] (spE (rmD cl) cl Elaw) := by
  replace h_law_draws := h_law_draws.mono (show 1 ≤ 6 by decide)
  replace h_law_ring := h_law_ring.mono (show 3 ≤ 6 by decide)
  replace h_law_greedy := h_law_greedy.mono (show 2 ≤ 6 by decide)
  replace h_law_spoilt := h_law_spoilt.mono (show 2 ≤ 6 by decide)
  replace h_law_take := h_law_take.mono (show 1 ≤ 6 by decide)
  refine fn_okE (rm := rmD cl) F sclaw T (G := GoodP0 cl P w K mg base 6) (GE := GoodE0 (rmD cl) cl P w K mg base 6) (fun _ _ h => h) (fun _ _ h => h) (xb := false) (fun h => nomatch h) trlaw chlaw ?_ w_law
  unfold trlaw
  simp [fnSs, fnS, fn1, fnE, fnEs, fnI, GXL, exL, trlaw_c1, trlaw_b1, trlaw_b2, trlaw_b3, trlaw_r1, trlaw_r2, trlaw_r3, trlaw_r4, trlaw_b4, h_law_draws, h_law_ring, h_law_greedy, h_law_spoilt, h_law_take, h_law_right, hok_store]
theorem all_mk {h : Heap} {fa : Addr} (X : K.In h) (G : h.Ns mainGlobals mg) (hfa : mg "law" = some (.ref fa))
    {t_MOST_PLACES : Tok}
    {t_MOST_ARCS : Tok}
    {C_NoRing : Addr}
    {f__law_draws : Addr} {od__law_draws an__law_draws : Option Addr} {sl__law_draws : Array (Option Value)} {oc__law_draws kV__law_draws dc__law_draws pm__law_draws cd__law_draws ct__law_draws : Value}
    {f__law_take : Addr} {od__law_take an__law_take : Option Addr} {sl__law_take : Array (Option Value)} {oc__law_take kV__law_take dc__law_take pm__law_take cd__law_take ct__law_take : Value}
    {f__law_arc : Addr} {od__law_arc an__law_arc : Option Addr} {sl__law_arc : Array (Option Value)} {oc__law_arc kV__law_arc dc__law_arc pm__law_arc cd__law_arc ct__law_arc : Value}
    {f__law_ring : Addr} {od__law_ring an__law_ring : Option Addr} {sl__law_ring : Array (Option Value)} {oc__law_ring kV__law_ring dc__law_ring pm__law_ring cd__law_ring ct__law_ring : Value}
    {f__law_held : Addr} {od__law_held an__law_held : Option Addr} {sl__law_held : Array (Option Value)} {oc__law_held kV__law_held dc__law_held pm__law_held cd__law_held ct__law_held : Value}
    {f__law_greedy : Addr} {od__law_greedy an__law_greedy : Option Addr} {sl__law_greedy : Array (Option Value)} {oc__law_greedy kV__law_greedy dc__law_greedy pm__law_greedy cd__law_greedy ct__law_greedy : Value}
    {f__law_spoilt : Addr} {od__law_spoilt an__law_spoilt : Option Addr} {sl__law_spoilt : Array (Option Value)} {oc__law_spoilt kV__law_spoilt dc__law_spoilt pm__law_spoilt cd__law_spoilt ct__law_spoilt : Value}
    {f__law_copy : Addr} {od__law_copy an__law_copy : Option Addr} {sl__law_copy : Array (Option Value)} {oc__law_copy kV__law_copy dc__law_copy pm__law_copy cd__law_copy ct__law_copy : Value}
    {f_is_number : Addr} {od_is_number an_is_number : Option Addr} {sl_is_number : Array (Option Value)} {oc_is_number kV_is_number dc_is_number pm_is_number cd_is_number ct_is_number : Value}
    {f_is_arc : Addr} {od_is_arc an_is_arc : Option Addr} {sl_is_arc : Array (Option Value)} {oc_is_arc kV_is_arc dc_is_arc pm_is_arc cd_is_arc ct_is_arc : Value}
    {f_is_ring : Addr} {od_is_ring an_is_ring : Option Addr} {sl_is_ring : Array (Option Value)} {oc_is_ring kV_is_ring dc_is_ring pm_is_ring cd_is_ring ct_is_ring : Value}
    {f_need_ring : Addr} {od_need_ring an_need_ring : Option Addr} {sl_need_ring : Array (Option Value)} {oc_need_ring kV_need_ring dc_need_ring pm_need_ring cd_need_ring ct_need_ring : Value}
    {f_is_rising : Addr} {od_is_rising an_is_rising : Option Addr} {sl_is_rising : Array (Option Value)} {oc_is_rising kV_is_rising dc_is_rising pm_is_rising cd_is_rising ct_is_rising : Value}
    {f_holds : Addr} {od_holds an_holds : Option Addr} {sl_holds : Array (Option Value)} {oc_holds kV_holds dc_holds pm_holds cd_holds ct_holds : Value}
    {f_hits_all : Addr} {od_hits_all an_hits_all : Option Addr} {sl_hits_all : Array (Option Value)} {oc_hits_all kV_hits_all dc_hits_all pm_hits_all cd_hits_all ct_hits_all : Value}
    {f__law_rising : Addr} {od__law_rising an__law_rising : Option Addr} {sl__law_rising : Array (Option Value)} {oc__law_rising kV__law_rising dc__law_rising pm__law_rising cd__law_rising ct__law_rising : Value}
    {f__law_hits : Addr} {od__law_hits an__law_hits : Option Addr} {sl__law_hits : Array (Option Value)} {oc__law_hits kV__law_hits dc__law_hits pm__law_hits cd__law_hits ct__law_hits : Value}
    {f__law_right : Addr} {od__law_right an__law_right : Option Addr} {sl__law_right : Array (Option Value)} {oc__law_right kV__law_right dc__law_right pm__law_right cd__law_right ct__law_right : Value}
    {f_law : Addr} {od_law an_law : Option Addr} {sl_law : Array (Option Value)} {oc_law kV_law dc_law pm_law cd_law ct_law : Value}
    (z_len : PySem.W.nsIn K mainGlobals "len" = some none)
    (z_min : PySem.W.nsIn K mainGlobals "min" = some none)
    (z_max : PySem.W.nsIn K mainGlobals "max" = some none)
    (z_sum : PySem.W.nsIn K mainGlobals "sum" = some none)
    (z_sorted : PySem.W.nsIn K mainGlobals "sorted" = some none)
    (z_list : PySem.W.nsIn K mainGlobals "list" = some none)
    (z_tuple : PySem.W.nsIn K mainGlobals "tuple" = some none)
    (z_abs : PySem.W.nsIn K mainGlobals "abs" = some none)
    (z_int : PySem.W.nsIn K mainGlobals "int" = some none)
    (z_str : PySem.W.nsIn K mainGlobals "str" = some none)
    (z_isinstance : PySem.W.nsIn K mainGlobals "isinstance" = some none)
    (z_bool : PySem.W.nsIn K mainGlobals "bool" = some none)
    (z_range : PySem.W.nsIn K mainGlobals "range" = some none)
    (z_enumerate : PySem.W.nsIn K mainGlobals "enumerate" = some none)
    (z_zip : PySem.W.nsIn K mainGlobals "zip" = some none)
    (z_set : PySem.W.nsIn K mainGlobals "set" = some none)
    (z_repr : PySem.W.nsIn K mainGlobals "repr" = some none)
    (z_dict : PySem.W.nsIn K mainGlobals "dict" = some none)
    (n_MOST_PLACES : PySem.W.nsIn K mainGlobals "MOST_PLACES" = some (some (.int 40 t_MOST_PLACES)))
    (n_MOST_ARCS : PySem.W.nsIn K mainGlobals "MOST_ARCS" = some (some (.int 20 t_MOST_ARCS)))
    (xa_NoRing : PySem.W.nsIn K mainGlobals "NoRing" = some (some (.ref C_NoRing)))
    (xe_NoRing : PySem.W.excIn K C_NoRing [.type "ValueError", .type "Exception", .type "BaseException", .type "object"] "ValueError.__new__" = true)
    (xk_NoRing : PySem.W.keepIn K (.ref C_NoRing) = true)
    (xb_NoRing : PySem.W.subIn K (.ref C_NoRing) (.type "BaseException") = some true)
    (xt_NoRing : PySem.W.typeIn K (.ref C_NoRing) = some (.type "type"))
    (a__law_draws : PySem.W.nsIn K mainGlobals "_law_draws" = some (some (.ref f__law_draws)))
    (l__law_draws : K.lookup f__law_draws = some ⟨oc__law_draws, od__law_draws, .func (PySem.W.fnOf "_law_draws" "_law_draws" (defArgs s_law_draws) (defBody s_law_draws) (defScope s_law_draws) .none kV__law_draws dc__law_draws pm__law_draws an__law_draws cd__law_draws ct__law_draws), sl__law_draws⟩)
    (c__law_draws : PySem.W.codeIn K cd__law_draws "_law_draws" = true)
    (k__law_draws : PySem.W.keepIn K (.ref f__law_draws) = true)
    (a__law_take : PySem.W.nsIn K mainGlobals "_law_take" = some (some (.ref f__law_take)))
    (l__law_take : K.lookup f__law_take = some ⟨oc__law_take, od__law_take, .func (PySem.W.fnOf "_law_take" "_law_take" (defArgs s_law_take) (defBody s_law_take) (defScope s_law_take) .none kV__law_take dc__law_take pm__law_take an__law_take cd__law_take ct__law_take), sl__law_take⟩)
    (c__law_take : PySem.W.codeIn K cd__law_take "_law_take" = true)
    (k__law_take : PySem.W.keepIn K (.ref f__law_take) = true)
    (a__law_arc : PySem.W.nsIn K mainGlobals "_law_arc" = some (some (.ref f__law_arc)))
    (l__law_arc : K.lookup f__law_arc = some ⟨oc__law_arc, od__law_arc, .func (PySem.W.fnOf "_law_arc" "_law_arc" (defArgs s_law_arc) (defBody s_law_arc) (defScope s_law_arc) .none kV__law_arc dc__law_arc pm__law_arc an__law_arc cd__law_arc ct__law_arc), sl__law_arc⟩)
    (c__law_arc : PySem.W.codeIn K cd__law_arc "_law_arc" = true)
    (k__law_arc : PySem.W.keepIn K (.ref f__law_arc) = true)
    (a__law_ring : PySem.W.nsIn K mainGlobals "_law_ring" = some (some (.ref f__law_ring)))
    (l__law_ring : K.lookup f__law_ring = some ⟨oc__law_ring, od__law_ring, .func (PySem.W.fnOf "_law_ring" "_law_ring" (defArgs s_law_ring) (defBody s_law_ring) (defScope s_law_ring) .none kV__law_ring dc__law_ring pm__law_ring an__law_ring cd__law_ring ct__law_ring), sl__law_ring⟩)
    (c__law_ring : PySem.W.codeIn K cd__law_ring "_law_ring" = true)
    (k__law_ring : PySem.W.keepIn K (.ref f__law_ring) = true)
    (a__law_held : PySem.W.nsIn K mainGlobals "_law_held" = some (some (.ref f__law_held)))
    (l__law_held : K.lookup f__law_held = some ⟨oc__law_held, od__law_held, .func (PySem.W.fnOf "_law_held" "_law_held" (defArgs s_law_held) (defBody s_law_held) (defScope s_law_held) .none kV__law_held dc__law_held pm__law_held an__law_held cd__law_held ct__law_held), sl__law_held⟩)
    (c__law_held : PySem.W.codeIn K cd__law_held "_law_held" = true)
    (k__law_held : PySem.W.keepIn K (.ref f__law_held) = true)
    (a__law_greedy : PySem.W.nsIn K mainGlobals "_law_greedy" = some (some (.ref f__law_greedy)))
    (l__law_greedy : K.lookup f__law_greedy = some ⟨oc__law_greedy, od__law_greedy, .func (PySem.W.fnOf "_law_greedy" "_law_greedy" (defArgs s_law_greedy) (defBody s_law_greedy) (defScope s_law_greedy) .none kV__law_greedy dc__law_greedy pm__law_greedy an__law_greedy cd__law_greedy ct__law_greedy), sl__law_greedy⟩)
    (c__law_greedy : PySem.W.codeIn K cd__law_greedy "_law_greedy" = true)
    (k__law_greedy : PySem.W.keepIn K (.ref f__law_greedy) = true)
    (a__law_spoilt : PySem.W.nsIn K mainGlobals "_law_spoilt" = some (some (.ref f__law_spoilt)))
    (l__law_spoilt : K.lookup f__law_spoilt = some ⟨oc__law_spoilt, od__law_spoilt, .func (PySem.W.fnOf "_law_spoilt" "_law_spoilt" (defArgs s_law_spoilt) (defBody s_law_spoilt) (defScope s_law_spoilt) .none kV__law_spoilt dc__law_spoilt pm__law_spoilt an__law_spoilt cd__law_spoilt ct__law_spoilt), sl__law_spoilt⟩)
    (c__law_spoilt : PySem.W.codeIn K cd__law_spoilt "_law_spoilt" = true)
    (k__law_spoilt : PySem.W.keepIn K (.ref f__law_spoilt) = true)
    (a__law_copy : PySem.W.nsIn K mainGlobals "_law_copy" = some (some (.ref f__law_copy)))
    (l__law_copy : K.lookup f__law_copy = some ⟨oc__law_copy, od__law_copy, .func (PySem.W.fnOf "_law_copy" "_law_copy" (defArgs s_law_copy) (defBody s_law_copy) (defScope s_law_copy) .none kV__law_copy dc__law_copy pm__law_copy an__law_copy cd__law_copy ct__law_copy), sl__law_copy⟩)
    (c__law_copy : PySem.W.codeIn K cd__law_copy "_law_copy" = true)
    (k__law_copy : PySem.W.keepIn K (.ref f__law_copy) = true)
    (a_is_number : PySem.W.nsIn K mainGlobals "is_number" = some (some (.ref f_is_number)))
    (l_is_number : K.lookup f_is_number = some ⟨oc_is_number, od_is_number, .func (PySem.W.fnOf "is_number" "is_number" (defArgs sis_number) (defBody sis_number) (defScope sis_number) .none kV_is_number dc_is_number pm_is_number an_is_number cd_is_number ct_is_number), sl_is_number⟩)
    (c_is_number : PySem.W.codeIn K cd_is_number "is_number" = true)
    (k_is_number : PySem.W.keepIn K (.ref f_is_number) = true)
    (a_is_arc : PySem.W.nsIn K mainGlobals "is_arc" = some (some (.ref f_is_arc)))
    (l_is_arc : K.lookup f_is_arc = some ⟨oc_is_arc, od_is_arc, .func (PySem.W.fnOf "is_arc" "is_arc" (defArgs sis_arc) (defBody sis_arc) (defScope sis_arc) .none kV_is_arc dc_is_arc pm_is_arc an_is_arc cd_is_arc ct_is_arc), sl_is_arc⟩)
    (c_is_arc : PySem.W.codeIn K cd_is_arc "is_arc" = true)
    (k_is_arc : PySem.W.keepIn K (.ref f_is_arc) = true)
    (a_is_ring : PySem.W.nsIn K mainGlobals "is_ring" = some (some (.ref f_is_ring)))
    (l_is_ring : K.lookup f_is_ring = some ⟨oc_is_ring, od_is_ring, .func (PySem.W.fnOf "is_ring" "is_ring" (defArgs sis_ring) (defBody sis_ring) (defScope sis_ring) .none kV_is_ring dc_is_ring pm_is_ring an_is_ring cd_is_ring ct_is_ring), sl_is_ring⟩)
    (c_is_ring : PySem.W.codeIn K cd_is_ring "is_ring" = true)
    (k_is_ring : PySem.W.keepIn K (.ref f_is_ring) = true)
    (a_need_ring : PySem.W.nsIn K mainGlobals "need_ring" = some (some (.ref f_need_ring)))
    (l_need_ring : K.lookup f_need_ring = some ⟨oc_need_ring, od_need_ring, .func (PySem.W.fnOf "need_ring" "need_ring" (defArgs sneed_ring) (defBody sneed_ring) (defScope sneed_ring) .none kV_need_ring dc_need_ring pm_need_ring an_need_ring cd_need_ring ct_need_ring), sl_need_ring⟩)
    (c_need_ring : PySem.W.codeIn K cd_need_ring "need_ring" = true)
    (k_need_ring : PySem.W.keepIn K (.ref f_need_ring) = true)
    (a_is_rising : PySem.W.nsIn K mainGlobals "is_rising" = some (some (.ref f_is_rising)))
    (l_is_rising : K.lookup f_is_rising = some ⟨oc_is_rising, od_is_rising, .func (PySem.W.fnOf "is_rising" "is_rising" (defArgs sis_rising) (defBody sis_rising) (defScope sis_rising) .none kV_is_rising dc_is_rising pm_is_rising an_is_rising cd_is_rising ct_is_rising), sl_is_rising⟩)
    (c_is_rising : PySem.W.codeIn K cd_is_rising "is_rising" = true)
    (k_is_rising : PySem.W.keepIn K (.ref f_is_rising) = true)
    (a_holds : PySem.W.nsIn K mainGlobals "holds" = some (some (.ref f_holds)))
    (l_holds : K.lookup f_holds = some ⟨oc_holds, od_holds, .func (PySem.W.fnOf "holds" "holds" (defArgs sholds) (defBody sholds) (defScope sholds) .none kV_holds dc_holds pm_holds an_holds cd_holds ct_holds), sl_holds⟩)
    (c_holds : PySem.W.codeIn K cd_holds "holds" = true)
    (k_holds : PySem.W.keepIn K (.ref f_holds) = true)
    (a_hits_all : PySem.W.nsIn K mainGlobals "hits_all" = some (some (.ref f_hits_all)))
    (l_hits_all : K.lookup f_hits_all = some ⟨oc_hits_all, od_hits_all, .func (PySem.W.fnOf "hits_all" "hits_all" (defArgs shits_all) (defBody shits_all) (defScope shits_all) .none kV_hits_all dc_hits_all pm_hits_all an_hits_all cd_hits_all ct_hits_all), sl_hits_all⟩)
    (c_hits_all : PySem.W.codeIn K cd_hits_all "hits_all" = true)
    (k_hits_all : PySem.W.keepIn K (.ref f_hits_all) = true)
    (a__law_rising : PySem.W.nsIn K mainGlobals "_law_rising" = some (some (.ref f__law_rising)))
    (l__law_rising : K.lookup f__law_rising = some ⟨oc__law_rising, od__law_rising, .func (PySem.W.fnOf "_law_rising" "_law_rising" (defArgs s_law_rising) (defBody s_law_rising) (defScope s_law_rising) .none kV__law_rising dc__law_rising pm__law_rising an__law_rising cd__law_rising ct__law_rising), sl__law_rising⟩)
    (c__law_rising : PySem.W.codeIn K cd__law_rising "_law_rising" = true)
    (k__law_rising : PySem.W.keepIn K (.ref f__law_rising) = true)
    (a__law_hits : PySem.W.nsIn K mainGlobals "_law_hits" = some (some (.ref f__law_hits)))
    (l__law_hits : K.lookup f__law_hits = some ⟨oc__law_hits, od__law_hits, .func (PySem.W.fnOf "_law_hits" "_law_hits" (defArgs s_law_hits) (defBody s_law_hits) (defScope s_law_hits) .none kV__law_hits dc__law_hits pm__law_hits an__law_hits cd__law_hits ct__law_hits), sl__law_hits⟩)
    (c__law_hits : PySem.W.codeIn K cd__law_hits "_law_hits" = true)
    (k__law_hits : PySem.W.keepIn K (.ref f__law_hits) = true)
    (a__law_right : PySem.W.nsIn K mainGlobals "_law_right" = some (some (.ref f__law_right)))
    (l__law_right : K.lookup f__law_right = some ⟨oc__law_right, od__law_right, .func (PySem.W.fnOf "_law_right" "_law_right" (defArgs s_law_right) (defBody s_law_right) (defScope s_law_right) .none kV__law_right dc__law_right pm__law_right an__law_right cd__law_right ct__law_right), sl__law_right⟩)
    (c__law_right : PySem.W.codeIn K cd__law_right "_law_right" = true)
    (k__law_right : PySem.W.keepIn K (.ref f__law_right) = true)
    (a_law : PySem.W.nsIn K mainGlobals "law" = some (some (.ref f_law)))
    (l_law : K.lookup f_law = some ⟨oc_law, od_law, .func (PySem.W.fnOf "law" "law" (defArgs slaw) (defBody slaw) (defScope slaw) .none kV_law dc_law pm_law an_law cd_law ct_law), sl_law⟩)
    (c_law : PySem.W.codeIn K cd_law "law" = true)
    (k_law : PySem.W.keepIn K (.ref f_law) = true)
    (noL : noLst K = true) :
    ∃ (cl : Nat → Addr) (fd : FuncData), noLst K = true ∧ (∀ (s : Shared) (v : Value), BindsTo s fd ⟨[v], []⟩ [("script", v)]) ∧ ∀ base : Heap, K.In base → base.Ns mainGlobals mg → SmB base → FnG P w K mg base 7 fa fd ["script"] (spE (rmD cl) cl Elaw) := by
  have d__law_draws : DefAt K mg "_law_draws" s_law_draws ["script", "many"] := defAt_mk X G a__law_draws l__law_draws c__law_draws k__law_draws fun _ _ _ _ _ _ us hl => match us, hl with | [_, _], _ => rfl
  have d__law_take : DefAt K mg "_law_take" s_law_take ["store", "many"] := defAt_mk X G a__law_take l__law_take c__law_take k__law_take fun _ _ _ _ _ _ us hl => match us, hl with | [_, _], _ => rfl
  have d__law_arc : DefAt K mg "_law_arc" s_law_arc ["store", "n", "way"] := defAt_mk X G a__law_arc l__law_arc c__law_arc k__law_arc fun _ _ _ _ _ _ us hl => match us, hl with | [_, _, _], _ => rfl
  have d__law_ring : DefAt K mg "_law_ring" s_law_ring ["store", "most", "arcs"] := defAt_mk X G a__law_ring l__law_ring c__law_ring k__law_ring fun _ _ _ _ _ _ us hl => match us, hl with | [_, _, _], _ => rfl
  have d__law_held : DefAt K mg "_law_held" s_law_held ["n", "arc"] := defAt_mk X G a__law_held l__law_held c__law_held k__law_held fun _ _ _ _ _ _ us hl => match us, hl with | [_, _], _ => rfl
  have d__law_greedy : DefAt K mg "_law_greedy" s_law_greedy ["ring", "x"] := defAt_mk X G a__law_greedy l__law_greedy c__law_greedy k__law_greedy fun _ _ _ _ _ _ us hl => match us, hl with | [_, _], _ => rfl
  have d__law_spoilt : DefAt K mg "_law_spoilt" s_law_spoilt ["store", "row", "n"] := defAt_mk X G a__law_spoilt l__law_spoilt c__law_spoilt k__law_spoilt fun _ _ _ _ _ _ us hl => match us, hl with | [_, _, _], _ => rfl
  have d__law_copy : DefAt K mg "_law_copy" s_law_copy ["ring"] := defAt_mk X G a__law_copy l__law_copy c__law_copy k__law_copy fun _ _ _ _ _ _ us hl => match us, hl with | [_], _ => rfl
  have d_is_number : DefAt K mg "is_number" sis_number ["thing", "beyond"] := defAt_mk X G a_is_number l_is_number c_is_number k_is_number fun _ _ _ _ _ _ us hl => match us, hl with | [_, _], _ => rfl
  have d_is_arc : DefAt K mg "is_arc" sis_arc ["thing", "n"] := defAt_mk X G a_is_arc l_is_arc c_is_arc k_is_arc fun _ _ _ _ _ _ us hl => match us, hl with | [_, _], _ => rfl
  have d_is_ring : DefAt K mg "is_ring" sis_ring ["thing"] := defAt_mk X G a_is_ring l_is_ring c_is_ring k_is_ring fun _ _ _ _ _ _ us hl => match us, hl with | [_], _ => rfl
  have d_need_ring : DefAt K mg "need_ring" sneed_ring ["thing"] := defAt_mk X G a_need_ring l_need_ring c_need_ring k_need_ring fun _ _ _ _ _ _ us hl => match us, hl with | [_], _ => rfl
  have d_is_rising : DefAt K mg "is_rising" sis_rising ["thing", "beyond"] := defAt_mk X G a_is_rising l_is_rising c_is_rising k_is_rising fun _ _ _ _ _ _ us hl => match us, hl with | [_, _], _ => rfl
  have d_holds : DefAt K mg "holds" sholds ["n", "arc", "place"] := defAt_mk X G a_holds l_holds c_holds k_holds fun _ _ _ _ _ _ us hl => match us, hl with | [_, _, _], _ => rfl
  have d_hits_all : DefAt K mg "hits_all" shits_all ["ring", "thing"] := defAt_mk X G a_hits_all l_hits_all c_hits_all k_hits_all fun _ _ _ _ _ _ us hl => match us, hl with | [_, _], _ => rfl
  have d__law_rising : DefAt K mg "_law_rising" s_law_rising ["thing", "beyond"] := defAt_mk X G a__law_rising l__law_rising c__law_rising k__law_rising fun _ _ _ _ _ _ us hl => match us, hl with | [_, _], _ => rfl
  have d__law_hits : DefAt K mg "_law_hits" s_law_hits ["ring", "thing"] := defAt_mk X G a__law_hits l__law_hits c__law_hits k__law_hits fun _ _ _ _ _ _ us hl => match us, hl with | [_, _], _ => rfl
  have d__law_right : DefAt K mg "_law_right" s_law_right ["ring", "thing"] := defAt_mk X G a__law_right l__law_right c__law_right k__law_right fun _ _ _ _ _ _ us hl => match us, hl with | [_, _], _ => rfl
  have d_law : DefAt K mg "law" slaw ["script"] := defAt_mk X G a_law l_law c_law k_law fun _ _ _ _ _ _ us hl => match us, hl with | [_], _ => rfl
  obtain ⟨f, fd, F, hm, hb, bt⟩ := d_law.ex
  have e := hfa.symm.trans hm
  cases e
  refine ⟨(fun n => match n with | 0 => C_NoRing | _ => 0), fd, noL, fun s v => bt s [v] rfl, fun base _ _ hsm => ?_⟩
  have T : Top K mg base bnL cnL GXL (fun n => match n with | 0 => C_NoRing | _ => 0) := {
    sm := hsm
    bn := all_cons (PySem.W.mg_none_of X G z_len) (all_cons (PySem.W.mg_none_of X G z_min) (all_cons (PySem.W.mg_none_of X G z_max) (all_cons (PySem.W.mg_none_of X G z_sum) (all_cons (PySem.W.mg_none_of X G z_sorted) (all_cons (PySem.W.mg_none_of X G z_list) (all_cons (PySem.W.mg_none_of X G z_tuple) (all_cons (PySem.W.mg_none_of X G z_abs) (all_cons (PySem.W.mg_none_of X G z_int) (all_cons (PySem.W.mg_none_of X G z_str) (all_cons (PySem.W.mg_none_of X G z_isinstance) (all_cons (PySem.W.mg_none_of X G z_bool) (all_cons (PySem.W.mg_none_of X G z_range) (all_cons (PySem.W.mg_none_of X G z_enumerate) (all_cons (PySem.W.mg_none_of X G z_zip) (all_cons (PySem.W.mg_none_of X G z_set) (all_cons (PySem.W.mg_none_of X G z_repr) (all_cons (PySem.W.mg_none_of X G z_dict) (all_nil))))))))))))))))))
    cn := cn_cons (PySem.W.mg_of X G n_MOST_PLACES) (cn_cons (PySem.W.mg_of X G n_MOST_ARCS) (cn_nil))
    gx := ex_cons (exF_mk X G xa_NoRing xe_NoRing xk_NoRing xb_NoRing xt_NoRing) (ex_nil) }
  have h_law_draws := g_law_draws (P := P) (w := w) (base := base) T d__law_draws 
  have h_law_take := g_law_take (P := P) (w := w) (base := base) T d__law_take 
  have h_law_arc := g_law_arc (P := P) (w := w) (base := base) T d__law_arc h_law_take
  have h_law_ring := g_law_ring (P := P) (w := w) (base := base) T d__law_ring h_law_take h_law_arc
  have h_law_held := g_law_held (P := P) (w := w) (base := base) T d__law_held 
  have h_law_greedy := g_law_greedy (P := P) (w := w) (base := base) T d__law_greedy h_law_held
  have h_law_spoilt := g_law_spoilt (P := P) (w := w) (base := base) T d__law_spoilt h_law_take
  have h_law_copy := g_law_copy (P := P) (w := w) (base := base) T d__law_copy 
  have his_number := gis_number (P := P) (w := w) (base := base) T d_is_number 
  have his_arc := gis_arc (P := P) (w := w) (base := base) T d_is_arc his_number
  have his_ring := gis_ring (P := P) (w := w) (base := base) T d_is_ring his_number his_arc
  have hneed_ring := gneed_ring (P := P) (w := w) (base := base) T d_need_ring his_ring
  have his_rising := gis_rising (P := P) (w := w) (base := base) T d_is_rising his_number
  have hholds := gholds (P := P) (w := w) (base := base) T d_holds 
  have hhits_all := ghits_all (P := P) (w := w) (base := base) T d_hits_all hneed_ring his_rising hholds
  have h_law_rising := g_law_rising (P := P) (w := w) (base := base) T d__law_rising 
  have h_law_hits := g_law_hits (P := P) (w := w) (base := base) T d__law_hits h_law_rising h_law_held
  have h_law_right := g_law_right (P := P) (w := w) (base := base) T d__law_right h_law_copy hhits_all h_law_hits
  exact glaw T F h_law_draws h_law_ring h_law_greedy h_law_spoilt h_law_take h_law_right
end
end Ac
open PySem PySem.W PyProof.Rows
set_option maxRecDepth 100000 in
set_option maxHeartbeats 0 in
theorem PySem.Challenge.cw_arcpins_k07_points_that_hit_holds : PySem.Challenge.rw_arcpins_k07_points_that_hit.Holds := by
  w_on; o_law; k_head; (case hw => w_witness2)
  k_fill
  refine Ac.walk_ofC (l := PySem.Challenge.rw_arcpins_k07_points_that_hit) (n := 63) (k := 7) (x := "script") rfl (by decide) rfl ⟨rfl, by decide, by decide⟩ (by first | rfl | decide +kernel) (fun w h Y => PySem.W.kIn_of Y) ?F
  case F =>
    intro w mg fa h KX G hmg
    refine' Ac.all_mk KX G hmg ?z_len ?z_min ?z_max ?z_sum ?z_sorted ?z_list ?z_tuple ?z_abs ?z_int ?z_str ?z_isinstance ?z_bool ?z_range ?z_enumerate ?z_zip ?z_set ?z_repr ?z_dict ?n_MOST_PLACES ?n_MOST_ARCS ?xa_NoRing ?xe_NoRing ?xk_NoRing ?xb_NoRing ?xt_NoRing ?a__law_draws ?l__law_draws ?c__law_draws ?k__law_draws ?a__law_take ?l__law_take ?c__law_take ?k__law_take ?a__law_arc ?l__law_arc ?c__law_arc ?k__law_arc ?a__law_ring ?l__law_ring ?c__law_ring ?k__law_ring ?a__law_held ?l__law_held ?c__law_held ?k__law_held ?a__law_greedy ?l__law_greedy ?c__law_greedy ?k__law_greedy ?a__law_spoilt ?l__law_spoilt ?c__law_spoilt ?k__law_spoilt ?a__law_copy ?l__law_copy ?c__law_copy ?k__law_copy ?a_is_number ?l_is_number ?c_is_number ?k_is_number ?a_is_arc ?l_is_arc ?c_is_arc ?k_is_arc ?a_is_ring ?l_is_ring ?c_is_ring ?k_is_ring ?a_need_ring ?l_need_ring ?c_need_ring ?k_need_ring ?a_is_rising ?l_is_rising ?c_is_rising ?k_is_rising ?a_holds ?l_holds ?c_holds ?k_holds ?a_hits_all ?l_hits_all ?c_hits_all ?k_hits_all ?a__law_rising ?l__law_rising ?c__law_rising ?k__law_rising ?a__law_hits ?l__law_hits ?c__law_hits ?k__law_hits ?a__law_right ?l__law_right ?c__law_right ?k__law_right ?a_law ?l_law ?c_law ?k_law ?noL
    (case z_len => k_is); (case z_min => k_is); (case z_max => k_is); (case z_sum => k_is); (case z_sorted => k_is); (case z_list => k_is); (case z_tuple => k_is); (case z_abs => k_is); (case z_int => k_is); (case z_str => k_is); (case z_isinstance => k_is); (case z_bool => k_is); (case z_range => k_is); (case z_enumerate => k_is); (case z_zip => k_is); (case z_set => k_is); (case z_repr => k_is); (case z_dict => k_is); (case n_MOST_PLACES => k_is); (case n_MOST_ARCS => k_is); (case xa_NoRing => k_is); (case xe_NoRing => first | k_exc | k_is); (case xk_NoRing => k_is); (case xb_NoRing => k_is); (case xt_NoRing => k_is); (case a__law_draws => k_is); (case l__law_draws => k_is); (case c__law_draws => k_is); (case k__law_draws => k_is); (case a__law_take => k_is); (case l__law_take => k_is); (case c__law_take => k_is); (case k__law_take => k_is); (case a__law_arc => k_is); (case l__law_arc => k_is); (case c__law_arc => k_is); (case k__law_arc => k_is); (case a__law_ring => k_is); (case l__law_ring => k_is); (case c__law_ring => k_is); (case k__law_ring => k_is); (case a__law_held => k_is); (case l__law_held => k_is); (case c__law_held => k_is); (case k__law_held => k_is); (case a__law_greedy => k_is); (case l__law_greedy => k_is); (case c__law_greedy => k_is); (case k__law_greedy => k_is); (case a__law_spoilt => k_is); (case l__law_spoilt => k_is); (case c__law_spoilt => k_is); (case k__law_spoilt => k_is); (case a__law_copy => k_is); (case l__law_copy => k_is); (case c__law_copy => k_is); (case k__law_copy => k_is); (case a_is_number => k_is); (case l_is_number => k_is); (case c_is_number => k_is); (case k_is_number => k_is); (case a_is_arc => k_is); (case l_is_arc => k_is); (case c_is_arc => k_is); (case k_is_arc => k_is); (case a_is_ring => k_is); (case l_is_ring => k_is); (case c_is_ring => k_is); (case k_is_ring => k_is); (case a_need_ring => k_is); (case l_need_ring => k_is); (case c_need_ring => k_is); (case k_need_ring => k_is); (case a_is_rising => k_is); (case l_is_rising => k_is); (case c_is_rising => k_is); (case k_is_rising => k_is); (case a_holds => k_is); (case l_holds => k_is); (case c_holds => k_is); (case k_holds => k_is); (case a_hits_all => k_is); (case l_hits_all => k_is); (case c_hits_all => k_is); (case k_hits_all => k_is); (case a__law_rising => k_is); (case l__law_rising => k_is); (case c__law_rising => k_is); (case k__law_rising => k_is); (case a__law_hits => k_is); (case l__law_hits => k_is); (case c__law_hits => k_is); (case k__law_hits => k_is); (case a__law_right => k_is); (case l__law_right => k_is); (case c__law_right => k_is); (case k__law_right => k_is); (case a_law => k_is); (case l_law => k_is); (case c_law => k_is); (case k_law => k_is); (case noL => first | rfl | k_is)
